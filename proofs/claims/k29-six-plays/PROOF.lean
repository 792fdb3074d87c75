import PyProof.Rows.All
import Wide.All
import OpenK.AllK
import Wide.FinOn
import KE.DataAny
import KE.DataCmp
import KE.DataIsa
import KE.SortData
import PyProof.ReprReads
import HandS.ForMost
import HandS.TupAny
import HandS.TupMul
import HandS.IsInst
import HandS.Zip
import HandS.Walk
import HandS.Conv
import HandS.ExcOwn
import HandS.WordsExc
import HandS.Defaults
import HandS.Style
import HandS.Flow
import HandS.Wide
import KE.KDictSum
import HandS.Deep
import KE.GoesMore
import HandS.Ends
import HandS.HeadEnd
import HandS.HeadHook2
import HandS.HeadHook1
import HandS.Head0
import HandS.Head1
import HandS.Head2
import Lean
import PySem.Challenge.RW_wearkeys_k29_whole_six_plays_are_enough
section
set_option Elab.async false
set_option linter.all false
set_option maxRecDepth 100000
/-! the interpreter: values, state, primitive operations, evaluation -/
namespace Iw
open PySem

/-- values: data, an object of the run's own store, the script -/
inductive PV where
  | d (x : PyData)
  | ref (n : Nat)
  | scr (ns : List Int)
inductive Ob where
  | lst (xs : List PV)
  /-- a dict by ints and texts, one by flat tuples of these -/
  | dK (kvs : List (L2.Key × PV))
  | dT (kvs : List (List L2.Key × PV))
abbrev Hs := List Ob
abbrev Sg := List (Option PV)
inductive R (α : Type) where
  | ok (a : α) (h : Hs)
  | exc (c : Str) (h : Hs)
  | bad
def R.bind {α β : Type} (r : R α) (f : α → Hs → R β) : R β := match r with
  | .ok a h => f a h
  | .exc c h => .exc c h
  | .bad => .bad
def R.of {α : Type} (o : Option α) (h : Hs) : R α := match o with
  | some a => .ok a h
  | none => .bad
@[simp] theorem R.bind_ok {α β : Type} (a : α) (h : Hs) (f : α → Hs → R β) : (R.ok a h).bind f = f a h := rfl
@[simp] theorem R.bind_exc {α β : Type} (c : Str) (h : Hs) (f : α → Hs → R β) : (R.exc c h : R α).bind f = .exc c h := rfl
@[simp] theorem R.bind_bad {α β : Type} (f : α → Hs → R β) : (R.bad : R α).bind f = .bad := rfl
@[simp] theorem R.of_some {α : Type} (a : α) (h : Hs) : R.of (some a) h = .ok a h := rfl
@[simp] theorem R.of_none {α : Type} (h : Hs) : R.of (none : Option α) h = .bad := rfl

inductive BO where
  | add | sub | mul | fdv | mod | pow
  deriving DecidableEq
inductive CO where
  | eq | ne | lt | le | gt | ge | isin | nin
  deriving DecidableEq
inductive Bi where
  | all | any | len | int1 | bool1 | str1 | repr | max2 | min2 | max1 | min1 | sum | tuple1 | list1 (mt : Bool) | srt1 (mt : Bool) | dict1
  deriving DecidableEq
/-- targets; tp t: a tuple of the targets chained in t -/
inductive Tg where
  | nm (i : Nat)
  | nil
  | cons (a b : Tg)
inductive E where
  | loc (i : Nat)
  | lit (x : PyData)
  | bin (o : BO) (a b : E)
  | neg (a : E)
  | not (a : E)
  | and (a b : E)
  | or (a b : E)
  | cmp (o : CO) (a b : E)
  | chain (o p : CO) (a b c : E)
  | isNon (a : E)
  | notNon (a : E)
  | isBool (v : Bool) (a : E)
  | ite (c a b : E)
  | nil
  | cons (a b : E)
  | tup (as : E)
  | lst (mt : Bool) (as : E)
  | isi (a : E) (T : String)
  | call (f : Str) (as : E)
  | bi (b : Bi) (as : E)
  | ix (a i : E)
  | nop
  | prt (a : E)
  | cnd (a : E)
  | sl (a lo hi : E)
  | rev (a : E)
  | app (o x : E)
  | ext (o x : E)
  | pop (o : E)
  | popAt (o i : E)
  | cnt (o x : E)
  | idx (o x : E)
  | lsR (tp mt : Bool) (a b : E)
  | comp (mt : Bool) (own : List Nat) (tg : Tg) (it cnd elt : E)
  | dnew (t : Bool)
  | dget (o x y : E)
  | stk
  | iVal (e : E)
  | iR1 (a : E)
  | iR2 (a b : E)
  | iZip (a b : E)
  | iEnu (a : E)
inductive S where
  | skip
  | seq (a b : S)
  | asg (t : Tg) (e : E)
  | par (is : List Nat) (as : E)
  | sub (o i v : E)
  | aug (i : Nat) (e : E)
  | ex (e : E)
  | for_ (t : Tg) (it : E) (b : S)
  | whl (c : E) (b : S)
  | ife (c : E) (a b : S)
  | ret (e : E)
  | stk
  | brk
  | cont
/-- kp: a list of the call's own that is handed back stays one -/
structure Fd where
  np : Nat
  ns : Nat
  kp : Bool
  body : S
abbrev Pg := List (Str × Fd)

/-! ### primitive operations -/
def line : Nat := 16777216
abbrev int (i : Int) : PV := .d (.int i)
abbrev bool (b : Bool) : PV := .d (.bool b)
def datas : List PV → Option (List PyData)
  | [] => some []
  | .d x :: r => (datas r).map (x :: ·)
  | _ :: _ => none
/-- a list's items -/
def getL (h : Hs) : PV → Option (List PV)
  | .d (.list ds) => some (ds.map .d)
  | .ref n => match h[n]? with
    | some (.lst xs) => some xs
    | _ => none
  | _ => none
/-- a list that the run makes -/
def mkL (mt : Bool) (xs : List PV) (h : Hs) : R PV := match mt with
  | true => .ok (.ref h.length) (h ++ [.lst xs])
  | false => R.of ((datas xs).map fun ds => .d (.list ds)) h
def storeOk (k n : Nat) : PV → Bool
  | .d _ => true
  | .ref _ => decide (k ≤ n)
  | .scr _ => false
def mulOk (i j : Int) : Bool := decide ((-(2 ^ 64) < i ∧ i < 2 ^ 64) ∨ (-(2 ^ 64) < j ∧ j < 2 ^ 64))
def cut {α : Type} (xs : List α) (lo hi : Option Int) : List α := (xs.drop (HT.sIx xs.length 0 lo)).take (HT.sIx xs.length xs.length hi - HT.sIx xs.length 0 lo)
def binop (o : BO) (a b : PV) (h : Hs) : R PV := match o, a, b with
  | .add, .d (.int i), .d (.int j) => .ok (int (i + j)) h
  | .sub, .d (.int i), .d (.int j) => .ok (int (i - j)) h
  | .mul, .d (.int i), .d (.int j) => if mulOk i j = true then .ok (int (i * j)) h else .bad
  | .fdv, .d (.int i), .d (.int j) => if j ≠ 0 ∧ j.natAbs < 18446744073709551616 then .ok (int (i.fdiv j)) h else .bad
  | .mod, .d (.int i), .d (.int j) => if j ≠ 0 then .ok (int (i.fmod j)) h else .bad
  | .pow, .d (.int i), .d (.int j) => if 0 ≤ j ∧ j ≤ 1000000 ∧ i.natAbs < 2 ^ 64 then .ok (int (i ^ j.toNat)) h else .bad
  | .add, .d (.str i), .d (.str j) => if i.length + j.length ≤ line then .ok (.d (.str (i ++ j))) h else .bad
  | .add, .d (.tuple xs), .d (.tuple ys) => if xs.length + ys.length ≤ line then .ok (.d (.tuple (xs ++ ys))) h else .bad
  | .mul, .d (.tuple xs), .d (.int k) => if 0 ≤ k ∧ k ≤ 1000 ∧ xs.length ≤ 1000 then .ok (.d (.tuple (List.replicate k.toNat xs).flatten)) h else .bad
  | .mul, .d (.list xs), .d (.int k) => if 0 ≤ k ∧ k ≤ 1000 ∧ xs.length ≤ 1000 then .ok (.d (.list (List.replicate k.toNat xs).flatten)) h else .bad
  | .add, a, b => match getL h a, getL h b with
    | some xs, some ys => if xs.length + ys.length ≤ line then mkL false (xs ++ ys) h else .bad
    | _, _ => .bad
  | _, _, _ => .bad
def deep : Nat := 60
/-- the things may be compared by == -/
def eqOk (x y : PyData) : Bool := x.plain && (y.plain && decide (min x.depth y.depth ≤ deep))
def ltOk (x y : PyData) : Bool := PySem.W.alike x y && (decide (min x.depth y.depth ≤ deep) && match x with | .none => false | _ => true)
/-- a frozen view of a value, one level of the store resolved -/
def view (h : Hs) : PV → Option PyData
  | .d x => some x
  | .ref n => match h[n]? with
    | some (.lst xs) => (datas xs).map .list
    | _ => none
  | .scr _ => none
def keyOf : PyData → Option L2.Key
  | .int i => some (.inl i)
  | .str x => some (.inr x)
  | _ => none
def keysOf1 : List PyData → Option (List L2.Key)
  | [] => some []
  | d :: r => (keyOf d).bind fun k => (keysOf1 r).map (k :: ·)
def keysOf : PyData → Option (List L2.Key)
  | .tuple ds => keysOf1 ds
  | _ => none
section
variable {κ : Type} [DecidableEq κ]
def valP (kvs : List (κ × PV)) (k : κ) : Option PV := (kvs.find? fun kv => decide (kv.1 = k)).map (·.2)
def putP (kvs : List (κ × PV)) (k : κ) (v : PV) : List (κ × PV) :=
  if (kvs.any fun kv => decide (kv.1 = k)) = true then kvs.map (fun kv => if kv.1 = k then (kv.1, v) else kv) else kvs ++ [(k, v)]
end
/-- what a dict holds there: the outer one is none where it is no dict, or no key of its kind -/
def dgetO : Ob → PyData → Option (Option PV)
  | .lst _, _ => none
  | .dK kvs, d => (keyOf d).map (valP kvs)
  | .dT kvs, d => (keysOf d).map (valP kvs)
def dputO : Ob → PyData → PV → Option Ob
  | .lst _, _, _ => none
  | .dK kvs, d, v => if kvs.length < line then (keyOf d).map fun k => .dK (putP kvs k v) else none
  | .dT kvs, d, v => if kvs.length < line then (keysOf d).map fun k => .dT (putP kvs k v) else none
def dgetv (h : Hs) (c : PV) (d : PyData) : Option (Option PV) := match c with
  | .ref n => match h[n]? with
    | some o => dgetO o d
    | none => none
  | _ => none
def isIn1 (h : Hs) (x c : PV) : Option Bool := match x, view h c with
  | .d x, some (.list ys) => if (x.plain && (PyData.plainAll ys && decide (x.depth ≤ deep))) = true then some (ys.any fun y => PyData.eqv y x) else none
  | .d x, some (.tuple ys) => if (x.plain && (PyData.plainAll ys && decide (x.depth ≤ deep))) = true then some (ys.any fun y => PyData.eqv y x) else none
  | _, _ => none
def isIn (h : Hs) (x c : PV) : Option Bool := match x with
  | .d d => match dgetv h c d with
    | some o => some o.isSome
    | none => isIn1 h x c
  | _ => none
def cmpop (o : CO) (a b : PV) (h : Hs) : Option Bool := match o with
  | .isin => isIn h a b
  | .nin => (isIn h a b).map (!·)
  | o => match view h a, view h b with
    | some x, some y => match o with
      | .eq => if eqOk x y = true then some (PyData.eqv x y) else none
      | .ne => if eqOk x y = true then some (!PyData.eqv x y) else none
      | .lt => if ltOk x y = true then some (PySem.W.dataLt x y) else none
      | .gt => if ltOk x y = true then some (PySem.W.dataLt y x) else none
      | .le => if ltOk x y = true then some (!PySem.W.dataLt y x) else none
      | .ge => if ltOk x y = true then some (!PySem.W.dataLt x y) else none
      | _ => none
    | _, _ => none
def tru (h : Hs) : PV → Option Bool
  | .d .none => some false
  | .d (.bool b) => some b
  | .d (.int i) => some (i != 0)
  | .d (.str x) => if x.length ≤ line then some (x.length != 0) else none
  | .d (.list xs) => some (!xs.isEmpty)
  | .d (.tuple xs) => some (!xs.isEmpty)
  | .d (.dict _) => none
  | .ref n => match h[n]? with
    | some (.lst xs) => some (!xs.isEmpty)
    | _ => none
  | .scr _ => none
def isiT (h : Hs) (T : String) : PV → Option Bool
  | .d x => match T with
    | "int" => some x.isInt
    | "bool" => some x.isBool
    | "str" => some x.isStr
    | "tuple" => some x.isTuple
    | "list" => some x.isList
    | "dict" => some x.isDict
    | _ => none
  | _ => none
def bools : List PV → Option (List Bool)
  | [] => some []
  | .d (.bool b) :: r => (bools r).map (b :: ·)
  | _ :: _ => none
def intsOf : List PV → Option (List Int)
  | [] => some []
  | .d (.int b) :: r => (intsOf r).map (b :: ·)
  | _ :: _ => none
def leastI : Int → List Int → Int
  | m, [] => m
  | m, x :: r => leastI (min m x) r
def mostI : Int → List Int → Int
  | m, [] => m
  | m, x :: r => mostI (max m x) r
def lenOf (h : Hs) : PV → Option Nat
  | .d (.str x) => if x.length ≤ line then some x.length else none
  | .d (.tuple xs) => some xs.length
  | .scr ns => some ns.length
  | v => (getL h v).map (·.length)
def int1v : PV → Hs → R PV
  | .d (.int i), h => .ok (int i) h
  | .d (.bool b), h => .ok (int (cond b 1 0)) h
  | _, _ => .bad
def bool1v : PV → Hs → R PV
  | .d (.int i), h => .ok (bool (i != 0)) h
  | .d (.bool b), h => .ok (bool b) h
  | _, _ => .bad
def str1v : PV → Hs → R PV
  | .d (.int i), h => if i.natAbs.log2 < 1920 then .ok (.d (.str (toString i : String))) h else .bad
  | _, _ => .bad
def reprOk (x : PyData) : Bool := x.showable && (!x.hasDict && (decide (x.depth ≤ deep) && decide (x.shown.length ≤ line)))
def reprv : PV → Hs → R PV
  | .d x, h => if reprOk x = true then .ok (.d (.str x.shown)) h else .bad
  | _, _ => .bad
def max2v : PV → PV → Hs → R PV
  | .d (.int i), .d (.int j), h => .ok (int (if j > i then j else i)) h
  | _, _, _ => .bad
def min2v : PV → PV → Hs → R PV
  | .d (.int i), .d (.int j), h => .ok (int (if j < i then j else i)) h
  | _, _, _ => .bad
/-- a list's items, a tuple's -/
def itemsOf (h : Hs) : PV → Option (List PV)
  | .d (.tuple ds) => some (ds.map .d)
  | v => getL h v
def keyD : L2.Key → PyData
  | .inl i => .int i
  | .inr x => .str x
/-- a list's items, a dict's keys -/
def keysAll (h : Hs) (v : PV) : Option (List PV) := match v with
  | .ref n => match h[n]? with
    | some (.dT kvs) => some (kvs.map fun kv => .d (.tuple (kv.1.map keyD)))
    | some (.dK kvs) => some (kvs.map fun kv => .d (keyD kv.1))
    | _ => getL h v
  | v => getL h v
def srtD (ds : List PyData) : List PyData := ds.mergeSort (PySem.W.dataLe false id)
def sortable (ds : List PyData) : Bool := (ds.all fun d => match d with | .tuple (_ :: _) => true | _ => false) || (ds.all fun d => match d with | .tuple _ => false | .none => false | _ => true)
def srtOk (ds : List PyData) : Bool := (ds.all fun a => ds.all fun b => PySem.W.alike a b) && (sortable ds && (decide (ds.length ≤ line) && ds.all fun d => decide (d.depth ≤ deep)))
/-- pairs of a key and a thing -/
def pairsK : List PyData → Option (List (L2.Key × PyData))
  | [] => some []
  | .tuple [k, v] :: r => (keyOf k).bind fun q => (pairsK r).map ((q, v) :: ·)
  | _ :: _ => none
def mergeP {κ : Type} [DecidableEq κ] (kvs more : List (κ × PV)) : List (κ × PV) := more.foldl (fun acc kv => putP acc kv.1 kv.2) kvs
def dict1v : PV → Hs → R PV
  | .d (.list ds), h => match pairsK ds with
    | some kvs => .ok (.ref h.length) (h ++ [.dK (mergeP [] (kvs.map fun kv => (kv.1, .d kv.2)))])
    | none => .bad
  | _, _ => .bad
def bi1 (b : Bi) (v : PV) (h : Hs) : R PV := match b with
  | .all => R.of (((getL h v).bind bools).map fun bs => bool (bs.all id)) h
  | .any => R.of (((getL h v).bind bools).map fun bs => bool (bs.any id)) h
  | .len => R.of ((lenOf h v).map fun n : Nat => int n) h
  | .int1 => int1v v h
  | .bool1 => bool1v v h
  | .str1 => str1v v h
  | .repr => reprv v h
  | .max1 => match (getL h v).bind intsOf with
    | some (x :: r) => .ok (int (mostI x r)) h
    | _ => .bad
  | .min1 => match (getL h v).bind intsOf with
    | some (x :: r) => .ok (int (leastI x r)) h
    | _ => .bad
  | .sum => R.of (((getL h v).bind intsOf).map fun ns => int ns.sum) h
  | .tuple1 => match (itemsOf h v).bind datas with
    | some ds => if ds.length ≤ line then .ok (.d (.tuple ds)) h else .bad
    | none => .bad
  | .list1 mt => match itemsOf h v with
    | some xs => if xs.length ≤ line then mkL mt xs h else .bad
    | none => .bad
  | .srt1 mt => match (keysAll h v).bind datas with
    | some ds => if srtOk ds = true then mkL mt ((srtD ds).map .d) h else .bad
    | none => .bad
  | .dict1 => dict1v v h
  | .max2 => .bad
  | .min2 => .bad
def bi2 (b : Bi) (v w : PV) (h : Hs) : R PV := match b with
  | .max2 => max2v v w h
  | .min2 => min2v v w h
  | _ => .bad
def biop (b : Bi) (vs : List PV) (h : Hs) : R PV := match vs with
  | [v] => bi1 b v h
  | [v, w] => bi2 b v w h
  | _ => .bad
def getIx (h : Hs) (v : PV) (i : Int) : Option PV := match v with
  | .d (.tuple ds) => (L2.atI ds i).map .d
  | .d (.str z) => if z.length ≤ line then (L2.atI z.cps.toList i).map fun c => .d (.str ⟨#[c]⟩) else none
  | .scr ns => (L2.atI ns i).map int
  | v => (getL h v).bind fun xs => L2.atI xs i
def slice (v : PV) (lo hi : Option Int) (h : Hs) : R PV := match v with
  | .d (.tuple ds) => .ok (.d (.tuple (cut ds lo hi))) h
  | .d (.str z) => if z.length ≤ line then .ok (.d (.str ⟨(cut z.cps.toList lo hi).toArray⟩)) h else .bad
  | v => match getL h v with
    | some xs => mkL false (cut xs lo hi) h
    | none => .bad
def asg : Tg → PV → Sg → Option Sg
  | .nm i, v, σ => some (σ.set i (some v))
  | .nil, .d (.tuple []), σ => some σ
  | .nil, _, _ => none
  | .cons a b, .d (.tuple (x :: r)), σ => (asg a (.d x) σ).bind (asg b (.d (.tuple r)))
  | .cons _ _, _, _ => none
inductive It where
  | fx (xs : List PV)
  | lv (n : Nat)
def pairs : List PyData → List PyData → List PV
  | x :: xs, y :: ys => .d (.tuple [x, y]) :: pairs xs ys
  | _, _ => []
def enums : Nat → List PyData → List PV
  | _, [] => []
  | n, x :: xs => .d (.tuple [.int n, x]) :: enums (n + 1) xs
def seqD : PV → Option (List PyData)
  | .d (.list ds) => some ds
  | .d (.tuple ds) => some ds
  | _ => none
def rngL (lo : Int) : Nat → List PV
  | 0 => []
  | n + 1 => int lo :: rngL (lo + 1) n
def big : Nat := 1000000000000
/-- all items of what is walked, as it stands -/
def itAll (h : Hs) : It → Option (List PV)
  | .fx xs => some xs
  | .lv n => getL h (.ref n)
/-- comprehension over fixed items -/
def compF (st : PV → Hs → R (Option PV)) : List PV → Hs → R (List PV)
  | [], h => .ok [] h
  | x :: xs, h => (st x h).bind fun o h1 => (compF st xs h1).bind fun ys h2 => .ok (match o with | some y => y :: ys | none => ys) h2
/-- comprehension over a list of the store, as it stands at each turn -/
def compV (st : PV → Hs → R (Option PV)) (n : Nat) : Nat → Nat → Hs → R (List PV)
  | 0, _, _ => .bad
  | f + 1, i, h => match getL h (.ref n) with
    | none => .bad
    | some xs => match xs[i]? with
      | none => .ok [] h
      | some x => (st x h).bind fun o h1 => (compV st n f (i + 1) h1).bind fun ys h2 => .ok (match o with | some y => y :: ys | none => ys) h2
def noExc {α : Type} : R α → R α
  | .exc _ _ => .bad
  | r => r
inductive Fl where
  | nx
  | rt (v : PV)
  | bk
  | ct
/-- a for's turns -/
def forF (tg : Tg) (bd : Sg → Hs → R (Fl × Sg)) : List PV → Sg → Hs → R (Fl × Sg)
  | [], σ, h => .ok (.nx, σ) h
  | x :: xs, σ, h => match asg tg x σ with
    | none => .bad
    | some σ1 => (bd σ1 h).bind fun p h2 => match p.1 with
      | .nx => forF tg bd xs p.2 h2
      | .ct => forF tg bd xs p.2 h2
      | .bk => .ok (.nx, p.2) h2
      | .rt v => .ok (.rt v, p.2) h2
def forV (tg : Tg) (bd : Sg → Hs → R (Fl × Sg)) (n : Nat) : Nat → Nat → Sg → Hs → R (Fl × Sg)
  | 0, _, _, _ => .bad
  | f + 1, i, σ, h => match getL h (.ref n) with
    | none => .bad
    | some xs => match xs[i]? with
      | none => .ok (.nx, σ) h
      | some x => match asg tg x σ with
        | none => .bad
        | some σ1 => (bd σ1 h).bind fun p h2 => match p.1 with
          | .nx => forV tg bd n f (i + 1) p.2 h2
          | .ct => forV tg bd n f (i + 1) p.2 h2
          | .bk => .ok (.nx, p.2) h2
          | .rt v => .ok (.rt v, p.2) h2
def whlF (c : Sg → Hs → R Bool) (bd : Sg → Hs → R (Fl × Sg)) : Nat → Sg → Hs → R (Fl × Sg)
  | 0, _, _ => .bad
  | f + 1, σ, h => (c σ h).bind fun b h1 => match b with
    | false => .ok (.nx, σ) h1
    | true => (bd σ h1).bind fun p h2 => match p.1 with
      | .nx => whlF c bd f p.2 h2
      | .ct => whlF c bd f p.2 h2
      | .bk => .ok (.nx, p.2) h2
      | .rt v => .ok (.rt v, p.2) h2
def wipe (σ : Sg) : List Nat → Sg
  | [] => σ
  | v :: vs => (wipe σ vs).set v none
def optI (v : PV) : Option (Option Int) := match v with
  | .d (.int i) => some (some i)
  | _ => none

/-! ### evaluation -/
/-- what an expression denotes: as a value, as arguments, as a test, as what is walked, as a slice's part -/
structure Dn where
  e : Sg → Hs → R PV
  a : Sg → Hs → R (List PV)
  t : Sg → Hs → R Bool
  i : Sg → Hs → R It
  o : Sg → Hs → R (Option Int)
def tOf (e : Sg → Hs → R PV) : Sg → Hs → R Bool := fun σ h => (e σ h).bind fun x h1 => R.of (tru h1 x) h1
def oOf (e : Sg → Hs → R PV) : Sg → Hs → R (Option Int) := fun σ h => (e σ h).bind fun x h1 => R.of (optI x) h1
/-- a value's -/
def Dn.val (e : Sg → Hs → R PV) : Dn := ⟨e, fun _ _ => .bad, tOf e, fun _ _ => .bad, oOf e⟩
def Dn.arg (a : Sg → Hs → R (List PV)) : Dn := ⟨fun _ _ => .bad, a, fun _ _ => .bad, fun _ _ => .bad, fun _ _ => .bad⟩
def Dn.itr (i : Sg → Hs → R It) : Dn := ⟨fun _ _ => .bad, fun _ _ => .bad, fun _ _ => .bad, i, fun _ _ => .bad⟩
def Dn.stk : Dn := ⟨fun _ _ => .bad, fun _ _ => .bad, fun _ _ => .bad, fun _ _ => .bad, fun _ _ => .bad⟩
def Dn.non : Dn := ⟨fun _ _ => .bad, fun _ _ => .bad, fun _ h => .ok true h, fun _ _ => .bad, fun _ h => .ok none h⟩
def compSt (own : List Nat) (tg : Tg) (c : Sg → Hs → R Bool) (el : Sg → Hs → R PV) (σ : Sg) (x : PV) (h : Hs) : R (Option PV) := match asg tg x (wipe σ own) with
  | none => .bad
  | some σ1 => (c σ1 h).bind fun b h3 => match b with
    | true => (el σ1 h3).bind fun y h4 => .ok (some y) h4
    | false => .ok none h3
def compGo (st : PV → Hs → R (Option PV)) (J : It) (h : Hs) : R (List PV) := noExc (match J with
  | .fx xs => compF st xs h
  | .lv n => compV st n big 0 h)
def negv : PV → Hs → R PV
  | .d (.int i), h => .ok (int (-i)) h
  | _, _ => .bad
def isNonV : PV → Bool
  | .d .none => true
  | _ => false
def isBoolv (v : Bool) (x : PV) (h : Hs) : R PV := match x with
  | .d (.bool c) => .ok (bool (decide (c = v))) h
  | _ => .bad
def tupOf (vs : List PV) (h : Hs) : R PV := match datas vs with
  | some ds => if ds.length ≤ line then .ok (.d (.tuple ds)) h else .bad
  | none => .bad
def lstOf (mt : Bool) (vs : List PV) (h : Hs) : R PV := if vs.length ≤ line then mkL mt vs h else .bad
def ixv1 (x y : PV) (h : Hs) : R PV := match y with
  | .d (.int j) => R.of (getIx h x j) h
  | _ => .bad
def ixv (x y : PV) (h : Hs) : R PV := match y with
  | .d d => match dgetv h x d with
    | some o => R.of o h
    | none => ixv1 x y h
  | _ => .bad
def isDct (h : Hs) : PV → Bool
  | .ref n => match h[n]? with
    | some (.dK _) => true
    | some (.dT _) => true
    | _ => false
  | _ => false
def dget2v (x y z : PV) (h : Hs) : R PV := match y with
  | .d d => match dgetv h x d with
    | some (some v) => .ok v h
    | some none => .ok z h
    | none => .bad
  | _ => .bad
def lstAt (h : Hs) : PV → Bool
  | .ref n => match h[n]? with
    | some (.lst _) => true
    | _ => false
  | _ => false
def setv (k : Nat) (x y z : PV) (h : Hs) : R Unit := match x, y with
  | .ref n, .d d => match h[n]? with
    | some (.lst xs) => match d with
      | .int j => match L2.ixN xs.length j with
        | some m => if storeOk k n z = true then .ok () (h.set n (.lst (xs.set m z))) else .bad
        | none => .bad
      | _ => .bad
    | some o => match dputO o d z with
      | some o' => if storeOk k n z = true then .ok () (h.set n o') else .bad
      | none => .bad
    | none => .bad
  | _, _ => .bad
def revv (x : PV) (h : Hs) : R PV := match getL h x with
  | some xs => mkL false xs.reverse h
  | none => .bad
def appv (k : Nat) (l y : PV) (h : Hs) : R PV := match l with
  | .ref n => match h[n]? with
    | some (.lst xs) => if storeOk k n y = true ∧ xs.length < line then .ok (.d .none) (h.set n (.lst (xs ++ [y]))) else .bad
    | _ => .bad
  | _ => .bad
def extv (k : Nat) (l y : PV) (h : Hs) : R PV := match l with
  | .ref n => match h[n]?, getL h y with
    | some (.lst xs), some ys => if (ys.all (storeOk k n)) = true ∧ xs.length + ys.length ≤ line then .ok (.d .none) (h.set n (.lst (xs ++ ys))) else .bad
    | _, _ => .bad
  | _ => .bad
def popv (l : PV) (h : Hs) : R PV := match l with
  | .ref n => match h[n]? with
    | some (.lst xs) => match xs[xs.length - 1]? with
      | some y => .ok y (h.set n (.lst xs.dropLast))
      | none => .bad
    | _ => .bad
  | _ => .bad
def popAtv (l y : PV) (h : Hs) : R PV := match l, y with
  | .ref n, .d (.int j) => match h[n]? with
    | some (.lst xs) => match L2.ixN xs.length j with
      | some m => match xs[m]? with
        | some v => .ok v (h.set n (.lst (xs.eraseIdx m)))
        | none => .bad
      | none => .bad
    | _ => .bad
  | _, _ => .bad
def rngD (lo : Int) : Nat → List PyData
  | 0 => []
  | n + 1 => .int lo :: rngD (lo + 1) n
/-- list(range(..)), tuple(range(..)) -/
def rngv (tp mt : Bool) (u v : PV) (h : Hs) : R PV := match u, v with
  | .d (.int i), .d (.int j) => if -line ≤ i ∧ i ≤ line ∧ -line ≤ j ∧ j ≤ line ∧ (j - i).toNat ≤ line then (match tp with
    | true => .ok (.d (.tuple (rngD i (j - i).toNat))) h
    | false => mkL mt ((rngD i (j - i).toNat).map .d) h) else .bad
  | _, _ => .bad
def isFz : PV → Bool
  | .d (.list _) => true
  | _ => false
/-- the first place of an equal one -/
def idxv (l y : PV) (h : Hs) : R PV := match l, y with
  | .d (.list ds), .d d => if (SeqAt.shaped (.list ds) && SeqAt.shaped d) = true then R.of ((ds.findIdx? fun z => PyData.eqv z d).map fun j : Nat => int j) h else .bad
  | _, _ => .bad
def itVal (v : PV) (h : Hs) : R It := match v with
  | .d (.list ds) => .ok (.fx (ds.map .d)) h
  | .d (.tuple ds) => .ok (.fx (ds.map .d)) h
  | .scr ns => .ok (.fx (ns.map int)) h
  | .ref n => if lstAt h (.ref n) = true then .ok (.lv n) h else .bad
  | _ => .bad
def itR1 (v : PV) (h : Hs) : R It := match v with
  | .d (.int j) => if -line ≤ j ∧ j ≤ line then .ok (.fx (rngL 0 j.toNat)) h else .bad
  | _ => .bad
def itR2 (u v : PV) (h : Hs) : R It := match u, v with
  | .d (.int i), .d (.int j) => if -line ≤ i ∧ i ≤ line ∧ -line ≤ j ∧ j ≤ line then .ok (.fx (rngL i (j - i).toNat)) h else .bad
  | _, _ => .bad
def itZip (u v : PV) (h : Hs) : R It := match u, v with
  | .d (.list xs), .d (.list ys) => .ok (.fx (pairs xs ys)) h
  | .d (.tuple xs), .d (.tuple ys) => .ok (.fx (pairs xs ys)) h
  | _, _ => .bad
def itEnu (u : PV) (h : Hs) : R It := match u with
  | .d (.list xs) => .ok (.fx (enums 0 xs)) h
  | .d (.tuple xs) => .ok (.fx (enums 0 xs)) h
  | _ => .bad
section
variable (cf : Str → List PV → Hs → R PV) (k : Nat)
def one (A : Dn) (f : PV → Hs → R PV) : Dn := .val fun σ h => (A.e σ h).bind f
def two (A B : Dn) (f : PV → PV → Hs → R PV) : Dn := .val fun σ h => (A.e σ h).bind fun x h1 => (B.e σ h1).bind fun y h2 => f x y h2
def args (A : Dn) (f : List PV → Hs → R PV) : Dn := .val fun σ h => (A.a σ h).bind f
def den : E → Dn
  | .loc i => .val fun σ h => match σ[i]? with
    | some (some v) => .ok v h
    | _ => .bad
  | .lit x => .val fun _ h => .ok (.d x) h
  | .bin o a b => two (den a) (den b) (binop o)
  | .neg a => one (den a) negv
  | .not a => .val fun σ h => (tOf (den a).e σ h).bind fun b h2 => .ok (bool (!b)) h2
  | .and a b => .val fun σ h => ((den a).e σ h).bind fun x h1 => (R.of (tru h1 x) h1).bind fun c h2 => match c with
    | true => (den b).e σ h2
    | false => .ok x h2
  | .or a b => .val fun σ h => ((den a).e σ h).bind fun x h1 => (R.of (tru h1 x) h1).bind fun c h2 => match c with
    | true => .ok x h2
    | false => (den b).e σ h2
  | .cmp o a b => two (den a) (den b) fun x y h => R.of ((cmpop o x y h).map bool) h
  | .chain o p a b c => .val fun σ h => ((den a).e σ h).bind fun x h1 => ((den b).e σ h1).bind fun y h2 => (R.of (cmpop o x y h2) h2).bind fun t h3 => match t with
    | true => ((den c).e σ h3).bind fun z h4 => R.of ((cmpop p y z h4).map bool) h4
    | false => .ok (bool false) h3
  | .isNon a => one (den a) fun x h => .ok (bool (isNonV x)) h
  | .notNon a => one (den a) fun x h => .ok (bool (!isNonV x)) h
  | .isBool v a => one (den a) (isBoolv v)
  | .ite c a b => .val fun σ h => (tOf (den c).e σ h).bind fun t h1 => match t with
    | true => (den a).e σ h1
    | false => (den b).e σ h1
  | .tup as => args (den as) tupOf
  | .lst mt as => args (den as) (lstOf mt)
  | .isi a T => one (den a) fun x h => R.of ((isiT h T x).map bool) h
  | .call f as => args (den as) (cf f)
  | .bi b as => args (den as) (biop b)
  | .ix a i => two (den a) (den i) ixv
  | .sl a lo hi => .val fun σ h => ((den a).e σ h).bind fun x h1 => ((den lo).o σ h1).bind fun l h2 => ((den hi).o σ h2).bind fun u h3 => slice x l u h3
  | .rev a => one (den a) revv
  | .app o x => .val fun σ h => ((den o).e σ h).bind fun l h1 => if lstAt h1 l = true then ((den x).e σ h1).bind fun y h2 => appv k l y h2 else .bad
  | .ext o x => .val fun σ h => ((den o).e σ h).bind fun l h1 => if lstAt h1 l = true then ((den x).e σ h1).bind fun y h2 => extv k l y h2 else .bad
  | .pop o => one (den o) popv
  | .popAt o i => .val fun σ h => ((den o).e σ h).bind fun l h1 => if lstAt h1 l = true then ((den i).e σ h1).bind fun y h2 => popAtv l y h2 else .bad
  | .cnt _ _ => .stk
  | .idx o x => .val fun σ h => ((den o).e σ h).bind fun l h1 => if isFz l = true then ((den x).e σ h1).bind fun y h2 => idxv l y h2 else .bad
  | .lsR tp mt a b => two (den a) (den b) (rngv tp mt)
  | .dnew t => .val fun _ h => .ok (.ref h.length) (h ++ [cond t (.dT []) (.dK [])])
  | .dget o x y => .val fun σ h => ((den o).e σ h).bind fun l h1 => if isDct h1 l = true then ((den x).e σ h1).bind fun u h2 => ((den y).e σ h2).bind fun w h3 => dget2v l u w h3 else .bad
  | .stk => .stk
  | .comp mt own tg it cnd elt => .val fun σ h => ((den it).i σ h).bind fun J h1 => (compGo (compSt own tg (den cnd).t (den elt).e σ) J h1).bind (lstOf mt)
  | .nil => .arg fun _ h => .ok [] h
  | .cons a b => .arg fun σ h => ((den a).e σ h).bind fun x h1 => ((den b).a σ h1).bind fun xs h2 => .ok (x :: xs) h2
  | .nop => .non
  | .prt a => ⟨fun _ _ => .bad, fun _ _ => .bad, fun _ _ => .bad, fun _ _ => .bad, oOf (den a).e⟩
  | .cnd a => ⟨fun _ _ => .bad, fun _ _ => .bad, tOf (den a).e, fun _ _ => .bad, fun _ _ => .bad⟩
  | .iVal e => .itr fun σ h => ((den e).e σ h).bind itVal
  | .iR1 a => .itr fun σ h => ((den a).e σ h).bind itR1
  | .iR2 a b => .itr fun σ h => ((den a).e σ h).bind fun u h1 => ((den b).e σ h1).bind fun v h2 => itR2 u v h2
  | .iZip a b => .itr fun σ h => ((den a).e σ h).bind fun u h1 => ((den b).e σ h1).bind fun v h2 => itZip u v h2
  | .iEnu a => .itr fun σ h => ((den a).e σ h).bind itEnu
abbrev evE (e : E) : Sg → Hs → R PV := (den cf k e).e
abbrev evT (e : E) : Sg → Hs → R Bool := tOf (den cf k e).e
abbrev evI (e : E) : Sg → Hs → R It := (den cf k e).i
/-- name += whole number -/
def augv (x y : PV) (h : Hs) : R PV := match x, y with
  | .d (.int i), .d (.int j) => .ok (Iw.int (i + j)) h
  | _, _ => .bad
def setAll (σ : Sg) : List Nat → List PV → Option Sg
  | [], [] => some σ
  | i :: is, v :: vs => setAll (σ.set i (some v)) is vs
  | _, _ => none
def evS : S → Sg → Hs → R (Fl × Sg)
  | .skip, σ, h => .ok (.nx, σ) h
  | .seq a b, σ, h => (evS a σ h).bind fun p h1 => match p.1 with
    | .nx => evS b p.2 h1
    | f => .ok (f, p.2) h1
  | .asg t e, σ, h => (evE cf k e σ h).bind fun v h1 => R.of ((asg t v σ).map fun σ1 => (.nx, σ1)) h1
  | .par is as, σ, h => ((den cf k as).a σ h).bind fun vs h1 => R.of ((setAll σ is vs).map fun σ1 => (.nx, σ1)) h1
  | .sub o i v, σ, h => (evE cf k v σ h).bind fun z h1 => (evE cf k o σ h1).bind fun x h2 => (evE cf k i σ h2).bind fun y h3 => (setv k x y z h3).bind fun _ h4 => .ok (.nx, σ) h4
  | .aug i e, σ, h => match σ[i]? with
    | some (some x) => (evE cf k e σ h).bind fun y h1 => (augv x y h1).bind fun z h2 => .ok (.nx, σ.set i (some z)) h2
    | _ => .bad
  | .ex e, σ, h => (evE cf k e σ h).bind fun _ h1 => .ok (.nx, σ) h1
  | .for_ t it b, σ, h => (evI cf k it σ h).bind fun J h1 => match J with
    | .fx xs => forF t (evS b) xs σ h1
    | .lv n => forV t (evS b) n big 0 σ h1
  | .whl c b, σ, h => whlF (evT cf k c) (evS b) big σ h
  | .ife c a b, σ, h => (evT cf k c σ h).bind fun t h1 => match t with
    | true => evS a σ h1
    | false => evS b σ h1
  | .ret e, σ, h => (evE cf k e σ h).bind fun v h1 => .ok (.rt v, σ) h1
  | .stk, _, _ => .bad
  | .brk, σ, h => .ok (.bk, σ) h
  | .cont, σ, h => .ok (.ct, σ) h
end
/-- what is handed back of objects made in the call is frozen -/
def thaw (h : Hs) (k : Nat) : Nat → PV → Option PyData
  | _, .d x => some x
  | 0, _ => none
  | f + 1, .ref n => if n < k then none else match h[n]? with
    | some (.lst xs) => ((xs.map (thaw h k f)).foldr (fun o acc => o.bind fun x => acc.map (x :: ·)) (some [])).map .list
    | _ => none
  | _ + 1, .scr _ => none
def handed (h : Hs) (k : Nat) : PV → Option PV
  | .d x => some (.d x)
  | .scr ns => some (.scr ns)
  | .ref n => if n < k then some (.ref n) else (thaw h k 8 (.ref n)).map .d
/-- a list of data or of older things -/
def keepV (k : Nat) : PV → Bool
  | .d _ => true
  | .ref n => decide (n < k)
  | .scr _ => false
def keepOb (k : Nat) : Ob → Bool
  | .lst xs => xs.all (keepV k)
  | .dK kvs => kvs.all fun kv => keepV k kv.2
  | .dT kvs => kvs.all fun kv => keepV k kv.2
def handK (h : Hs) (k : Nat) : PV → R PV
  | .ref n => if n < k then .bad else match h[n]? with
    | some o => if keepOb k o = true then .ok (.ref k) (h.take k ++ [o]) else .bad
    | none => .bad
  | _ => .bad
def fin (kp : Bool) (k : Nat) (r : R (Fl × Sg)) : R PV := match r with
  | .ok (.rt v, _) h => match kp with
    | true => handK h k v
    | false => R.of (handed h k v) (h.take k)
  | .ok (.nx, _) h => match kp with
    | true => .bad
    | false => .ok (.d .none) (h.take k)
  | .ok _ _ => .bad
  | .exc _ _ => .bad
  | .bad => .bad
def callN (P : Pg) : Nat → Str → List PV → Hs → R PV
  | 0, _, _, _ => .bad
  | n + 1, f, vs, h => match P.lookup f with
    | none => .bad
    | some fd => if vs.length = fd.np then fin fd.kp h.length (evS (callN P n) h.length fd.body (vs.map some ++ List.replicate (fd.ns - vs.length) none) h) else .bad
end Iw
end

section
set_option Elab.async false
set_option linter.all false
set_option maxRecDepth 100000
/-! how the interpreter's values and store lie in the model's heap -/
namespace Iw
open PySem PySem.Spec PyProof.Rows L2

/-- the run's own objects, by their numbers; hidden ones (lists that a comprehension fills) -/
structure Mp where
  own : List Addr
  hid : List Addr
instance : Membership Addr Mp := ⟨fun m a => a ∈ m.own ∨ a ∈ m.hid⟩
theorem Mp.mem {m : Mp} {a : Addr} : a ∈ m ↔ a ∈ m.own ∨ a ∈ m.hid := Iff.rfl
abbrev Mp.add (m : Mp) (p : Addr) : Mp := ⟨m.own ++ [p], m.hid⟩
abbrev Mp.hide (m : Mp) (p : Addr) : Mp := ⟨m.own, p :: m.hid⟩
abbrev Sv := L2.St
mutual
inductive Rp (m : Mp) (H : Hp) : V → PyData → Prop
  | non : Rp m H .non .none
  | bl (b : Bool) : Rp m H (.bl b) (.bool b)
  | int (i : Int) : Rp m H (.int i) (.int i)
  | str (x : Str) : Rp m H (.str x) (.str x)
  | lst {a : Addr} {vs : List V} {ds : List PyData} : H a = some (.lst vs) → a ∉ m → RpA m H vs ds → Rp m H (.ref a) (.list ds)
  | tup {a : Addr} {vs : List V} {ds : List PyData} : H a = some (.tup vs) → a ∉ m → RpA m H vs ds → Rp m H (.ref a) (.tuple ds)
inductive RpA (m : Mp) (H : Hp) : List V → List PyData → Prop
  | nil : RpA m H [] []
  | cons {v : V} {vs : List V} {d : PyData} {ds : List PyData} : Rp m H v d → RpA m H vs ds → RpA m H (v :: vs) (d :: ds)
end
/-- what was tracked and not the run's own stays, and stays not the run's own -/
structure Evo (m : Mp) (H : Hp) (m' : Mp) (H' : Hp) : Prop where
  pre : m.own <+: m'.own
  hd : ∀ a o, a ∈ m.hid → H a = some o → H' a = some o ∧ a ∈ m'.hid
  kp : ∀ a o, H a = some o → a ∉ m → H' a = some o ∧ a ∉ m'
theorem Evo.refl {m : Mp} {H : Hp} : Evo m H m H := ⟨List.prefix_refl _, fun _ _ n h => ⟨h, n⟩, fun _ _ h n => ⟨h, n⟩⟩
theorem Evo.trans {m m1 m2 : Mp} {H H1 H2 : Hp} (a : Evo m H m1 H1) (b : Evo m1 H1 m2 H2) : Evo m H m2 H2 :=
  ⟨a.pre.trans b.pre, fun c o n h => let ⟨h1, n1⟩ := a.hd c o n h; b.hd c o n1 h1, fun c o h n => let ⟨h1, n1⟩ := a.kp c o h n; b.kp c o h1 n1⟩
section
variable {m m' : Mp} {H H' : Hp}
mutual
theorem Rp.evo (e : Evo m H m' H') : ∀ {v : V} {d : PyData}, Rp m H v d → Rp m' H' v d
  | _, _, .non => .non
  | _, _, .bl b => .bl b
  | _, _, .int i => .int i
  | _, _, .str x => .str x
  | _, _, .lst h n r => .lst (e.kp _ _ h n).1 (e.kp _ _ h n).2 (RpA.evo e r)
  | _, _, .tup h n r => .tup (e.kp _ _ h n).1 (e.kp _ _ h n).2 (RpA.evo e r)
theorem RpA.evo (e : Evo m H m' H') : ∀ {vs : List V} {ds : List PyData}, RpA m H vs ds → RpA m' H' vs ds
  | _, _, .nil => .nil
  | _, _, .cons r t => .cons (Rp.evo e r) (RpA.evo e t)
end
theorem RpA.length : ∀ {vs : List V} {ds : List PyData}, RpA m H vs ds → vs.length = ds.length
  | _, _, .nil => rfl
  | _, _, .cons _ t => congrArg (· + 1) (RpA.length t)
theorem RpA.append : ∀ {vs ws : List V} {ds es : List PyData}, RpA m H vs ds → RpA m H ws es → RpA m H (vs ++ ws) (ds ++ es)
  | _, _, _, _, .nil, s => s
  | _, _, _, _, .cons r t, s => .cons r (RpA.append t s)
theorem RpA.get : ∀ {vs : List V} {ds : List PyData} {i : Nat} {d : PyData}, RpA m H vs ds → ds[i]? = some d → ∃ v, vs[i]? = some v ∧ Rp m H v d
  | _, _, _, _, .nil, e => by simp at e
  | _, _, 0, _, .cons r _, e => by simp at e; subst e; exact ⟨_, rfl, r⟩
  | _, _, i + 1, d, .cons _ t, e => by
    obtain ⟨v, h1, h2⟩ := RpA.get (i := i) (d := d) t (by simpa using e)
    exact ⟨v, by simpa using h1, h2⟩
theorem RpA.take : ∀ {vs : List V} {ds : List PyData} (n : Nat), RpA m H vs ds → RpA m H (vs.take n) (ds.take n)
  | _, _, 0, _ => by simpa using RpA.nil
  | _, _, _ + 1, .nil => .nil
  | _, _, n + 1, .cons r t => .cons r (RpA.take n t)
theorem RpA.drop : ∀ {vs : List V} {ds : List PyData} (n : Nat), RpA m H vs ds → RpA m H (vs.drop n) (ds.drop n)
  | _, _, 0, r => r
  | _, _, _ + 1, .nil => .nil
  | _, _, n + 1, .cons _ t => RpA.drop n t
theorem RpA.reverse {vs : List V} {ds : List PyData} (r : RpA m H vs ds) : RpA m H vs.reverse ds.reverse := by
  have go : ∀ {vs : List V} {ds : List PyData}, RpA m H vs ds → RpA m H vs.reverse ds.reverse := by
    intro vs
    induction vs with
    | nil => intro ds r; cases r; exact .nil
    | cons v vs ih =>
      intro ds r
      cases r with
      | cons r t =>
        rw [List.reverse_cons, List.reverse_cons]
        exact (ih t).append (.cons r .nil)
  exact go r
theorem RpA.rep {vs : List V} {ds : List PyData} (r : RpA m H vs ds) : ∀ k : Nat, RpA m H (List.replicate k vs).flatten (List.replicate k ds).flatten
  | 0 => .nil
  | k + 1 => by
    rw [List.replicate_succ, List.replicate_succ, List.flatten_cons, List.flatten_cons]
    exact r.append (RpA.rep r k)

/-- the script -/
def Scr (K : PySem.W.Frag) (m : Mp) (H : Hp) (a : Addr) (xs : List V) : Prop :=
  (Rd H a (.lst xs) ∧ a ∉ m) ∨ ∃ (o : Obj) (its : Array Value) (n : Nat), K.lookup a = some o ∧ o.cls = .type "list" ∧ o.dict = none ∧ o.data = .seq its n ∧ its.size ≤ sizeLine ∧ Vals xs its.toList
theorem Scr.sq {K : PySem.W.Frag} {a : Addr} {xs : List V} (h : Scr K m H a xs) : SqL K H a xs := h.elim (fun z => .inl z.1) .inr
theorem Scr.evo {K : PySem.W.Frag} {a : Addr} {xs : List V} (e : Evo m H m' H') (h : Scr K m H a xs) : Scr K m' H' a xs := by
  rcases h with ⟨h | ⟨o, h⟩, n⟩ | h
  · exact .inl ⟨.inl (e.kp _ _ h n).1, (e.kp _ _ h n).2⟩
  · exact .inl ⟨.inr ⟨o, (e.kp _ _ h n).1⟩, (e.kp _ _ h n).2⟩
  · exact .inr h
/-- a value -/
inductive RV (K : PySem.W.Frag) (m : Mp) (H : Hp) : V → PV → Prop
  | d {v : V} {x : PyData} : Rp m H v x → RV K m H v (.d x)
  | ref {n : Nat} {a : Addr} : m.own[n]? = some a → RV K m H (.ref a) (.ref n)
  | scr {ns : List Int} {a : Addr} : Scr K m H a (ns.map V.int) → RV K m H (.ref a) (.scr ns)
abbrev RVs (K : PySem.W.Frag) (m : Mp) (H : Hp) : List V → List PV → Prop := Paired (RV K m H)
theorem Evo.at (e : Evo m H m' H') {n : Nat} {a : Addr} (h : m.own[n]? = some a) : m'.own[n]? = some a := by
  obtain ⟨t, et⟩ := e.pre
  rw [← et, List.getElem?_append_left (List.getElem?_eq_some_iff.mp h).1]; exact h
theorem RV.evo {K : PySem.W.Frag} {v : V} {x : PV} (r : RV K m H v x) (e : Evo m H m' H') : RV K m' H' v x := by
  cases r with
  | d r => exact .d (r.evo e)
  | ref h => exact .ref (e.at h)
  | scr h => exact .scr (h.evo e)
theorem RVs.evo {K : PySem.W.Frag} {vs : List V} {xs : List PV} (r : RVs K m H vs xs) (e : Evo m H m' H') : RVs K m' H' vs xs := Paired.mono (fun _ _ z => z.evo e) r
theorem RpA.rvs {K : PySem.W.Frag} : ∀ {vs : List V} {ds : List PyData}, RpA m H vs ds → RVs K m H vs (ds.map .d)
  | _, _, .nil => .nil
  | _, _, .cons r t => .cons (.d r) (RpA.rvs t)
theorem RVs.rpa {K : PySem.W.Frag} : ∀ {xs : List PV} {vs : List V} {ds : List PyData}, RVs K m H vs xs → datas xs = some ds → RpA m H vs ds
  | [], _, _, r, e => by cases r; cases e; exact .nil
  | .d x :: xs, _, _, .cons r t, e => by
    have e : (datas xs).map (x :: ·) = some _ := e
    obtain ⟨ds', e1, rfl⟩ := Option.map_eq_some_iff.mp e
    cases r with
    | d r => exact .cons r (RVs.rpa t e1)
  | .ref _ :: _, _, _, .cons r t, e => by cases e
  | .scr _ :: _, _, _, .cons r t, e => by cases e
theorem datas_len : ∀ {xs : List PV} {ds : List PyData}, datas xs = some ds → ds.length = xs.length
  | [], _, e => by cases e; rfl
  | .d x :: xs, _, e => by
    have e : (datas xs).map (x :: ·) = some _ := e
    obtain ⟨ds', e1, rfl⟩ := Option.map_eq_some_iff.mp e
    exact congrArg (· + 1) (datas_len e1)
  | .ref _ :: _, _, e => by cases e
  | .scr _ :: _, _, e => by cases e
theorem RVs.len {K : PySem.W.Frag} {vs : List V} {xs : List PV} (r : RVs K m H vs xs) : vs.length = xs.length := Paired.length r
theorem PairedGet {α β : Type} {F : α → β → Prop} : ∀ {xs : List α} {ys : List β} {i : Nat} {y : β}, Paired F xs ys → ys[i]? = some y → ∃ x, xs[i]? = some x ∧ F x y
  | _, _, _, _, .nil, e => by simp at e
  | _, _, 0, y, .cons r _, e => by simp at e; subst e; exact ⟨_, rfl, r⟩
  | _, _, i + 1, y, .cons _ t, e => by
    obtain ⟨u, h1, h2⟩ := PairedGet (i := i) (y := y) t (by simpa using e)
    exact ⟨u, by simpa using h1, h2⟩
theorem PairedSet {α β : Type} {F : α → β → Prop} {x : α} {y : β} (r : F x y) : ∀ {xs : List α} {ys : List β} (i : Nat), Paired F xs ys → Paired F (xs.set i x) (ys.set i y)
  | _, _, _, .nil => .nil
  | _, _, 0, .cons _ t => .cons r t
  | _, _, i + 1, .cons q t => .cons q (PairedSet r i t)
theorem PairedApp {α β : Type} {F : α → β → Prop} : ∀ {xs xs' : List α} {ys ys' : List β}, Paired F xs ys → Paired F xs' ys' → Paired F (xs ++ xs') (ys ++ ys')
  | _, _, _, _, .nil, s => s
  | _, _, _, _, .cons r t, s => .cons r (PairedApp t s)
theorem PairedTake {α β : Type} {F : α → β → Prop} : ∀ {xs : List α} {ys : List β} (n : Nat), Paired F xs ys → Paired F (xs.take n) (ys.take n)
  | _, _, 0, _ => by simpa using Paired.nil
  | _, _, _ + 1, .nil => .nil
  | _, _, n + 1, .cons r t => .cons r (PairedTake n t)
theorem PairedDrop {α β : Type} {F : α → β → Prop} : ∀ {xs : List α} {ys : List β} (n : Nat), Paired F xs ys → Paired F (xs.drop n) (ys.drop n)
  | _, _, 0, r => r
  | _, _, _ + 1, .nil => .nil
  | _, _, n + 1, .cons _ t => PairedDrop n t
theorem PairedDropLast {α β : Type} {F : α → β → Prop} {xs : List α} {ys : List β} (r : Paired F xs ys) : Paired F xs.dropLast ys.dropLast := by
  rw [List.dropLast_eq_take, List.dropLast_eq_take, Paired.length r]; exact PairedTake _ r
theorem PairedErase {α β : Type} {F : α → β → Prop} : ∀ {xs : List α} {ys : List β} (i : Nat), Paired F xs ys → Paired F (xs.eraseIdx i) (ys.eraseIdx i)
  | _, _, _, .nil => .nil
  | _, _, 0, .cons _ t => t
  | _, _, i + 1, .cons q t => .cons q (PairedErase i t)
theorem PairedRev {α β : Type} {F : α → β → Prop} : ∀ {xs : List α} {ys : List β}, Paired F xs ys → Paired F xs.reverse ys.reverse
  | _, _, .nil => .nil
  | _, _, .cons r t => by rw [List.reverse_cons, List.reverse_cons]; exact PairedApp (PairedRev t) (.cons r .nil)

/-- an object of the run's store -/
inductive RO (K : PySem.W.Frag) (m : Mp) (H : Hp) : HO → Ob → Prop
  | lst {vs : List V} {xs : List PV} : RVs K m H vs xs → RO K m H (.lst vs) (.lst xs)
  | dK {vs : List (Key × V)} {xs : List (Key × PV)} : Paired (fun p q => p.1 = q.1 ∧ RV K m H p.2 q.2) vs xs → RO K m H (.dK vs) (.dK xs)
  | dT {vs : List (List Key × V)} {xs : List (List Key × PV)} : Paired (fun p q => p.1 = q.1 ∧ RV K m H p.2 q.2) vs xs → RO K m H (.dT vs) (.dT xs)
theorem RO.map {K : PySem.W.Frag} {u : HO} {o : Ob} (f : ∀ {v : V} {x : PV}, RV K m H v x → RV K m' H' v x) (r : RO K m H u o) : RO K m' H' u o := by
  cases r with
  | lst r => exact .lst (Paired.mono (fun _ _ z => f z) r)
  | dK r => exact .dK (Paired.mono (fun _ _ z => ⟨z.1, f z.2⟩) r)
  | dT r => exact .dT (Paired.mono (fun _ _ z => ⟨z.1, f z.2⟩) r)
theorem RO.evo {K : PySem.W.Frag} {u : HO} {o : Ob} (r : RO K m H u o) (e : Evo m H m' H') : RO K m' H' u o := r.map fun z => z.evo e
/-- the store -/
structure RH (K : PySem.W.Frag) (m : Mp) (h : Hs) (H : Hp) : Prop where
  len : m.own.length = h.length
  nd : m.own.Nodup
  hd : ∀ a, a ∈ m.hid → a ∉ m.own ∧ ∃ vs, H a = some (.lst vs)
  at_ : ∀ (n : Nat) (o : Ob), h[n]? = some o → ∃ a u, m.own[n]? = some a ∧ H a = some u ∧ RO K m H u o
theorem RH.tracked {K : PySem.W.Frag} {h : Hs} (r : RH K m h H) {a : Addr} (ha : a ∈ m) : ∃ o, H a = some o := by
  rcases ha with ha | ha
  · obtain ⟨n, e⟩ := List.getElem?_of_mem ha
    have hl : n < h.length := by rw [← r.len]; exact (List.getElem?_eq_some_iff.mp e).1
    obtain ⟨b, u, e1, e2, _⟩ := r.at_ n h[n] (by simp [hl])
    rw [e] at e1; cases e1
    exact ⟨u, e2⟩
  · obtain ⟨_, vs, e⟩ := r.hd a ha; exact ⟨_, e⟩
theorem RH.tup {K : PySem.W.Frag} {h : Hs} (r : RH K m h H) {b : Addr} {xs : List V} (e : H b = some (.tup xs)) : b ∉ m := fun z => by
  rcases z with z | z
  · obtain ⟨n, e1⟩ := List.getElem?_of_mem z
    have hl : n < h.length := by rw [← r.len]; exact (List.getElem?_eq_some_iff.mp e1).1
    obtain ⟨c, u, e2, e3, e4⟩ := r.at_ n h[n] (by simp [hl])
    rw [e1] at e2; cases e2
    rw [e] at e3; cases e3
    cases e4
  · obtain ⟨_, vs, e2⟩ := r.hd b z
    rw [e] at e2; cases e2
theorem RH.fresh {K : PySem.W.Frag} {h : Hs} (r : RH K m h H) {p : Addr} (hp : H p = none) : p ∉ m := fun z => by
  obtain ⟨o, e⟩ := r.tracked z
  rw [hp] at e; cases e
/-- a new thing beside the store -/
theorem Evo.new {K : PySem.W.Frag} {h : Hs} (r : RH K m h H) {p : Addr} {u : HO} (hp : H p = none) : Evo m H m (upd H p u) :=
  ⟨List.prefix_refl _, fun a o n e => ⟨by rw [upd_ne (ne_of_none e hp)]; exact e, n⟩, fun a o e n => ⟨by rw [upd_ne (ne_of_none e hp)]; exact e, n⟩⟩
theorem RH.keep {K : PySem.W.Frag} {h : Hs} (r : RH K m h H) (e : Evo m H m H') (k : ∀ a, a ∈ m → H' a = H a) : RH K m h H' :=
  ⟨r.len, r.nd, fun a ha => ⟨(r.hd a ha).1, by rw [k a (.inr ha)]; exact (r.hd a ha).2⟩, fun n o q => by
    obtain ⟨a, u, e1, e2, e3⟩ := r.at_ n o q
    exact ⟨a, u, e1, by rw [k a (.inl (List.mem_of_getElem? e1))]; exact e2, e3.evo e⟩⟩
theorem RH.new {K : PySem.W.Frag} {h : Hs} (r : RH K m h H) {p : Addr} {u : HO} (hp : H p = none) : RH K m h (upd H p u) :=
  r.keep (Evo.new r hp) fun a ha => by
    obtain ⟨o, e⟩ := r.tracked ha
    exact upd_ne (ne_of_none e hp)
/-- a new object of the store -/
theorem Evo.alloc {K : PySem.W.Frag} {h : Hs} (r : RH K m h H) {p : Addr} {u : HO} (hp : H p = none) : Evo m H (m.add p) (upd H p u) :=
  ⟨List.prefix_append _ [p], fun a o n e => ⟨by rw [upd_ne (ne_of_none e hp)]; exact e, n⟩, fun a o e n => ⟨by rw [upd_ne (ne_of_none e hp)]; exact e, fun z => by
    rcases z with z | z
    · rcases List.mem_append.mp z with z | z
      · exact n (.inl z)
      · have : a = p := by simpa using z
        rw [this, hp] at e; cases e
    · exact n (.inr z)⟩⟩
theorem RH.alloc {K : PySem.W.Frag} {h : Hs} (r : RH K m h H) {p : Addr} {u : HO} {o : Ob} (hp : H p = none) (q : RO K m H u o) : RH K (m.add p) (h ++ [o]) (upd H p u) := by
  have e := Evo.alloc (u := u) r hp
  have nm := r.fresh hp
  refine ⟨by simp [r.len], ?_, fun a ha => ?_, fun n z hz => ?_⟩
  · rw [List.nodup_append]
    refine ⟨r.nd, by simp, fun a ha b hb => ?_⟩
    have : b = p := by simpa using hb
    rintro rfl
    exact nm (.inl (this ▸ ha))
  · obtain ⟨h1, o2, h2⟩ := r.hd a ha
    refine ⟨fun z => ?_, o2, by rw [upd_ne (ne_of_none h2 hp)]; exact h2⟩
    rcases List.mem_append.mp z with z | z
    · exact h1 z
    · have : a = p := by simpa using z
      rw [this, hp] at h2; cases h2
  · by_cases hn : n < h.length
    · rw [List.getElem?_append_left hn] at hz
      obtain ⟨a, w, e1, e2, e3⟩ := r.at_ n z hz
      exact ⟨a, w, e.at e1, by rw [upd_ne (ne_of_none e2 hp)]; exact e2, e3.evo e⟩
    · rw [List.getElem?_append_right (by omega)] at hz
      have hn0 : n = h.length := by
        have := (List.getElem?_eq_some_iff.mp hz).1
        simp at this
        omega
      subst hn0
      simp at hz
      subst hz
      refine ⟨p, u, ?_, upd_same, q.evo e⟩
      rw [List.getElem?_append_right (by rw [r.len]; exact Nat.le_refl _), r.len]
      simp
/-- an object of the store is changed -/
theorem Evo.write {a : Addr} {u : HO} (ha : a ∈ m.own) (hn : ∀ b, b ∈ m.hid → b ∉ m.own) : Evo m H m (upd H a u) :=
  ⟨List.prefix_refl _, fun b o n e => ⟨by rw [upd_ne (fun z => hn b n (by rw [z]; exact ha))]; exact e, n⟩, fun b o e n => ⟨by rw [upd_ne (fun z => n (.inl (by rw [z]; exact ha)))]; exact e, n⟩⟩
theorem RH.wr {K : PySem.W.Frag} {h : Hs} (r : RH K m h H) {n : Nat} {a : Addr} {u : HO} (ha : m.own[n]? = some a) : Evo m H m (upd H a u) := .write (List.mem_of_getElem? ha) fun b hb => (r.hd b hb).1
theorem RH.write {K : PySem.W.Frag} {h : Hs} (r : RH K m h H) {n : Nat} {a : Addr} {u : HO} {o : Ob} (ha : m.own[n]? = some a) (q : RO K m (upd H a u) u o) : RH K m (h.set n o) (upd H a u) := by
  have e := r.wr (u := u) ha
  refine ⟨by simp [r.len], r.nd, fun b hb => ?_, fun j z hz => ?_⟩
  · obtain ⟨h1, o2, h2⟩ := r.hd b hb
    exact ⟨h1, o2, by rw [upd_ne (fun z => h1 (by rw [z]; exact List.mem_of_getElem? ha))]; exact h2⟩
  by_cases hj : j = n
  · subst hj
    have hl : j < h.length := by rw [← r.len]; exact (List.getElem?_eq_some_iff.mp ha).1
    rw [List.getElem?_set_self hl] at hz
    cases hz
    exact ⟨a, u, ha, upd_same, q⟩
  · rw [List.getElem?_set_ne (Ne.symm hj)] at hz
    obtain ⟨b, w, e1, e2, e3⟩ := r.at_ j z hz
    refine ⟨b, w, e1, ?_, e3.evo e⟩
    rw [upd_ne ?_]
    · exact e2
    · rintro rfl
      obtain ⟨h1, g1⟩ := List.getElem?_eq_some_iff.mp e1
      obtain ⟨h2, g2⟩ := List.getElem?_eq_some_iff.mp ha
      exact hj ((List.getElem_inj r.nd).mp (g1.trans g2.symm))
/-! ### a hidden list -/
abbrev Mp.unhide (m : Mp) (D : Addr) : Mp := ⟨m.own, m.hid.filter fun a => decide (a ≠ D)⟩
section
variable {K : PySem.W.Frag} {D : Addr} {u : HO}
theorem mem_unhide {a : Addr} (h : a ∈ m.unhide D) : a ∈ m := h.elim .inl fun z => .inr (List.mem_filter.mp z).1
mutual
theorem Rp.upH (hD : D ∈ m.hid) : ∀ {v : V} {d : PyData}, Rp m H v d → Rp m (upd H D u) v d
  | _, _, .non => .non
  | _, _, .bl b => .bl b
  | _, _, .int i => .int i
  | _, _, .str x => .str x
  | _, _, .lst h n r => .lst (by rw [upd_ne (fun z => n (.inr (by rw [z]; exact hD)))]; exact h) n (RpA.upH hD r)
  | _, _, .tup h n r => .tup (by rw [upd_ne (fun z => n (.inr (by rw [z]; exact hD)))]; exact h) n (RpA.upH hD r)
theorem RpA.upH (hD : D ∈ m.hid) : ∀ {vs : List V} {ds : List PyData}, RpA m H vs ds → RpA m (upd H D u) vs ds
  | _, _, .nil => .nil
  | _, _, .cons r t => .cons (Rp.upH hD r) (RpA.upH hD t)
end
theorem RV.upH {v : V} {x : PV} (hD : D ∈ m.hid) (r : RV K m H v x) : RV K m (upd H D u) v x := by
  cases r with
  | d r => exact .d (r.upH hD)
  | ref h => exact .ref h
  | scr h =>
    refine .scr ?_
    rcases h with ⟨h, n⟩ | h
    · have hn : ∀ a', a' = D → a' ∈ m := fun a' z => .inr (by rw [z]; exact hD)
      refine .inl ⟨?_, n⟩
      rcases h with h | ⟨o, h⟩
      · exact .inl (by rw [upd_ne (fun z => n (hn _ z))]; exact h)
      · exact .inr ⟨o, by rw [upd_ne (fun z => n (hn _ z))]; exact h⟩
    · exact .inr h
theorem RVs.upH {vs : List V} {xs : List PV} (hD : D ∈ m.hid) (r : RVs K m H vs xs) : RVs K m (upd H D u) vs xs := Paired.mono (fun _ _ z => z.upH hD) r
theorem RO.upH {o : HO} {b : Ob} (hD : D ∈ m.hid) (r : RO K m H o b) : RO K m (upd H D u) o b := r.map fun z => z.upH hD
theorem RH.upH {h : Hs} {ws : List V} (r : RH K m h H) (hD : D ∈ m.hid) : RH K m h (upd H D (.lst ws)) := by
  refine ⟨r.len, r.nd, fun a ha => ?_, fun n o e => ?_⟩
  · obtain ⟨h1, o, h2⟩ := r.hd a ha
    refine ⟨h1, ?_⟩
    by_cases z : a = D
    · subst z; exact ⟨ws, upd_same⟩
    · exact ⟨o, by rw [upd_ne z]; exact h2⟩
  · obtain ⟨a, w, e1, e2, e3⟩ := r.at_ n o e
    refine ⟨a, w, e1, ?_, e3.upH hD⟩
    rw [upd_ne (fun z => (r.hd D hD).1 (by rw [← z]; exact List.mem_of_getElem? e1))]
    exact e2
theorem RH.hide {h : Hs} {ws : List V} (r : RH K m h H) (hp : H D = none) : RH K (m.hide D) h (upd H D (.lst ws)) ∧ Evo m H (m.hide D) (upd H D (.lst ws)) := by
  have ne : ∀ {a o}, H a = some o → a ≠ D := fun e => ne_of_none e hp
  have ev : Evo m H (m.hide D) (upd H D (.lst ws)) := ⟨List.prefix_refl _, fun a o n e => ⟨by rw [upd_ne (ne e)]; exact e, List.mem_cons_of_mem _ n⟩, fun a o e n => ⟨by rw [upd_ne (ne e)]; exact e, fun z => by
    rcases z with z | z
    · exact n (.inl z)
    · rcases List.mem_cons.mp z with z | z
      · exact ne e z
      · exact n (.inr z)⟩⟩
  refine ⟨⟨r.len, r.nd, fun a ha => ?_, fun n o e => ?_⟩, ev⟩
  · rcases List.mem_cons.mp ha with z | ha
    · subst z
      refine ⟨fun z => ?_, ws, upd_same⟩
      obtain ⟨o, e⟩ := r.tracked (.inl z)
      rw [hp] at e; cases e
    · obtain ⟨h1, o, h2⟩ := r.hd a ha
      exact ⟨h1, o, by rw [upd_ne (ne h2)]; exact h2⟩
  · obtain ⟨a, w, e1, e2, e3⟩ := r.at_ n o e
    exact ⟨a, w, e1, by rw [upd_ne (ne e2)]; exact e2, e3.evo ev⟩
/-- a step beside the hidden list, from a store that did not know it -/
theorem Evo.upH {m1 : Mp} {H1 : Hp} (e : Evo m1 H1 m H) (hp : H1 D = none) : Evo m1 H1 m (upd H D u) :=
  ⟨e.pre, fun a o n q => ⟨by rw [upd_ne (ne_of_none q hp)]; exact (e.hd a o n q).1, (e.hd a o n q).2⟩, fun a o q n => ⟨by rw [upd_ne (ne_of_none q hp)]; exact (e.kp a o q n).1, (e.kp a o q n).2⟩⟩
theorem Evo.unhide {m1 : Mp} {H1 : Hp} (e : Evo m1 H1 m H) (hp : H1 D = none) : Evo m1 H1 (m.unhide D) H :=
  ⟨e.pre, fun a o n q => ⟨(e.hd a o n q).1, List.mem_filter.mpr ⟨(e.hd a o n q).2, by simpa using ne_of_none q hp⟩⟩, fun a o q n => ⟨(e.kp a o q n).1, fun z => (e.kp a o q n).2 (mem_unhide z)⟩⟩
/-- fewer are the run's own -/
abbrev Less (m m2 : Mp) : Prop := ∀ a, a ∈ m2 → a ∈ m
abbrev Kept (m m2 : Mp) : Prop := ∀ (n : Nat) (a : Addr), m.own[n]? = some a → m2.own[n]? = some a
mutual
theorem Rp.less {m2 : Mp} (l : Less m m2) : ∀ {v : V} {d : PyData}, Rp m H v d → Rp m2 H v d
  | _, _, .non => .non
  | _, _, .bl b => .bl b
  | _, _, .int i => .int i
  | _, _, .str x => .str x
  | _, _, .lst h n r => .lst h (fun z => n (l _ z)) (RpA.less l r)
  | _, _, .tup h n r => .tup h (fun z => n (l _ z)) (RpA.less l r)
theorem RpA.less {m2 : Mp} (l : Less m m2) : ∀ {vs : List V} {ds : List PyData}, RpA m H vs ds → RpA m2 H vs ds
  | _, _, .nil => .nil
  | _, _, .cons r t => .cons (Rp.less l r) (RpA.less l t)
end
theorem RV.less {m2 : Mp} (l : Less m m2) (k : Kept m m2) {v : V} {x : PV} (r : RV K m H v x) : RV K m2 H v x := by
  cases r with
  | d r => exact .d (r.less l)
  | ref h => exact .ref (k _ _ h)
  | scr h => exact .scr (h.imp (fun z => ⟨z.1, fun q => z.2 (l _ q)⟩) id)
theorem RVs.less {m2 : Mp} (l : Less m m2) (k : Kept m m2) {vs : List V} {xs : List PV} (r : RVs K m H vs xs) : RVs K m2 H vs xs := Paired.mono (fun _ _ z => z.less l k) r
theorem RO.less {m2 : Mp} (l : Less m m2) (k : Kept m m2) {o : HO} {b : Ob} (r : RO K m H o b) : RO K m2 H o b := r.map fun z => z.less l k
theorem less_unhide : Less m (m.unhide D) := fun _ z => mem_unhide z
theorem kept_unhide : Kept m (m.unhide D) := fun _ _ h => h
theorem RH.unhide {h : Hs} (r : RH K m h H) : RH K (m.unhide D) h H :=
  ⟨r.len, r.nd, fun a ha => r.hd a (List.mem_filter.mp ha).1, fun n o e => let ⟨a, w, e1, e2, e3⟩ := r.at_ n o e; ⟨a, w, e1, e2, e3.less less_unhide kept_unhide⟩⟩
theorem not_unhide (n : D ∉ m.own) : D ∉ m.unhide D := fun z => z.elim n fun z => by simpa using (List.mem_filter.mp z).2
theorem less_reveal (n : D ∈ m.hid) : Less m ((m.unhide D).add D) := fun a z => by
  rcases z with z | z
  · rcases List.mem_append.mp z with z | z
    · exact .inl z
    · have : a = D := by simpa using z
      rw [this]; exact .inr n
  · exact .inr (List.mem_filter.mp z).1
theorem kept_add {p : Addr} : Kept m (m.add p) := fun n a h => by
  show (m.own ++ [p])[n]? = _
  rw [List.getElem?_append_left (List.getElem?_eq_some_iff.mp h).1]; exact h
theorem kept_reveal : Kept m ((m.unhide D).add D) := fun n a h => kept_add (m := m.unhide D) n a h
/-- the hidden list becomes one of the run's own -/
theorem RH.reveal {h : Hs} {o : Ob} {u : HO} (r : RH K m h H) (n : D ∈ m.hid) (hu : H D = some u) (q : RO K m H u o) : RH K ((m.unhide D).add D) (h ++ [o]) H := by
  have no := (r.hd D n).1
  refine ⟨by simp [r.len], ?_, fun a ha => ?_, fun j z hz => ?_⟩
  · show (m.own ++ [D]).Nodup
    rw [List.nodup_append]
    refine ⟨r.nd, by simp, fun a ha b hb => ?_⟩
    have : b = D := by simpa using hb
    rintro rfl
    exact no (this ▸ ha)
  · obtain ⟨h1, h2⟩ := List.mem_filter.mp ha
    obtain ⟨h3, h4⟩ := r.hd a h1
    refine ⟨fun z => ?_, h4⟩
    rcases List.mem_append.mp z with z | z
    · exact h3 z
    · have : a = D := by simpa using z
      simp [this] at h2
  · by_cases hn : j < h.length
    · rw [List.getElem?_append_left hn] at hz
      obtain ⟨a, w, e1, e2, e3⟩ := r.at_ j z hz
      exact ⟨a, w, kept_reveal _ _ e1, e2, e3.less (less_reveal n) kept_reveal⟩
    · rw [List.getElem?_append_right (by omega)] at hz
      have hn0 : j = h.length := by
        have := (List.getElem?_eq_some_iff.mp hz).1
        simp at this
        omega
      subst hn0
      simp at hz
      subst hz
      refine ⟨D, u, ?_, hu, q.less (less_reveal n) kept_reveal⟩
      show (m.own ++ [D])[h.length]? = _
      rw [List.getElem?_append_right (by rw [r.len]; exact Nat.le_refl _), r.len]
      simp
theorem Evo.reveal {m1 : Mp} {H1 : Hp} (e : Evo m1 H1 m H) (hp : H1 D = none) : Evo m1 H1 ((m.unhide D).add D) H := by
  have e2 := e.unhide (D := D) hp
  exact ⟨e2.pre.trans (List.prefix_append _ _), e2.hd, fun a o q n => ⟨(e2.kp a o q n).1, fun z => by
    rcases z with z | z
    · rcases List.mem_append.mp z with z | z
      · exact (e2.kp a o q n).2 (.inl z)
      · have : a = D := by simpa using z
        rw [this, hp] at q; cases q
    · exact (e2.kp a o q n).2 (.inr z)⟩⟩
end
/-- the slots -/
structure RS (K : PySem.W.Frag) (m : Mp) (H : Hp) (σ : Sv) (p : Sg) : Prop where
  len : σ.length = p.length
  at_ : ∀ (i : Nat) (x : PV), p[i]? = some (some x) → ∃ v, σ[i]? = some (some v) ∧ RV K m H v x
theorem RS.evo {K : PySem.W.Frag} {σ : Sv} {p : Sg} (r : RS K m H σ p) (e : Evo m H m' H') : RS K m' H' σ p :=
  ⟨r.len, fun i x h => let ⟨v, h1, h2⟩ := r.at_ i x h; ⟨v, h1, h2.evo e⟩⟩
theorem RS.set {K : PySem.W.Frag} {σ : Sv} {p : Sg} (r : RS K m H σ p) {i : Nat} {v : V} {x : PV} (q : RV K m H v x) : RS K m H (σ.set i (some v)) (p.set i (some x)) := by
  refine ⟨by simp [r.len], fun j y hj => ?_⟩
  by_cases e : i = j
  · subst e
    have hl : i < p.length := by
      have := (List.getElem?_eq_some_iff.mp hj).1
      simpa using this
    rw [List.getElem?_set_self hl] at hj
    cases hj
    exact ⟨v, by rw [List.getElem?_set_self (by rw [r.len]; exact hl)], q⟩
  · rw [List.getElem?_set_ne e] at hj
    obtain ⟨u, h1, h2⟩ := r.at_ j y hj
    exact ⟨u, by rw [List.getElem?_set_ne e]; exact h1, h2⟩
theorem RS.unset {K : PySem.W.Frag} {σ : Sv} {p : Sg} (r : RS K m H σ p) {i : Nat} : RS K m H (σ.set i none) (p.set i none) := by
  refine ⟨by simp [r.len], fun j y hj => ?_⟩
  by_cases e : i = j
  · subst e
    have hl : i < p.length := by
      have := (List.getElem?_eq_some_iff.mp hj).1
      simpa using this
    rw [List.getElem?_set_self hl] at hj
    cases hj
  · rw [List.getElem?_set_ne e] at hj
    obtain ⟨u, h1, h2⟩ := r.at_ j y hj
    exact ⟨u, by rw [List.getElem?_set_ne e]; exact h1, h2⟩
theorem RS.wipe {K : PySem.W.Frag} {σ : Sv} {p : Sg} (r : RS K m H σ p) : ∀ own : List Nat, RS K m H (L2.wipe σ own) (Iw.wipe p own)
  | [] => r
  | v :: vs => (RS.wipe r vs).unset
end

/-! ### what a result is worth -/
section
variable {K : PySem.W.Frag} {α β γ δ : Type}
/-- ok: whatever stands for the value, behind it; an exception: the wish E -/
def satG (mg : Str → Option Value) (K : PySem.W.Frag) (E : Value → Hp → Prop) (m : Mp) (H : Hp) (rel : Mp → Hp → β → α → Prop) (r : R α) (Q : β → Hp → Prop) : Prop := match r with
  | .ok a h' => ∀ b H' m', Evo m H m' H' → RH K m' h' H' → rel m' H' b a → Q b H'
  | .exc c h' => ∀ C H' m', mg c = some (.ref C) → Evo m H m' H' → RH K m' h' H' → E (.ref C) H'
  | .bad => False
variable {mg : Str → Option Value} {E E' : Value → Hp → Prop} {m m' : Mp} {H H' : Hp} {rel : Mp → Hp → β → α → Prop} {rel2 : Mp → Hp → δ → γ → Prop} {r : R α} {Q Q' : β → Hp → Prop}
theorem satG.mono (h : satG mg K E m H rel r Q) (hq : ∀ b H', Q b H' → Q' b H') : satG mg K E m H rel r Q' := by
  cases r with
  | ok a h' => exact fun b H' m' e q z => hq _ _ (h b H' m' e q z)
  | exc c h' => exact h
  | bad => exact h
theorem satG.evo (h : satG mg K E m H rel r Q) (e : Evo m H m' H') : satG mg K E m' H' rel r Q := by
  cases r with
  | ok a h' => exact fun b H1 m1 e1 q z => h b H1 m1 (e.trans e1) q z
  | exc c h' => exact fun C H1 m1 hc e1 q => h C H1 m1 hc (e.trans e1) q
  | bad => exact h
theorem satG.bind {f : α → Hs → R γ} {Q2 : δ → Hp → Prop} (h : satG mg K E m H rel2 (r.bind f) Q2) :
    satG mg K E m H rel r (fun b H1 => ∃ m1 a h1, Evo m H m1 H1 ∧ RH K m1 h1 H1 ∧ rel m1 H1 b a ∧ satG mg K E m1 H1 rel2 (f a h1) Q2) := by
  cases r with
  | ok a h' => exact fun b H1 m1 e q z => ⟨m1, a, h', e, q, z, satG.evo h e⟩
  | exc c h' => exact h
  | bad => exact h
end
end Iw
end

section
set_option Elab.async false
set_option linter.all false
set_option maxRecDepth 100000
/-! the primitive operations are sound -/
namespace Iw
open PySem PySem.Spec PyProof.Rows L2

theorem line_eq : line = sizeLine := by rw [sizeLine_eq]; rfl
/-- an operation on two values, on one, on a list of them -/
def r2 (X : Cx) (f : PV → PV → Hs → R PV) : R2 := fun x y H Q => ∃ (E : Value → Hp → Prop) (m : Mp) (h : Hs) (p q : PV), RH X.K m h H ∧ RV X.K m H x p ∧ RV X.K m H y q ∧ satG X.mg X.K E m H (RV X.K) (f p q h) Q
def r1 (X : Cx) (f : PV → Hs → R PV) : V → Hp → VK → Prop := fun x H Q => ∃ (E : Value → Hp → Prop) (m : Mp) (h : Hs) (p : PV), RH X.K m h H ∧ RV X.K m H x p ∧ satG X.mg X.K E m H (RV X.K) (f p h) Q
def rs (X : Cx) (f : List PV → Hs → R PV) : List V → Hp → VK → Prop := fun xs H Q => ∃ (E : Value → Hp → Prop) (m : Mp) (h : Hs) (ps : List PV), RH X.K m h H ∧ RVs X.K m H xs ps ∧ satG X.mg X.K E m H (RV X.K) (f ps h) Q

section
variable {K : PySem.W.Frag} {mg : Str → Option Value} {E : Value → Hp → Prop} {m : Mp} {H : Hp} {h : Hs} {Q : VK}
theorem rv_d {v : V} {x : PyData} (r : RV K m H v (.d x)) : Rp m H v x := by cases r; assumption
theorem rv_int {v : V} {i : Int} (r : RV K m H v (.d (.int i))) : v = .int i := by cases rv_d r; rfl
theorem rv_str {v : V} {i : Str} (r : RV K m H v (.d (.str i))) : v = .str i := by cases rv_d r; rfl
theorem rv_bool {v : V} {i : Bool} (r : RV K m H v (.d (.bool i))) : v = .bl i := by cases rv_d r; rfl
theorem rv_none {v : V} (r : RV K m H v (.d .none)) : v = .non := by cases rv_d r; rfl
theorem rv_tup {v : V} {ds : List PyData} (r : RV K m H v (.d (.tuple ds))) : ∃ a vs, v = .ref a ∧ H a = some (.tup vs) ∧ a ∉ m ∧ RpA m H vs ds := by
  cases rv_d r with
  | tup e n r => exact ⟨_, _, rfl, e, n, r⟩
theorem rv_lst {v : V} {ds : List PyData} (r : RV K m H v (.d (.list ds))) : ∃ a vs, v = .ref a ∧ H a = some (.lst vs) ∧ a ∉ m ∧ RpA m H vs ds := by
  cases rv_d r with
  | lst e n r => exact ⟨_, _, rfl, e, n, r⟩
theorem rv_ref (rh : RH K m h H) {v : V} {n : Nat} {xs : List PV} (r : RV K m H v (.ref n)) (e : h[n]? = some (.lst xs)) : ∃ a vs, v = .ref a ∧ m.own[n]? = some a ∧ H a = some (.lst vs) ∧ RVs K m H vs xs := by
  cases r with
  | ref hn =>
    obtain ⟨a, u, e1, e2, e3⟩ := rh.at_ n _ e
    rw [hn] at e1; cases e1
    cases e3 with
    | lst r => exact ⟨_, _, rfl, hn, e2, r⟩
theorem getL_at (rh : RH K m h H) {v : V} {p : PV} {xs : List PV} (r : RV K m H v p) (e : getL h p = some xs) : ∃ a vs, v = .ref a ∧ H a = some (.lst vs) ∧ RVs K m H vs xs := by
  cases p with
  | d x =>
    cases x with
    | list ds =>
      obtain ⟨a, vs, rfl, e1, _, r1⟩ := rv_lst r
      cases e
      exact ⟨a, vs, rfl, e1, r1.rvs⟩
    | _ => cases e
  | ref n =>
    unfold getL at e
    dsimp only at e
    split at e
    · rename_i ys e0
      cases e
      obtain ⟨a, vs, rfl, _, e1, r1⟩ := rv_ref rh r e0
      exact ⟨a, vs, rfl, e1, r1⟩
    · cases e
  | scr _ => cases e
/-- data, at hand -/
theorem now {α β : Type} {rel : Mp → Hp → β → α → Prop} {Q : β → Hp → Prop} {b : β} {a : α} (rh : RH K m h H) (hs : satG mg K E m H rel (.ok a h) Q) (r : rel m H b a) : Q b H := hs b H m Evo.refl rh r
theorem newTup (rh : RH K m h H) {ds : List PyData} {vs : List V} (hs : satG mg K E m H (RV K) (.ok (.d (.tuple ds)) h) Q) (r : RpA m H vs ds) {p : Addr} (hp : H p = none) : Q (.ref p) (upd H p (.tup vs)) :=
  hs _ _ m (Evo.new rh hp) (rh.new hp) (.d (.tup upd_same (rh.fresh hp) (r.evo (Evo.new rh hp))))
theorem newLst (rh : RH K m h H) {ds : List PyData} {vs : List V} (hs : satG mg K E m H (RV K) (.ok (.d (.list ds)) h) Q) (r : RpA m H vs ds) {p : Addr} (hp : H p = none) : Q (.ref p) (upd H p (.lst vs)) :=
  hs _ _ m (Evo.new rh hp) (rh.new hp) (.d (.lst upd_same (rh.fresh hp) (r.evo (Evo.new rh hp))))
theorem newMk (rh : RH K m h H) {mt : Bool} {xs : List PV} {vs : List V} (hs : satG mg K E m H (RV K) (mkL mt xs h) Q) (r : RVs K m H vs xs) {p : Addr} (hp : H p = none) : Q (.ref p) (upd H p (.lst vs)) := by
  cases mt with
  | true =>
    have hs : satG mg K E m H (RV K) (.ok (.ref h.length) (h ++ [.lst xs])) Q := hs
    refine hs _ _ (m.add p) (Evo.alloc rh hp) (rh.alloc hp (.lst r)) (.ref ?_)
    rw [← rh.len]; simp
  | false =>
    have hs : satG mg K E m H (RV K) (R.of ((datas xs).map fun ds => .d (.list ds)) h) Q := hs
    cases e : datas xs with
    | none => rw [e] at hs; exact hs.elim
    | some ds =>
      rw [e] at hs
      exact newLst rh hs (r.rpa e) hp
end
theorem satG_if {K : PySem.W.Frag} {mg : Str → Option Value} {E : Value → Hp → Prop} {m : Mp} {H : Hp} {α β : Type} {rel : Mp → Hp → β → α → Prop} {Q : β → Hp → Prop} {c : Prop} [Decidable c] {r : R α} (hs : satG mg K E m H rel (if c then r else .bad) Q) : c ∧ satG mg K E m H rel r Q := by
  by_cases hc : c
  · rw [if_pos hc] at hs; exact ⟨hc, hs⟩
  · rw [if_neg hc] at hs; exact hs.elim

def BO.op : BO → Operator
  | .add => .Add
  | .sub => .Sub
  | .mul => .Mult
  | .fdv => .FloorDiv
  | .mod => .Mod
  | .pow => .Pow
section
variable {X : Cx}
theorem op_list_add {pins : List (Addr × Obj)} {s : Shared} {σ : Sv} {H : Hp} {x y : V} {v u : Value} {Q : VK} {E : Value → Hp → Prop} {m : Mp} {h : Hs} {p q : PV} (I : Inv X pins σ H s) (rx : RelV x v) (ry : RelV y u)
    (rh : RH X.K m h H) (r1 : RV X.K m H x p) (r2 : RV X.K m H y q) (hs : satG X.mg X.K E m H (RV X.K) (match getL h p, getL h q with
    | some xs, some ys => if xs.length + ys.length ≤ line then mkL false (xs ++ ys) h else .bad
    | _, _ => .bad) Q) : wpAny (model X.prog X.w) X.A (binaryOp .Add v u) (EP X pins σ Q) X.xe s := by
  cases e1 : getL h p with
  | none => rw [e1] at hs; exact hs.elim
  | some xs =>
    cases e2 : getL h q with
    | none => rw [e1, e2] at hs; exact hs.elim
    | some ys =>
      rw [e1, e2] at hs
      obtain ⟨hl, hs⟩ := satG_if hs
      obtain ⟨a, vs, rfl, ha, ra⟩ := getL_at rh r1 e1
      obtain ⟨b, ws, rfl, hb, rb⟩ := getL_at rh r2 e2
      exact op_cat pins s σ H _ _ v u Q I rx ry ⟨a, b, vs, ws, rfl, rfl, ha, hb, by rw [ra.len, rb.len, ← line_eq]; exact hl, fun p hp => newMk rh hs (PairedApp ra rb) hp⟩

theorem op_add_iw : OpR X (binaryOp .Add) (Iw.r2 X (binop .add)) := by
  intro pins s σ H x y v u Q I rx ry h
  obtain ⟨E, m, hh, p, q, rh, ra, rb, hs⟩ := h
  cases p with
  | d dx =>
    cases q with
    | d dy =>
      cases dx <;> cases dy <;> first | exact hs.elim | skip
      · cases rv_int ra
        cases rv_int rb
        exact op_add pins s σ H _ _ v u Q I rx ry ⟨_, _, rfl, rfl, now rh hs (.d (.int _))⟩
      · cases rv_str ra
        cases rv_str rb
        obtain ⟨hl, hs⟩ := satG_if hs
        exact op_add_str pins s σ H _ _ v u Q I rx ry ⟨_, _, rfl, rfl, by rw [← line_eq]; exact hl, now rh hs (.d (.str _))⟩
      · exact op_list_add I rx ry rh ra rb hs
      · obtain ⟨hl, hs⟩ := satG_if hs
        obtain ⟨a, vs, rfl, ha, na, qa⟩ := rv_tup ra
        obtain ⟨b, ws, rfl, hb, nb, qb⟩ := rv_tup rb
        refine op_catA pins s σ H _ _ v u Q I rx ry ⟨a, b, vs, ws, rfl, rfl, SqT.of ha, SqT.of hb, by rw [qa.length, qb.length, ← line_eq]; exact hl, fun e => ?_, fun e1 e2 => ?_, fun e1 e2 p hp => newTup rh hs (qa.append qb) hp⟩
        · subst e
          cases qa
          exact now rh hs (.d (.tup hb nb qb))
        · subst e2
          cases qb
          rw [List.append_nil] at hs
          exact now rh hs (.d (.tup ha na qa))
    | ref n => cases dx <;> first | exact hs.elim | exact op_list_add I rx ry rh ra rb hs
    | scr ns => cases dx <;> first | exact hs.elim | exact op_list_add I rx ry rh ra rb hs
  | ref n =>
    have hs : satG X.mg X.K E m H (RV X.K) (match getL hh (.ref n), getL hh q with
      | some xs, some ys => if xs.length + ys.length ≤ line then mkL false (xs ++ ys) hh else .bad
      | _, _ => .bad) Q := by
      cases q with
      | d dy => cases dy <;> exact hs
      | _ => exact hs
    exact op_list_add I rx ry rh ra rb hs
  | scr ns =>
    have hs : satG X.mg X.K E m H (RV X.K) (match getL hh (.scr ns), getL hh q with
      | some xs, some ys => if xs.length + ys.length ≤ line then mkL false (xs ++ ys) hh else .bad
      | _, _ => .bad) Q := by
      cases q with
      | d dy => cases dy <;> exact hs
      | _ => exact hs
    exact hs.elim
/-- t * 1 is t, () * k is () -/
theorem tuple_mulS (l : Addr) (items : Array Value) (n : Nat) (dd : Option Addr) (sl : Array (Option Value)) (x : Int) (u : Tok) (c0 : (decide (x < -(2 ^ 63)) || decide (x ≥ 2 ^ 63)) = false) (c1 : (items.isEmpty || x == 1) = true) :
    Meets (Builtin.«tuple.__mul__» ⟨[.ref l, .int x u], []⟩) (fun _ R s => s.heap.get? l = some { cls := .type "tuple", dict := dd, data := .seq items n, slots := sl } ∧ R (.ok (.ret (Value.ref l))) s) :=
  .of_wp fun prog w A R s h => by
    obtain ⟨hp, g, d, tk, os⟩ := s
    obtain ⟨hl, h⟩ := h
    have f1 := AutoSeq1.idx_int
    wp_walk using wpAny_loadPart' hl
    repeat (first
      | (refine wpAny_ite_false (decide_eq_false (by rw [c0]; exact Bool.false_ne_true)) ?_; wp_walk using wpAny_loadPart' hl)
      | (refine wpAny_ite_true (decide_eq_true c1) ?_; wp_walk using wpAny_loadPart' hl))
    exact ⟨_, rfl, h⟩
theorem tuple_mul0 (l : Addr) (items : Array Value) (n : Nat) (dd : Option Addr) (sl : Array (Option Value)) (x : Int) (u : Tok) (c0 : (decide (x < -(2 ^ 63)) || decide (x ≥ 2 ^ 63)) = false) (c1 : (items.isEmpty || x == 1) = false) (c2 : (decide (x ≤ 0) || items.isEmpty) = true) :
    Meets (Builtin.«tuple.__mul__» ⟨[.ref l, .int x u], []⟩) (fun _ R s => s.heap.get? l = some { cls := .type "tuple", dict := dd, data := .seq items n, slots := sl } ∧
      R (.ok (.ret (Value.ref s.heap.objs.size))) { s with heap := s.heap.push { cls := Value.type "tuple", data := Data.seq #[] }, toks := s.toks }) :=
  .of_wp fun prog w A R s h => by
    obtain ⟨hp, g, d, tk, os⟩ := s
    obtain ⟨hl, h⟩ := h
    have f1 := AutoSeq1.idx_int
    wp_walk using wpAny_loadPart' hl
    repeat (first
      | (refine wpAny_ite_false (decide_eq_false (by rw [c0]; exact Bool.false_ne_true)) ?_; wp_walk using wpAny_loadPart' hl)
      | (refine wpAny_ite_false (decide_eq_false (by rw [c1]; exact Bool.false_ne_true)) ?_; wp_walk using wpAny_loadPart' hl)
      | (refine wpAny_ite_true (decide_eq_true c2) ?_; wp_walk using wpAny_loadPart' hl))
    exact ⟨_, rfl, h⟩
theorem op_rep0 : OpR X (binaryOp .Mult) (fun x y H Q => ∃ l xs, x = .ref l ∧ y = .int 0 ∧ SqT X.K H l xs ∧ xs ≠ [] ∧ ∀ p, H p = none → Q (.ref p) (upd H p (.tup []))) := by
  intro pins s σ H x y v u Q I rx ry h
  obtain ⟨l, xs, rfl, rfl, hT, hne, q⟩ := h
  cases rx
  obtain ⟨t, rfl⟩ := ry
  obtain ⟨its, r, ⟨⟨cls, dd, data, sl⟩, ho, hcl, n, hd⟩, hs⟩ := I.tuple hT
  simp only at hcl hd
  subst hcl hd
  have hi : its.toArray.isEmpty = false := by
    cases its with
    | nil => cases r; exact absurd rfl hne
    | cons a b => rfl
  have c1 : (its.toArray.isEmpty || (0 : Int) == 1) = false := by rw [hi]; rfl
  refine wpAny_binaryOp_repeat_ref (T := "tuple") (U := "int") (by decide) ⟨_, ho, rfl⟩ (fun s' => typeIs_int s' 0 t) noFill_tuple_mul F.fills_int_mul F.slot_int_rmul repeat_tuple F.slot_int_index.lookup
    (call_meets F.slot_int_rmul (typeIs_int s 0 t) F.entry_int_rmul (F.args_int_rmul_2 _ _) (int_rmul_tuple 0 t l its.toArray n dd sl)
      ⟨ho, rfl, ⟨_, ho, rfl⟩, call_meets F.slot_tuple_mul ⟨_, ho, rfl⟩ F.entry_tuple_mul (F.args_tuple_mul_2 _ _) (tuple_mul0 l its.toArray n dd sl 0 t rfl c1 rfl) ⟨ho, ?_⟩⟩)
  refine ⟨.ref s.heap.objs.size, _, I.laid (t' := s.toks) (o := .tup []) (fun b ob q => Heap.get?_push_of_some _ q) (Nat.le_refl _) ?_, rfl, q _ (I.hok.fresh (Nat.le_refl _))⟩
  exact ⟨by rw [sizeLine_eq]; decide, [], .nil, IsTup.new _ _⟩
theorem op_repS : OpR X (binaryOp .Mult) (fun x y H Q => ∃ l xs k, x = .ref l ∧ y = .int k ∧ SqT X.K H l xs ∧ (xs = [] ∨ k = 1) ∧ 0 ≤ k ∧ k ≤ 1000 ∧ Q (.ref l) H) := by
  intro pins s σ H x y v u Q I rx ry h
  obtain ⟨l, xs, k, rfl, rfl, hT, hc, h1, h2, q⟩ := h
  cases rx
  obtain ⟨t, rfl⟩ := ry
  obtain ⟨its, r, ⟨⟨cls, dd, data, sl⟩, ho, hcl, n, hd⟩, hs⟩ := I.tuple hT
  simp only at hcl hd
  subst hcl hd
  have c0 : (decide (k < -(2 ^ 63)) || decide (k ≥ 2 ^ 63)) = false := by
    rw [decide_eq_false (by omega), decide_eq_false (by omega)] <;> rfl
  have c1 : (its.toArray.isEmpty || k == 1) = true := by
    rcases hc with e | e
    · subst e
      cases r
      rfl
    · subst e
      simp
  refine wpAny_binaryOp_repeat_ref (T := "tuple") (U := "int") (by decide) ⟨_, ho, rfl⟩ (fun s' => typeIs_int s' k t) noFill_tuple_mul F.fills_int_mul F.slot_int_rmul repeat_tuple F.slot_int_index.lookup
    (call_meets F.slot_int_rmul (typeIs_int s k t) F.entry_int_rmul (F.args_int_rmul_2 _ _) (int_rmul_tuple k t l its.toArray n dd sl)
      ⟨ho, rfl, ⟨_, ho, rfl⟩, call_meets F.slot_tuple_mul ⟨_, ho, rfl⟩ F.entry_tuple_mul (F.args_tuple_mul_2 _ _) (tuple_mulS l its.toArray n dd sl k t c0 c1) ⟨ho, ?_⟩⟩)
  exact ⟨.ref l, H, I, rfl, q⟩
theorem op_mul_iw : OpR X (binaryOp .Mult) (Iw.r2 X (binop .mul)) := by
  intro pins s σ H x y v u Q I rx ry h
  obtain ⟨E, m, hh, p, q, rh, ra, rb, hs⟩ := h
  cases p with
  | d dx =>
    cases q with
    | d dy =>
      cases dx <;> cases dy <;> first | exact hs.elim | skip
      · cases rv_int ra
        cases rv_int rb
        obtain ⟨hl, hs⟩ := satG_if hs
        unfold mulOk at hl
        have hl2 := of_decide_eq_true hl
        exact op_mul pins s σ H _ _ v u Q I rx ry ⟨_, _, rfl, rfl, hl2, now rh hs (.d (.int _))⟩
      · rename_i ds k
        obtain ⟨⟨h1, h2, h3⟩, hs⟩ := satG_if hs
        obtain ⟨a, vs, rfl, ha, na, qa⟩ := rv_lst ra
        cases rv_int rb
        refine op_rep pins s σ H _ _ v u Q I rx ry ⟨a, k, vs, rfl, rfl, ha, by omega, by omega, ?_, fun p hp => newLst rh hs (qa.rep _) hp⟩
        rw [qa.length, sizeLine_eq]
        have a1 : ds.length * k.toNat ≤ 1000 * 1000 := Nat.mul_le_mul h3 (by omega)
        omega
      · rename_i ds k
        obtain ⟨⟨h1, h2, h3⟩, hs⟩ := satG_if hs
        obtain ⟨a, vs, rfl, ha, na, qa⟩ := rv_tup ra
        cases rv_int rb
        by_cases hk : k = 1
        · subst hk
          have e : (List.replicate (1 : Int).toNat ds).flatten = ds := by simp
          rw [e] at hs
          exact op_repS pins s σ H _ _ v u Q I rx ry ⟨a, vs, 1, rfl, rfl, SqT.of ha, .inr rfl, by omega, by omega, now rh hs (.d (.tup ha na qa))⟩
        · by_cases he : vs = []
          · subst he
            cases qa
            have e : (List.replicate k.toNat ([] : List PyData)).flatten = [] := by simp
            rw [e] at hs
            exact op_repS pins s σ H _ _ v u Q I rx ry ⟨a, [], k, rfl, rfl, SqT.of ha, .inl rfl, by omega, h2, now rh hs (.d (.tup ha na .nil))⟩
          · by_cases hk0 : k = 0
            · subst hk0
              have e : (List.replicate (0 : Int).toNat ds).flatten = [] := by simp
              rw [e] at hs
              exact op_rep0 pins s σ H _ _ v u Q I rx ry ⟨a, vs, rfl, rfl, SqT.of ha, he, fun p hp => newTup rh hs .nil hp⟩
            exact op_repT pins s σ H _ _ v u Q I rx ry ⟨a, k, vs, rfl, rfl, SqT.of ha, he, by omega, by omega, by rw [qa.length]; exact h3, fun p hp => newTup rh hs (qa.rep _) hp⟩
    | ref n => cases dx <;> exact hs.elim
    | scr ns => cases dx <;> exact hs.elim
  | ref n => exact hs.elim
  | scr ns => exact hs.elim
/-- the operations on two ints alone -/
theorem op_ints {F : Value → Value → Sem Value} {f : PV → PV → Hs → R PV} {C : Int → Int → Prop} {g : Int → Int → Int} (ho : OpR X F (rI C fun i j => .int (g i j)))
    (hf : ∀ p q h, (∃ i j, p = .d (.int i) ∧ q = .d (.int j) ∧ C i j ∧ f p q h = .ok (Iw.int (g i j)) h) ∨ f p q h = .bad) : OpR X F (Iw.r2 X f) := by
  intro pins s σ H x y v u Q I rx ry h
  obtain ⟨E, m, hh, p, q, rh, ra, rb, hs⟩ := h
  rcases hf p q hh with ⟨i, j, rfl, rfl, c, e⟩ | e
  · rw [e] at hs
    cases rv_int ra
    cases rv_int rb
    exact ho pins s σ H _ _ v u Q I rx ry ⟨_, _, rfl, rfl, c, now rh hs (.d (.int _))⟩
  · rw [e] at hs
    exact hs.elim
theorem op_sub_iw : OpR X (binaryOp .Sub) (Iw.r2 X (binop .sub)) := by
  refine op_ints (C := fun _ _ => True) (g := fun i j => i - j) (fun pins s σ H x y v u Q I rx ry ⟨i, j, e1, e2, _, q⟩ => op_sub pins s σ H x y v u Q I rx ry ⟨i, j, e1, e2, q⟩) fun p q h => ?_
  rcases p with (_|_|i|_|_|_|_) | _ | _ <;> first | exact .inr rfl | skip
  rcases q with (_|_|j|_|_|_|_) | _ | _ <;> first | exact .inr rfl | skip
  exact .inl ⟨_, _, rfl, rfl, trivial, rfl⟩
theorem op_fdivX : OpR X (binaryOp .FloorDiv) (rI (fun _ j => j ≠ 0 ∧ j.natAbs < 18446744073709551616) fun i j => .int (i.fdiv j)) := opI fun _ _ _ _ _ _ _ hc q =>
  floordiv_int hc.1 q (.inl (PyProof.noPylong_of_log2 (Nat.lt_of_lt_of_le (PySem.Flt.log2_lt_of (k := 64) (by decide) hc.2) (by decide : 64 ≤ 9000))))
theorem op_fdv_iw : OpR X (binaryOp .FloorDiv) (Iw.r2 X (binop .fdv)) := by
  refine op_ints op_fdivX fun p q h => ?_
  rcases p with (_|_|i|_|_|_|_) | _ | _ <;> first | exact .inr rfl | skip
  rcases q with (_|_|j|_|_|_|_) | _ | _ <;> first | exact .inr rfl | skip
  by_cases c : j ≠ 0 ∧ j.natAbs < 18446744073709551616
  · exact .inl ⟨i, j, rfl, rfl, c, if_pos c⟩
  · exact .inr (if_neg c)
theorem op_mod_iw : OpR X (binaryOp .Mod) (Iw.r2 X (binop .mod)) := by
  refine op_ints op_modN fun p q h => ?_
  rcases p with (_|_|i|_|_|_|_) | _ | _ <;> first | exact .inr rfl | skip
  rcases q with (_|_|j|_|_|_|_) | _ | _ <;> first | exact .inr rfl | skip
  by_cases c : j ≠ 0
  · exact .inl ⟨i, j, rfl, rfl, c, if_pos c⟩
  · exact .inr (if_neg c)
theorem op_pow_iw : OpR X (binaryOp .Pow) (Iw.r2 X (binop .pow)) := by
  refine op_ints op_pow fun p q h => ?_
  rcases p with (_|_|i|_|_|_|_) | _ | _ <;> first | exact .inr rfl | skip
  rcases q with (_|_|j|_|_|_|_) | _ | _ <;> first | exact .inr rfl | skip
  by_cases c : 0 ≤ j ∧ j ≤ 1000000 ∧ i.natAbs < 2 ^ 64
  · exact .inl ⟨i, j, rfl, rfl, c, if_pos c⟩
  · exact .inr (if_neg c)
theorem op_bin_iw (o : BO) : OpR X (binaryOp o.op) (Iw.r2 X (binop o)) := by
  cases o
  · exact op_add_iw
  · exact op_sub_iw
  · exact op_mul_iw
  · exact op_fdv_iw
  · exact op_mod_iw
  · exact op_pow_iw
/-! ### data in the heap -/
section
variable {pins : List (Addr × Obj)} {σ : Sv} {H : Hp} {s : Shared} {m : Mp}
mutual
theorem Rp.reads (I : Inv X pins σ H s) : ∀ {v : V} {d : PyData} {u : Value}, Rp m H v d → RelV v u → ∃ as, Reads s.heap u d as
  | _, _, _, .non, r => by
    cases r
    exact ⟨_, Reads.none⟩
  | _, _, _, .bl b, r => by
    cases r
    exact ⟨_, Reads.bool b⟩
  | _, _, _, .int i, r => by
    obtain ⟨t, rfl⟩ := r
    exact ⟨_, Reads.int i t⟩
  | _, _, _, .str x, r => by
    obtain ⟨t, rfl⟩ := r
    exact ⟨_, Reads.str x t⟩
  | _, _, _, .lst h _ ra, r => by
    cases r
    obtain ⟨its, rv, ⟨o, n, ho, hc, _, hd⟩, _⟩ := I.list (SqL.of h)
    obtain ⟨as, hr⟩ := RpA.reads I ra rv
    exact ⟨_, Reads.list ho hc hd hr⟩
  | _, _, _, .tup h _ ra, r => by
    cases r
    obtain ⟨its, rv, ⟨o, ho, hc, n, hd⟩, _⟩ := I.tuple (SqT.of h)
    obtain ⟨as, hr⟩ := RpA.reads I ra rv
    exact ⟨_, Reads.tuple ho hc hd hr⟩
theorem RpA.reads (I : Inv X pins σ H s) : ∀ {vs : List V} {ds : List PyData} {us : List Value}, RpA m H vs ds → Vals vs us → ∃ as, ReadsAll s.heap us ds as
  | _, _, _, .nil, r => by
    cases r
    exact ⟨_, ReadsAll.nil⟩
  | _, _, _, .cons h1 h2, r => by
    cases r with
    | cons r1 r2 =>
      obtain ⟨as, q1⟩ := Rp.reads I h1 r1
      obtain ⟨bs, q2⟩ := RpA.reads I h2 r2
      exact ⟨_, ReadsAll.cons q1 q2⟩
end
/-- the frozen view of a value is read too -/
theorem view_reads (I : Inv X pins σ H s) {h : Hs} (rh : RH X.K m h H) {v : V} {p : PV} {d : PyData} {u : Value} (r : RV X.K m H v p) (e : view h p = some d) (ru : RelV v u) : ∃ as, Reads s.heap u d as := by
  cases p with
  | d x => cases e; exact Rp.reads I (rv_d r) ru
  | ref n =>
    unfold view at e
    dsimp only at e
    split at e
    · rename_i xs e0
      obtain ⟨ds, e1, rfl⟩ := Option.map_eq_some_iff.mp e
      obtain ⟨a, vs, rfl, _, e2, r1⟩ := rv_ref rh r e0
      cases ru
      obtain ⟨its, rv, ⟨o, n, ho, hc, _, hd⟩, _⟩ := I.list (SqL.of e2)
      obtain ⟨as, hr⟩ := RpA.reads I (r1.rpa e1) rv
      exact ⟨_, Reads.list ho hc hd hr⟩
    · cases e
  | scr _ => cases e
end
/-! ### comparisons -/
def CO.op : CO → CmpOp
  | .eq => .Eq
  | .ne => .NotEq
  | .lt => .Lt
  | .le => .LtE
  | .gt => .Gt
  | .ge => .GtE
  | .isin => .In
  | .nin => .NotIn
theorem deep_ok {A : Around} {d : Nat} (hu : A.units + 64 < cLine) (h : d ≤ deep) : A.units + d < cLine := by
  have : deep = 60 := rfl
  omega
theorem deep_ok1 {A : Around} {d : Nat} (hu : A.units + 64 < cLine) (h : d ≤ deep) : A.units + 1 + d < cLine := by
  have : deep = 60 := rfl
  omega
theorem ltOk_of {x y : PyData} (h : ltOk x y = true) : PySem.W.alike x y = true ∧ x ≠ .none ∧ min x.depth y.depth ≤ deep := by
  unfold ltOk at h
  simp only [Bool.and_eq_true, decide_eq_true_eq] at h
  refine ⟨h.1, ?_, h.2.1⟩
  rintro rfl
  exact absurd h.2.2 (by decide)
/-! ### dicts -/
section
variable {K : PySem.W.Frag} {m : Mp} {H : Hp} {h : Hs} {κ : Type} [DecidableEq κ]
theorem val_pair {P : V → PV → Prop} (k : κ) : ∀ {vs : List (κ × V)} {xs : List (κ × PV)}, Paired (fun p q => p.1 = q.1 ∧ P p.2 q.2) vs xs → (valV vs k = none ∧ valP xs k = none) ∨ ∃ v x, valV vs k = some v ∧ valP xs k = some x ∧ P v x
  | _, _, .nil => .inl ⟨rfl, rfl⟩
  | (a, v) :: vs, (b, x) :: xs, .cons r t => by
    obtain ⟨r1, r2⟩ := r
    have r1 : a = b := r1
    subst r1
    by_cases e : a = k
    · exact .inr ⟨v, x, by simp [valV, List.find?_cons, e], by simp [valP, List.find?_cons, e], r2⟩
    · have e1 : valV ((a, v) :: vs) k = valV vs k := by simp [valV, List.find?_cons, e]
      have e2 : valP ((a, x) :: xs) k = valP xs k := by simp [valP, List.find?_cons, e]
      rw [e1, e2]
      exact val_pair k t
theorem any_pair {P : V → PV → Prop} (k : κ) : ∀ {vs : List (κ × V)} {xs : List (κ × PV)}, Paired (fun p q => p.1 = q.1 ∧ P p.2 q.2) vs xs → (vs.any fun kv => decide (kv.1 = k)) = (xs.any fun kv => decide (kv.1 = k))
  | _, _, .nil => rfl
  | _, _, .cons r t => by simp only [List.any_cons]; rw [r.1, any_pair k t]
theorem map_pair {P : V → PV → Prop} (k : κ) {v : V} {x : PV} (q : P v x) : ∀ {vs : List (κ × V)} {xs : List (κ × PV)}, Paired (fun p q => p.1 = q.1 ∧ P p.2 q.2) vs xs → Paired (fun p q => p.1 = q.1 ∧ P p.2 q.2) (vs.map fun kv => if kv.1 = k then (kv.1, v) else kv) (xs.map fun kv => if kv.1 = k then (kv.1, x) else kv)
  | _, _, .nil => .nil
  | (a, _) :: vs, (b, _) :: xs, .cons r t => by
    have r1 : a = b := r.1
    subst r1
    refine .cons ?_ (map_pair k q t)
    by_cases e : a = k
    · simp only [e, if_true]; exact ⟨trivial, q⟩
    · simp only [e, if_false]; exact ⟨trivial, r.2⟩
theorem put_pair {P : V → PV → Prop} (k : κ) {v : V} {x : PV} (q : P v x) {vs : List (κ × V)} {xs : List (κ × PV)} (r : Paired (fun p q => p.1 = q.1 ∧ P p.2 q.2) vs xs) : Paired (fun p q => p.1 = q.1 ∧ P p.2 q.2) (putK vs k v) (putP xs k x) := by
  unfold putK putP
  rw [any_pair k r]
  split
  · exact map_pair k q r
  · exact PairedApp r (.cons ⟨rfl, q⟩ .nil)
theorem keyOf_at {v : V} {d : PyData} {k : Key} (r : Rp m H v d) (e : keyOf d = some k) : v = kV k := by
  cases r <;> cases e <;> rfl
theorem keysOf1_at : ∀ {vs : List V} {ds : List PyData} {ks : List Key}, RpA m H vs ds → keysOf1 ds = some ks → vs = ks.map kV
  | _, _, _, .nil, e => by cases e; rfl
  | _, _, _, .cons r t, e => by
    obtain ⟨k, e1, e2⟩ := Option.bind_eq_some_iff.mp e
    obtain ⟨ks, e3, rfl⟩ := Option.map_eq_some_iff.mp e2
    rw [keyOf_at r e1, keysOf1_at t e3]; rfl
theorem keysOf_at {v : V} {d : PyData} {ks : List Key} (r : Rp m H v d) (e : keysOf d = some ks) : ∃ b, v = .ref b ∧ H b = some (.tup (ks.map kV)) ∧ b ∉ m := by
  cases r with
  | tup h n ra => exact ⟨_, rfl, by rw [← keysOf1_at ra e]; exact h, n⟩
  | _ => cases e
/-- what a dict's look tells -/
inductive OV (K : PySem.W.Frag) (m : Mp) (H : Hp) : Option V → Option PV → Prop
  | none : OV K m H none none
  | some {v : V} {x : PV} : RV K m H v x → OV K m H (some v) (some x)
theorem OV.isSome {o : Option V} {p : Option PV} (r : OV K m H o p) : o.isSome = p.isSome := by cases r <;> rfl
theorem dget_at (rh : RH K m h H) {v y : V} {p : PV} {d : PyData} {o : Option PV} (r : RV K m H v p) (ry : Rp m H y d) (e : dgetv h p d = some o) : ∃ a ov, v = .ref a ∧ DGet H a y ov ∧ OV K m H ov o := by
  cases p with
  | ref n =>
    have e : (match h[n]? with
      | some o => dgetO o d
      | none => none) = some o := e
    cases e0 : h[n]? with
    | none => rw [e0] at e; cases e
    | some ob =>
      rw [e0] at e
      obtain ⟨a, u, h1, h2, h3⟩ := rh.at_ n ob e0
      cases r with
      | ref ha =>
        rw [h1] at ha; cases ha
        cases h3 with
        | lst _ => cases e
        | dK rp =>
          obtain ⟨k, e1, e2⟩ := Option.map_eq_some_iff.mp (show (keyOf d).map _ = some o from e)
          subst e2
          refine ⟨a, _, rfl, by rw [keyOf_at ry e1]; exact DGet.k h2, ?_⟩
          rcases val_pair k rp with ⟨z1, z2⟩ | ⟨v, x, z1, z2, z3⟩
          · rw [z1, z2]; exact .none
          · rw [z1, z2]; exact .some z3
        | dT rp =>
          obtain ⟨k, e1, e2⟩ := Option.map_eq_some_iff.mp (show (keysOf d).map _ = some o from e)
          subst e2
          obtain ⟨b, rfl, hb, _⟩ := keysOf_at ry e1
          refine ⟨a, _, rfl, DGet.t h2 hb, ?_⟩
          rcases val_pair k rp with ⟨z1, z2⟩ | ⟨v, x, z1, z2, z3⟩
          · rw [z1, z2]; exact .none
          · rw [z1, z2]; exact .some z3
  | _ => cases e
theorem dget_not {p : PV} {d : PyData} {o : Option PV} (e : dgetv h p d = some o) : ∃ n, p = .ref n ∧ ∀ xs, h[n]? ≠ some (.lst xs) := by
  cases p with
  | ref n =>
    refine ⟨n, rfl, fun xs z => ?_⟩
    have e : (match h[n]? with
      | some o => dgetO o d
      | none => none) = some o := e
    rw [z] at e; cases e
  | _ => cases e
end
theorem isIn_sound (hu : X.A.units + 64 < cLine) (neg : Bool) : OpR X (compareOp (if neg = true then .NotIn else .In)) (Iw.r2 X fun p q h => R.of ((isIn h p q).map fun b => Iw.bool (if neg = true then !b else b)) h) := by
  intro pins s σ H x y v u Q I rx ry h
  obtain ⟨E, m, hh, p, q, rh, ra, rb, hs⟩ := h
  cases e : isIn hh p q with
  | none => dsimp only at hs; rw [e] at hs; exact hs.elim
  | some b =>
    dsimp only at hs
    rw [e] at hs
    cases p with
    | d px =>
      have e : (match dgetv hh q px with
        | some o => some o.isSome
        | none => isIn1 hh (.d px) q) = some b := e
      cases eg : dgetv hh q px with
      | some o =>
        rw [eg] at e
        have e : some o.isSome = some b := e
        cases e
        obtain ⟨a, ov, rfl, g, ro⟩ := dget_at rh rb (rv_d ra) eg
        cases ry
        have fin := now rh hs (.d (.bl _))
        rw [← ro.isSome] at fin
        cases neg with
        | true => exact d_notIn (show X.A.units + 1 < cLine by omega) I g rx fun s' I' => ⟨.bl _, H, I', rfl, fin⟩
        | false => exact d_in (show X.A.units + 1 < cLine by omega) I g rx fun s' I' => ⟨.bl _, H, I', rfl, fin⟩
      | none =>
      rw [eg] at e
      have e : isIn1 hh (.d px) q = some b := e
      unfold isIn1 at e
      cases ev : view hh q with
      | none => rw [ev] at e; cases e
      | some yd =>
        rw [ev] at e
        obtain ⟨as, r1⟩ := view_reads I rh rb ev ry
        obtain ⟨bs, r2⟩ := Rp.reads I (rv_d ra) rx
        cases yd with
        | list ys =>
          dsimp only at e
          split at e
          · rename_i hc
            simp only [Bool.and_eq_true, decide_eq_true_eq] at hc
            cases e
            have room : X.A.units + 1 + min (PyData.depthAll ys) px.depth < cLine := deep_ok1 hu (Nat.le_trans (Nat.min_le_right _ _) hc.2.2)
            have fin := now rh hs (.d (.bl _))
            cases neg with
            | true => exact PySem.SeqAt.notIn_list_data r1 r2 hc.2.1 hc.1 room ⟨.bl _, H, I, rfl, fin⟩
            | false => exact PySem.SeqAt.in_list_data r1 r2 hc.2.1 hc.1 room ⟨.bl _, H, I, rfl, fin⟩
          · cases e
        | tuple ys =>
          dsimp only at e
          split at e
          · rename_i hc
            simp only [Bool.and_eq_true, decide_eq_true_eq] at hc
            cases e
            have room : X.A.units + 1 + min (PyData.depthAll ys) px.depth < cLine := deep_ok1 hu (Nat.le_trans (Nat.min_le_right _ _) hc.2.2)
            have fin := now rh hs (.d (.bl _))
            cases neg with
            | true => exact PySem.SeqAt.notIn_tuple_data r1 r2 hc.2.1 hc.1 room ⟨.bl _, H, I, rfl, fin⟩
            | false => exact PySem.SeqAt.in_tuple_data r1 r2 hc.2.1 hc.1 room ⟨.bl _, H, I, rfl, fin⟩
          · cases e
        | _ => cases e
    | _ => unfold isIn at e; cases e
end
end Iw
end

section
set_option Elab.async false
set_option linter.all false
set_option maxRecDepth 100000
namespace Iw
open PySem PySem.Spec PyProof.Rows L2
section
variable {X : Cx}
theorem op_cmp_iw (hu : X.A.units + 64 < cLine) (o : CO) : OpR X (compareOp o.op) (Iw.r2 X fun p q h => R.of ((cmpop o p q h).map Iw.bool) h) := by
  by_cases ho : o = .isin ∨ o = .nin
  · rcases ho with rfl | rfl
    · intro pins s σ H x y v u Q I rx ry ⟨E, m, hh, p, q, rh, ra, rb, hs⟩
      refine isIn_sound (X := X) hu false pins s σ H x y v u Q I rx ry ⟨E, m, hh, p, q, rh, ra, rb, ?_⟩
      exact hs
    · intro pins s σ H x y v u Q I rx ry ⟨E, m, hh, p, q, rh, ra, rb, hs⟩
      refine isIn_sound (X := X) hu true pins s σ H x y v u Q I rx ry ⟨E, m, hh, p, q, rh, ra, rb, ?_⟩
      have e : (cmpop .nin p q hh).map Iw.bool = (isIn hh p q).map fun b => Iw.bool (if true = true then !b else b) := by
        show ((isIn hh p q).map _).map _ = _
        cases isIn hh p q <;> rfl
      dsimp only at hs
      rw [e] at hs
      exact hs
  · intro pins s σ H x y v u Q I rx ry ⟨E, m, hh, p, q, rh, ra, rb, hs⟩
    dsimp only at hs
    cases ea : view hh p with
    | none => cases o <;> first | exact absurd (Or.inl rfl) ho | exact absurd (Or.inr rfl) ho | (simp only [cmpop, ea] at hs; exact hs.elim)
    | some dx =>
      cases eb : view hh q with
      | none => cases o <;> first | exact absurd (Or.inl rfl) ho | exact absurd (Or.inr rfl) ho | (simp only [cmpop, ea, eb] at hs; exact hs.elim)
      | some dy =>
        obtain ⟨as, r1⟩ := view_reads I rh ra ea rx
        obtain ⟨bs, r2⟩ := view_reads I rh rb eb ry
        have eqc : ∀ b : Bool, satG X.mg X.K E m H (RV X.K) (R.of ((if eqOk dx dy = true then some b else none).map Iw.bool) hh) Q → (dx.plain = true ∧ dy.plain = true ∧ X.A.units + min dx.depth dy.depth < cLine) ∧ Q (.bl b) H := fun b hb => by
          by_cases c : eqOk dx dy = true
          · rw [if_pos c] at hb
            have c2 := c
            unfold eqOk at c2
            simp only [Bool.and_eq_true, decide_eq_true_eq] at c2
            exact ⟨⟨c2.1, c2.2.1, deep_ok hu c2.2.2⟩, now rh hb (.d (.bl _))⟩
          · rw [if_neg c] at hb
            exact hb.elim
        have ltc : ∀ b : Bool, satG X.mg X.K E m H (RV X.K) (R.of ((if ltOk dx dy = true then some b else none).map Iw.bool) hh) Q → (PySem.W.alike dx dy = true ∧ dx ≠ .none ∧ X.A.units + min dx.depth dy.depth < cLine) ∧ Q (.bl b) H := fun b hb => by
          by_cases c : ltOk dx dy = true
          · rw [if_pos c] at hb
            obtain ⟨c1, c2, c3⟩ := ltOk_of c
            exact ⟨⟨c1, c2, deep_ok hu c3⟩, now rh hb (.d (.bl _))⟩
          · rw [if_neg c] at hb
            exact hb.elim
        cases o with
        | eq =>
          simp only [cmpop, ea, eb] at hs
          obtain ⟨⟨h1, h2, h3⟩, q⟩ := eqc _ hs
          exact PySem.SeqAt.eq_plain r1 r2 h1 h2 h3 ⟨.bl _, H, I, rfl, q⟩
        | ne =>
          simp only [cmpop, ea, eb] at hs
          obtain ⟨⟨h1, h2, h3⟩, q⟩ := eqc _ hs
          exact PySem.SeqAt.ne_plain r1 r2 h1 h2 h3 ⟨.bl _, H, I, rfl, q⟩
        | lt =>
          simp only [cmpop, ea, eb] at hs
          obtain ⟨⟨h1, h2, h3⟩, q⟩ := ltc _ hs
          exact PySem.W.lt_data r1 r2 h1 h2 h3 ⟨.bl _, H, I, rfl, q⟩
        | gt =>
          simp only [cmpop, ea, eb] at hs
          obtain ⟨⟨h1, h2, h3⟩, q⟩ := ltc _ hs
          exact PySem.W.gt_data r1 r2 h1 h2 h3 ⟨.bl _, H, I, rfl, q⟩
        | le =>
          simp only [cmpop, ea, eb] at hs
          obtain ⟨⟨h1, h2, h3⟩, q⟩ := ltc _ hs
          exact PySem.W.le_data r1 r2 h1 h2 h3 ⟨.bl _, H, I, rfl, q⟩
        | ge =>
          simp only [cmpop, ea, eb] at hs
          obtain ⟨⟨h1, h2, h3⟩, q⟩ := ltc _ hs
          exact PySem.W.ge_data r1 r2 h1 h2 h3 ⟨.bl _, H, I, rfl, q⟩
        | isin => exact absurd (Or.inl rfl) ho
        | nin => exact absurd (Or.inr rfl) ho
/-! ### truth -/
theorem isEmptyP {K : PySem.W.Frag} {m : Mp} {H : Hp} {vs : List V} {xs : List PV} (r : RVs K m H vs xs) : (!xs.isEmpty) = !vs.isEmpty := by
  cases r <;> rfl
theorem isEmptyR {m : Mp} {H : Hp} {vs : List V} {xs : List PyData} (r : RpA m H vs xs) : (!xs.isEmpty) = !vs.isEmpty := by
  cases r <;> rfl
theorem tru_iw {K : PySem.W.Frag} {m : Mp} {H : Hp} {h : Hs} {v : V} {p : PV} {b : Bool} (rh : RH K m h H) (r : RV K m H v p) (e : tru h p = some b) : TruV K v H b := by
  cases p with
  | d x =>
    cases x with
    | none => cases rv_none r; cases e; rfl
    | bool c => cases rv_bool r; cases e; rfl
    | int i => cases rv_int r; cases e; rfl
    | str x =>
      cases rv_str r
      unfold tru at e
      dsimp only at e
      split at e
      · rename_i hl
        cases e
        exact ⟨by rw [← line_eq]; exact hl, by
          cases hx : x.length with
          | zero => rfl
          | succ n => simp; omega⟩
      · cases e
    | list ds =>
      obtain ⟨a, vs, rfl, ha, _, qa⟩ := rv_lst r
      cases e
      exact .inl ⟨vs, SqL.of ha, isEmptyR qa⟩
    | tuple ds =>
      obtain ⟨a, vs, rfl, ha, _, qa⟩ := rv_tup r
      cases e
      exact .inr (.inl ⟨vs, SqT.of ha, isEmptyR qa⟩)
    | dict _ => cases e
  | ref n =>
    unfold tru at e
    dsimp only at e
    split at e
    · rename_i xs e0
      cases e
      obtain ⟨a, vs, rfl, _, ha, qa⟩ := rv_ref rh r e0
      exact .inl ⟨vs, SqL.of ha, isEmptyP qa⟩
    · cases e
  | scr _ => cases e
/-! ### items and slices -/
theorem atI_pair {α β : Type} {F : α → β → Prop} {xs : List α} {ys : List β} {i : Int} {y : β} (r : Paired F xs ys) (e : atI ys i = some y) : ∃ x, atI xs i = some x ∧ F x y := by
  unfold atI at e ⊢
  rw [Paired.length r]
  cases e1 : ixN ys.length i with
  | none => rw [e1] at e; cases e
  | some j =>
    rw [e1] at e
    exact PairedGet r e
theorem RpA.paired {m : Mp} {H : Hp} : ∀ {vs : List V} {ds : List PyData}, RpA m H vs ds → Paired (Rp m H) vs ds
  | _, _, .nil => .nil
  | _, _, .cons r t => .cons r (RpA.paired t)
theorem RpA.of_paired {m : Mp} {H : Hp} : ∀ {vs : List V} {ds : List PyData}, Paired (Rp m H) vs ds → RpA m H vs ds
  | _, _, .nil => .nil
  | _, _, .cons r t => .cons r (RpA.of_paired t)
theorem ints_paired {K : PySem.W.Frag} {m : Mp} {H : Hp} : ∀ ns : List Int, Paired (RV K m H) (ns.map V.int) (ns.map Iw.int)
  | [] => .nil
  | n :: ns => .cons (.d (.int n)) (ints_paired ns)
theorem atI_map {α β : Type} (f : α → β) (xs : List α) (i : Int) : atI (xs.map f) i = (atI xs i).map f := by
  unfold atI
  rw [List.length_map]
  cases ixN xs.length i <;> simp
theorem ix_dict (hu : X.A.units + 64 < cLine) : IxR X (fun x y H Q => ∃ a v, x = .ref a ∧ DGet H a y (some v) ∧ Q v H) := by
  intro value slice pins s σ H x y v u Q I rx ry h hs
  obtain ⟨a, w, rfl, g, q⟩ := h
  cases rx
  have hT := dict_typeIs I g
  unfold subscriptTail
  refine wpAny_bind ?_
  rw [getitemInPython_of_ne hT.not_modules]
  refine wpAny_bind (wpAny_specialOf hT PySem.F.slot_dict_getitem.lookup ?_)
  have fin : wpAny (model X.prog X.w) X.A (subscripted slice false (.ref a) u) (fun r s₃ => wpAny (model X.prog X.w) X.A (letTemporaryGo value (.ref a) r >>= fun _ => pure r) (EP X pins σ Q) X.xe s₃) X.xe s := by
    rw [hs]
    refine wpAny_operating (d_getItem (show X.A.units + 1 < cLine by omega) I g ry fun w' s3 I3 rw' => wpAny_bind (wpAny_letTemporaryGo (wpAny_pure ⟨w, H, I3, rw', q⟩)))
  first
    | exact wpAny_pure (wpAny_bind fin)
    | exact wpAny_bind (wpAny_pure (wpAny_bind fin))
    | exact wpAny_bind fin
theorem ix_iw1 : IxR X (Iw.r2 X fun x y h => ixv1 x y h) := by
  intro ex ey pins s σ H x y v u Q I rx ry ⟨E, m, hh, p, q, rh, ra, rb, hs⟩ hsub
  cases q with
  | d dy =>
    cases dy with
    | int j =>
      cases rv_int rb
      have hs : satG X.mg X.K E m H (RV X.K) (R.of (getIx hh p j) hh) Q := hs
      cases e : getIx hh p j with
      | none => rw [e] at hs; exact hs.elim
      | some z =>
        rw [e] at hs
        have lists : ∀ xs, getL hh p = some xs → atI xs j = some z → wpAny (model X.prog X.w) X.A (subscriptTail ex ey v u) (EP X pins σ Q) X.xe s := fun xs e1 e2 => by
          obtain ⟨a, vs, rfl, ha, qa⟩ := getL_at rh ra e1
          obtain ⟨w, e3, rz⟩ := atI_pair qa e2
          exact ix_list ex ey pins s σ H _ _ v u Q I rx ry ⟨a, vs, j, w, rfl, rfl, SqL.of ha, e3, now rh hs rz⟩ hsub
        cases p with
        | d dx =>
          cases dx with
          | tuple ds =>
            obtain ⟨a, vs, rfl, ha, na, qa⟩ := rv_tup ra
            obtain ⟨dz, e1, rfl⟩ := Option.map_eq_some_iff.mp (show (atI ds j).map PV.d = some z from e)
            obtain ⟨w, e3, rz⟩ := atI_pair qa.paired e1
            exact ix_tup ex ey pins s σ H _ _ v u Q I rx ry ⟨a, vs, j, w, rfl, rfl, SqT.of ha, e3, now rh hs (.d rz)⟩ hsub
          | str z0 =>
            cases rv_str ra
            have e : (if z0.length ≤ line then (atI z0.cps.toList j).map fun c => PV.d (.str ⟨#[c]⟩) else none) = some z := e
            by_cases hl : z0.length ≤ line
            · rw [if_pos hl] at e
              obtain ⟨c, e1, rfl⟩ := Option.map_eq_some_iff.mp e
              exact ix_str ex ey pins s σ H _ _ v u Q I rx ry ⟨z0, j, c, rfl, rfl, by rw [← line_eq]; exact hl, e1, now rh hs (.d (.str _))⟩ hsub
            · rw [if_neg hl] at e; cases e
          | list ds =>
            obtain ⟨xs, e1, e2⟩ := Option.bind_eq_some_iff.mp (show (getL hh (.d (.list ds))).bind (fun xs => atI xs j) = some z from e)
            exact lists xs e1 e2
          | _ => cases (show (none : Option PV) = some z from e)
        | ref n =>
          obtain ⟨xs, e1, e2⟩ := Option.bind_eq_some_iff.mp (show (getL hh (.ref n)).bind (fun xs => atI xs j) = some z from e)
          exact lists xs e1 e2
        | scr ns =>
          cases ra with
          | scr sc =>
            obtain ⟨i, e1, rfl⟩ := Option.map_eq_some_iff.mp (show (atI ns j).map Iw.int = some z from e)
            exact ix_list ex ey pins s σ H _ _ v u Q I rx ry ⟨_, _, j, .int i, rfl, rfl, sc.sq, by rw [atI_map, e1]; rfl, now rh hs (.d (.int _))⟩ hsub
    | _ => exact hs.elim
  | _ => exact hs.elim
theorem ix_iw (hu : X.A.units + 64 < cLine) : IxR X (Iw.r2 X fun x y h => ixv x y h) := by
  intro ex ey pins s σ H x y v u Q I rx ry ⟨E, m, hh, p, q, rh, ra, rb, hs⟩ hsub
  cases q with
  | d dy =>
    have hs : satG X.mg X.K E m H (RV X.K) (match dgetv hh p dy with
      | some o => R.of o hh
      | none => ixv1 p (.d dy) hh) Q := hs
    cases e : dgetv hh p dy with
    | none =>
      rw [e] at hs
      exact ix_iw1 ex ey pins s σ H x y v u Q I rx ry ⟨E, m, hh, p, _, rh, ra, rb, hs⟩ hsub
    | some o =>
      rw [e] at hs
      obtain ⟨a, ov, rfl, g, ro⟩ := dget_at rh ra (rv_d rb) e
      cases ro with
      | none => exact hs.elim
      | some r => exact ix_dict hu ex ey pins s σ H _ y v u Q I rx ry ⟨a, _, rfl, g, now rh hs r⟩ hsub
  | _ => exact hs.elim
def rsl (X : Cx) : V → Option Int → Option Int → Hp → VK → Prop := fun x lo hi H Q => ∃ (E : Value → Hp → Prop) (m : Mp) (h : Hs) (p : PV), RH X.K m h H ∧ RV X.K m H x p ∧ satG X.mg X.K E m H (RV X.K) (slice p lo hi h) Q
theorem cutV_eq (xs : List V) (lo hi : Option Int) : cutV xs lo hi = cut xs lo hi := rfl
theorem cut_pair {α β : Type} {F : α → β → Prop} {xs : List α} {ys : List β} {lo hi : Option Int} (r : Paired F xs ys) : Paired F (cut xs lo hi) (cut ys lo hi) := by
  unfold cut
  rw [Paired.length r]
  exact PairedTake _ (PairedDrop _ r)
theorem cut_whole {α : Type} {xs : List α} {lo hi : Option Int} (h : HT.sIx xs.length 0 lo = 0 ∧ HT.sIx xs.length xs.length hi = xs.length) : cut xs lo hi = xs := by
  unfold cut
  rw [h.1, h.2]; simp
theorem sl_iw : SlR X (rsl X) := by
  intro pins s σ H x v vl vu lo hi sl Q I rx hsl pl pu ⟨E, m, hh, p, rh, ra, hs⟩
  have lists : ∀ xs, getL hh p = some xs → satG X.mg X.K E m H (RV X.K) (mkL false (cut xs lo hi) hh) Q → ∃ T id, typeLookup (.type T) "__getitem__" = pure (some (.builtin id)) ∧ s.TypeIs v T ∧ wpAny (model X.prog X.w) X.A (getItem v (.ref sl)) (EP X pins σ Q) X.xe s := fun xs e1 hs => by
    obtain ⟨a, vs, rfl, ha, qa⟩ := getL_at rh ra e1
    exact sl_list pins s σ H _ v vl vu lo hi sl Q I rx hsl pl pu ⟨a, vs, rfl, SqL.of ha, fun p hp => newMk rh hs (cut_pair qa) hp⟩
  cases p with
  | d dx =>
    cases dx with
    | tuple ds =>
      obtain ⟨a, vs, rfl, ha, na, qa⟩ := rv_tup ra
      have hs : satG X.mg X.K E m H (RV X.K) (.ok (.d (.tuple (cut ds lo hi))) hh) Q := hs
      refine sl_tupA pins s σ H _ v vl vu lo hi sl Q I rx hsl pl pu ⟨a, vs, rfl, SqT.of ha, fun hw => ?_, fun _ p hp => newTup rh hs (RpA.of_paired (cut_pair qa.paired)) hp⟩
      rw [qa.length] at hw
      rw [cut_whole hw] at hs
      exact now rh hs (.d (.tup ha na qa))
    | str z =>
      cases rv_str ra
      obtain ⟨hl, hs⟩ := satG_if (show satG X.mg X.K E m H (RV X.K) (if z.length ≤ line then .ok (.d (.str ⟨(cut z.cps.toList lo hi).toArray⟩)) hh else .bad) Q from hs)
      have e : cutS z lo hi = ⟨(cut z.cps.toList lo hi).toArray⟩ := by
        unfold cutS cut
        rw [Array.length_toList] <;> rfl
      exact sl_str pins s σ H _ v vl vu lo hi sl Q I rx hsl pl pu ⟨z, rfl, by rw [← line_eq]; exact hl, by rw [e]; exact now rh hs (.d (.str _))⟩
    | list ds => exact lists _ rfl hs
    | _ => exact hs.elim
  | ref n =>
    have hs : satG X.mg X.K E m H (RV X.K) (match getL hh (.ref n) with
      | some xs => mkL false (cut xs lo hi) hh
      | none => .bad) Q := hs
    cases e : getL hh (.ref n) with
    | none => rw [e] at hs; exact hs.elim
    | some xs => rw [e] at hs; exact lists xs e hs
  | scr ns => exact hs.elim
end
end Iw
end

section
set_option Elab.async false
set_option linter.all false
set_option maxRecDepth 100000
/-! sorted(list), sorted(tuple), sorted(dict with tuple keys), by data -/
namespace Iw
open PySem PySem.Spec PyProof.Rows L2 PySem.W PySem.Calls
section
variable {X : Cx} {pins : List (Addr × Obj)} {σ : Sv} {H : Hp} {s : Shared} {m : Mp} {h : Hs} {Q : VK}
abbrev sR (m : Mp) (H : Hp) : Value → V × PyData → Prop := fun w b => RelV b.1 w ∧ Rp m H b.1 b.2
theorem each_of : ∀ {vs : List V} {ds : List PyData} {us : List Value}, Vals vs us → RpA m H vs ds → EachIs (sR m H) us (vs.zip ds)
  | _, _, _, .nil, .nil => .nil
  | _, _, _, .cons r t, .cons q u => .cons ⟨r, q⟩ (each_of t u)
theorem zip_snd : ∀ {vs : List V} {ds : List PyData}, RpA m H vs ds → (vs.zip ds).map Prod.snd = ds
  | _, _, .nil => rfl
  | _, _, .cons _ t => congrArg (_ :: ·) (zip_snd t)
theorem of_each : ∀ {B : List (V × PyData)} {us : List Value}, EachIs (sR m H) us B → Vals (B.map Prod.fst) us ∧ RpA m H (B.map Prod.fst) (B.map Prod.snd)
  | _, _, .nil => ⟨.nil, .nil⟩
  | _, _, .cons r t => ⟨.cons r.1 (of_each t).1, .cons r.2 (of_each t).2⟩
theorem srt_map (bs : List (V × PyData)) : (bs.mergeSort (dataLe false Prod.snd)).map Prod.snd = srtD (bs.map Prod.snd) := by
  unfold srtD
  exact List.map_mergeSort fun a _ b _ => rfl
theorem srtOk_of {ds : List PyData} (e : srtOk ds = true) : AllAlike ds ∧ Sortable ds ∧ ds.length ≤ sizeLine ∧ ∀ d ∈ ds, d.depth ≤ deep := by
  unfold srtOk at e
  simp only [Bool.and_eq_true, decide_eq_true_eq, List.all_eq_true] at e
  obtain ⟨e1, e2, e3, e4⟩ := e
  refine ⟨e1, ?_, by rw [← line_eq]; exact e3, e4⟩
  unfold sortable at e2
  simp only [Bool.or_eq_true, List.all_eq_true] at e2
  rcases e2 with e2 | e2
  · refine .inl fun d hd => ?_
    have := e2 d hd
    cases d with
    | tuple xs =>
      cases xs with
      | nil => exact absurd this (by simp)
      | cons x r => exact ⟨x, r, rfl⟩
    | _ => exact absurd this (by simp)
  · refine .inr fun d hd => ?_
    have := e2 d hd
    cases d with
    | tuple xs => exact absurd this (by simp)
    | none => exact absurd this (by simp)
    | _ => exact ⟨by simp, fun xs => by simp⟩
theorem each_reads (I : Inv X pins σ H s) : ∀ {us : List Value} {B : List (V × PyData)}, EachIs (sR m H) us B → EachIs (fun v b => ∃ as, Reads s.heap v b.2 as) us B
  | _, _, .nil => .nil
  | _, _, .cons r t => .cons (Rp.reads I r.2 r.1) (each_reads I t)
theorem srt_done (I : Inv X pins σ H s) {B : List (V × PyData)} {ds : List PyData} {out : List Value} {h' : Heap} {tk c : Nat} {p : Addr} (eb : B.map Prod.snd = ds) (hl : ds.length ≤ sizeLine) (ho : out.length = B.length) (eo : EachIs (sR m H) out (B.mergeSort (dataLe false Prod.snd)))
    (hp : s.heap.objs.size ≤ p) (hk : ∀ b o, s.heap.get? b = some o → h'.get? b = some o) (hg : h'.get? p = some { cls := .type "list", data := .seq out.toArray c })
    (fin : ∀ p vs', H p = none → RpA m H vs' (srtD ds) → Q (.ref p) (upd H p (.lst vs'))) : EP X pins σ Q (.ref p) { s with heap := h', toks := tk } := by
  obtain ⟨q1, q2⟩ := of_each eo
  rw [srt_map, eb] at q2
  have hn := I.hok.fresh hp
  refine ⟨.ref p, _, I.laid hk hp (show ObjOk X.prog X.w _ _ _ (.lst ((B.mergeSort (dataLe false Prod.snd)).map Prod.fst)) from ⟨?_, out, c, q1, hg⟩), rfl, fin p _ hn q2⟩
  rw [List.length_map, List.length_mergeSort, ← List.length_map (f := Prod.snd), eb]
  exact hl
theorem srt_list (hu : X.A.units + 64 < cLine) (I : Inv X pins σ H s) {a : Addr} {vs : List V} {ds : List PyData} (ha : H a = some (.lst vs)) (ra : RpA m H vs ds) (ok : srtOk ds = true)
    (fin : ∀ p vs', H p = none → RpA m H vs' (srtD ds) → Q (.ref p) (upd H p (.lst vs'))) : wpAny (model X.prog X.w) X.A (call (.builtin "sorted") [.ref a]) (EP X pins σ Q) X.xe s := by
  obtain ⟨hal, hso, hl, hd⟩ := srtOk_of ok
  obtain ⟨its, rv, p, hz⟩ := I.list (SqL.of ha)
  have e := each_of rv ra
  have eb := zip_snd ra
  refine sorted_data (enc := Prod.snd) (R := sR m H) (bs := vs.zip ds) p.isList e (each_reads I e) (by rw [eb]; exact hal) (by rw [eb]; exact hso) (by rw [← List.length_map (f := Prod.snd), eb]; exact hl) (fun b hb => ?_) fun out ho eo => ?_
  · have := hd b.2 (by rw [← eb]; exact List.mem_map.mpr ⟨b, hb, rfl⟩)
    have : deep = 60 := rfl
    omega
  · obtain ⟨c, hc⟩ := sortedAll_at s.heap its out.toArray
    exact srt_done (tk := s.toks) I eb hl ho eo (Nat.le_succ _) (fun _ _ => sortedAll_old) hc fin
theorem keysRp {h : Hs} (rh : RH X.K m h H) : ∀ {kvs : List (List Key × V)} {bs : List Addr}, IsKeys H kvs bs → RpA m H (bs.map V.ref) (kvs.map fun kv => .tuple (kv.1.map keyD))
  | _, _, .nil => .nil
  | (ks, _) :: _, _, .cons r t => by
    refine .cons (.tup r (rh.tup r) ?_) (keysRp rh t)
    have go : ∀ ks : List Key, RpA m H (ks.map kV) (ks.map keyD) := fun ks => by
      induction ks with
      | nil => exact .nil
      | cons k ks ih =>
        refine .cons ?_ ih
        cases k with
        | inl i => exact .int i
        | inr x => exact .str x
    exact go ks
theorem srt_dict (hc : X.calm = true) (hu : X.A.units + 64 < cLine) (I : Inv X pins σ H s) {h : Hs} (rh : RH X.K m h H) {d : Addr} {kvs : List (List Key × V)} (ha : H d = some (.dT kvs)) (ok : srtOk (kvs.map fun kv => .tuple (kv.1.map keyD)) = true)
    (fin : ∀ p vs', H p = none → RpA m H vs' (srtD (kvs.map fun kv => .tuple (kv.1.map keyD))) → Q (.ref p) (upd H p (.lst vs'))) : wpAny (model X.prog X.w) X.A (call (.builtin "sorted") [.ref d]) (EP X pins σ Q) X.xe s := by
  obtain ⟨hal, hso, hl, hd⟩ := srtOk_of ok
  obtain ⟨z, lo, xs, rel, o, es, ep, ho, hx, hdat, hes, hnd⟩ := dt_of I.hok ha
  have hn : es.size = kvs.length := by
    rw [← Array.length_toList, hes, List.length_map, Paired.length rel]
  have iks := isKeys_of rel
  refine call_function_entry kind_sorted plain_sorted entry_sorted (args_sorted1 _) ?_
  unfold Builtin.«sorted»
  refine wpAny_bind (m := checkCount "sorted" 1 1 _) (wpAny_pure ?_)
  refine wpAny_bind (kdu_collect (A := X.A.in1) (kdl_raw (prog := X.prog) (w := X.w) lo hx hdat) (I.ok.hd hc) ho (by rw [hn]; exact z) fun h' tk acc hk hacc => ?_)
  have hal' : acc.toList.length = es.size := by rw [Array.length_toList]; exact hacc.1
  refine wpAny_bind (wpAny_newList ?_ (by rw [hal', hn]; exact z))
  have I1 : Inv X pins σ H { s with heap := h', toks := tk } := I.kept hk
  have rv : Vals ((xs.map fun x => x.2.1).map V.ref) acc.toList := by
    refine vals_of_at (by rw [List.length_map, List.length_map, hal', hn, Paired.length rel]) fun j x w h1 h2 => ?_
    obtain ⟨en, he1, he2⟩ := hacc.2 j w (by rw [← Array.getElem?_toList]; exact h2)
    rw [List.map_map, List.getElem?_map] at h1
    obtain ⟨q, hq, rfl⟩ := Option.map_eq_some_iff.mp h1
    rw [← Array.getElem?_toList, hes, List.getElem?_map, hq] at he1
    have he1 := Option.some.inj he1
    subst he2
    rw [← he1]
    rfl
  have e := each_of rv (keysRp rh iks)
  have eb := zip_snd (keysRp rh iks)
  have er := each_reads I1 e
  generalize hB : ((xs.map fun x => x.2.1).map V.ref).zip (kvs.map fun kv => PyData.tuple (kv.1.map keyD)) = B at e eb er
  have ho2 : (h'.push { cls := .type "list", data := .seq acc.toList.toArray }).get? h'.objs.size = some (seqObj "list" acc.toList.toArray 0) := Heap.get?_push_size _ rfl
  have er' : EachIs (fun v b => ∃ as, Reads (sortingHeap (h'.push { cls := .type "list", data := .seq acc.toList.toArray }) h'.objs.size acc.toList) v b.2 as) acc.toList B :=
    er.mono fun _ _ ⟨as, r⟩ => ⟨as, PyProof.Rows.Reads.keeps (fun b o q => sortingHeap_old (Nat.ne_of_lt (Heap.lt_size q)) (Heap.get?_push_of_some _ q)) r⟩
  have hlen : acc.toList.length = B.length := e.length
  refine wpAny_bind (wpAny_holding (wpAny_call_entry slot_list_sort ⟨_, ho2, rfl⟩ entry_list_sort (list_sort_vals (s := { s with heap := h'.push { cls := .type "list", data := .seq acc.toList.toArray }, toks := tk }) (κ := dataKind (sortingHeap (h'.push { cls := .type "list", data := .seq acc.toList.toArray }) h'.objs.size acc.toList) (B.map Prod.snd)) ho2
    (SortsAt.data (s := { s with heap := sortingHeap (h'.push { cls := .type "list", data := .seq acc.toList.toArray }) h'.objs.size acc.toList, toks := tk }) (each_map (R := fun v d => ∃ as, Reads (sortingHeap (h'.push { cls := .type "list", data := .seq acc.toList.toArray }) h'.objs.size acc.toList) v d as) Prod.snd er') (by rw [eb]; exact hal) (by rw [eb]; exact hso) (bound_map fun b hb => ?_)) (by rw [hal', hn]; exact z) ⟨.none, rfl, ?_⟩) (args_list_sort _)))
  · have := hd b.2 (by rw [← eb]; exact List.mem_map.mpr ⟨b, hb, rfl⟩)
    have : deep = 60 := rfl
    show X.A.units + 1 + 1 + b.snd.depth < cLine
    omega
  · refine wpAny_pure ⟨_, rfl, ?_⟩
    have eo := sortVals_data false e er' (by rw [eb]; exact hal)
    generalize hout : sortVals (dataKind (sortingHeap (h'.push { cls := .type "list", data := .seq acc.toList.toArray }) h'.objs.size acc.toList) (B.map Prod.snd)) false acc.toList acc.toList = out at eo
    have ho3 : out.length = B.length := by rw [← hout, sortVals_length false rfl]; exact hlen
    obtain ⟨c, hcc⟩ := sortedHeap_at (out := out.toArray) ho2
    exact srt_done (tk := tk) I1 eb hl ho3 eo (Nat.le_refl _) (fun b o q => (sortedHeap_old (Nat.ne_of_lt (Heap.lt_size q)) (by rw [Heap.size_push]; exact Nat.lt_succ_of_lt (Heap.lt_size q))).trans (Heap.get?_push_of_some _ q)) hcc fin
theorem srt_dictK (hc : X.calm = true) (hu : X.A.units + 64 < cLine) (I : Inv X pins σ H s) {d : Addr} {kvs : List (Key × V)} (ha : H d = some (.dK kvs)) (ok : srtOk (kvs.map fun kv => keyD kv.1) = true)
    (fin : ∀ p vs', H p = none → RpA m H vs' (srtD (kvs.map fun kv => keyD kv.1)) → Q (.ref p) (upd H p (.lst vs'))) : wpAny (model X.prog X.w) X.A (call (.builtin "sorted") [.ref d]) (EP X pins σ Q) X.xe s := by
  obtain ⟨hal, hso, hl, hd⟩ := srtOk_of ok
  obtain ⟨z, lo, vs, rk, dd⟩ := dk_of I.hok ha
  obtain ⟨ep, hat⟩ := dd.dictAt
  have hkl : kvs.length = vs.length := Paired.length rk
  refine call_function_entry kind_sorted plain_sorted entry_sorted (args_sorted1 _) ?_
  unfold Builtin.«sorted»
  refine wpAny_bind (m := checkCount "sorted" 1 1 _) (wpAny_pure ?_)
  refine wpAny_bind (kdu_collect (A := X.A.in1) (PySem.W.kdl_dict (prog := X.prog) (w := X.w) (knd := mixKind X.prog X.w) (kvs := vs) (ep := ep) lo) (I.ok.hd hc) hat (by rw [← hkl]; exact z) fun h' tk acc hk hacc => ?_)
  have hal' : acc.toList.length = kvs.length := by rw [Array.length_toList, hacc.1, hkl]
  refine wpAny_bind (wpAny_newList ?_ (by rw [hal']; exact z))
  have I1 : Inv X pins σ H { s with heap := h', toks := tk } := I.kept hk
  have rv : Vals (kvs.map fun kv => kV kv.1) acc.toList := by
    refine vals_of_at (by rw [List.length_map, hal']) fun j x w h1 h2 => ?_
    obtain ⟨k, y, hky, hi⟩ := hacc.2 j w (by rw [← Array.getElem?_toList]; exact h2)
    have e1 : (kvs.map (·.1))[j]? = some k := by
      rw [KV.keys rk, List.getElem?_map, hky] <;> rfl
    have e2 : (kvs.map fun kv => kV kv.1)[j]? = some (kV k) := by
      have e3 : (kvs.map fun kv => kV kv.1) = (kvs.map (·.1)).map kV := by rw [List.map_map] <;> rfl
      rw [e3, List.getElem?_map, e1] <;> rfl
    rw [e2] at h1
    cases h1
    exact keyIs_rel hi
  have kr : RpA m H (kvs.map fun kv => kV kv.1) (kvs.map fun kv => keyD kv.1) := by
    clear ok fin hal hso hl hd rk hkl rv ha hal' z
    induction kvs with
    | nil => exact .nil
    | cons kv kvs ih =>
      refine .cons ?_ ih
      obtain ⟨k, _⟩ := kv
      cases k with
      | inl i => exact .int i
      | inr x => exact .str x
  have e := each_of rv kr
  have eb := zip_snd kr
  have er := each_reads I1 e
  generalize hB : (kvs.map fun kv => kV kv.1).zip (kvs.map fun kv => keyD kv.1) = B at e eb er
  have ho2 : (h'.push { cls := .type "list", data := .seq acc.toList.toArray }).get? h'.objs.size = some (seqObj "list" acc.toList.toArray 0) := Heap.get?_push_size _ rfl
  have er' : EachIs (fun v b => ∃ as, Reads (sortingHeap (h'.push { cls := .type "list", data := .seq acc.toList.toArray }) h'.objs.size acc.toList) v b.2 as) acc.toList B :=
    er.mono fun _ _ ⟨as, r⟩ => ⟨as, PyProof.Rows.Reads.keeps (fun b o q => sortingHeap_old (Nat.ne_of_lt (Heap.lt_size q)) (Heap.get?_push_of_some _ q)) r⟩
  have hlen : acc.toList.length = B.length := e.length
  refine wpAny_bind (wpAny_holding (wpAny_call_entry slot_list_sort ⟨_, ho2, rfl⟩ entry_list_sort (list_sort_vals (s := { s with heap := h'.push { cls := .type "list", data := .seq acc.toList.toArray }, toks := tk }) (κ := dataKind (sortingHeap (h'.push { cls := .type "list", data := .seq acc.toList.toArray }) h'.objs.size acc.toList) (B.map Prod.snd)) ho2
    (SortsAt.data (s := { s with heap := sortingHeap (h'.push { cls := .type "list", data := .seq acc.toList.toArray }) h'.objs.size acc.toList, toks := tk }) (each_map (R := fun v d => ∃ as, Reads (sortingHeap (h'.push { cls := .type "list", data := .seq acc.toList.toArray }) h'.objs.size acc.toList) v d as) Prod.snd er') (by rw [eb]; exact hal) (by rw [eb]; exact hso) (bound_map fun b hb => ?_)) (by rw [hal']; exact z) ⟨.none, rfl, ?_⟩) (args_list_sort _)))
  · have := hd b.2 (by rw [← eb]; exact List.mem_map.mpr ⟨b, hb, rfl⟩)
    have : deep = 60 := rfl
    show X.A.units + 1 + 1 + b.snd.depth < cLine
    omega
  · refine wpAny_pure ⟨_, rfl, ?_⟩
    have eo := sortVals_data false e er' (by rw [eb]; exact hal)
    generalize hout : sortVals (dataKind (sortingHeap (h'.push { cls := .type "list", data := .seq acc.toList.toArray }) h'.objs.size acc.toList) (B.map Prod.snd)) false acc.toList acc.toList = out at eo
    have ho3 : out.length = B.length := by rw [← hout, sortVals_length false rfl]; exact hlen
    obtain ⟨c, hcc⟩ := sortedHeap_at (out := out.toArray) ho2
    exact srt_done (tk := tk) I1 eb hl ho3 eo (Nat.le_refl _) (fun b o q => (sortedHeap_old (Nat.ne_of_lt (Heap.lt_size q)) (by rw [Heap.size_push]; exact Nat.lt_succ_of_lt (Heap.lt_size q))).trans (Heap.get?_push_of_some _ q)) hcc fin
end
end Iw
end

section
set_option Elab.async false
set_option linter.all false
set_option maxRecDepth 100000
namespace Iw
open PySem PySem.Spec PyProof.Rows L2
section
variable {X : Cx} {K : PySem.W.Frag} {mg : Str → Option Value} {E : Value → Hp → Prop} {m : Mp} {H : Hp} {h : Hs}
theorem bools_at : ∀ {xs : List PV} {vs : List V} {bs : List Bool}, RVs K m H vs xs → bools xs = some bs → vs = bs.map V.bl
  | [], _, _, r, e => by cases r; cases e; rfl
  | .d x :: xs, _, _, .cons r t, e => by
    cases x with
    | bool b =>
      have e : (bools xs).map (b :: ·) = some _ := e
      obtain ⟨bs', e1, rfl⟩ := Option.map_eq_some_iff.mp e
      cases rv_bool r
      rw [bools_at t e1]; rfl
    | _ => cases e
  | .ref _ :: _, _, _, .cons r t, e => by cases e
  | .scr _ :: _, _, _, .cons r t, e => by cases e
theorem intsOf_at : ∀ {xs : List PV} {vs : List V} {bs : List Int}, RVs K m H vs xs → intsOf xs = some bs → vs = bs.map V.int
  | [], _, _, r, e => by cases r; cases e; rfl
  | .d x :: xs, _, _, .cons r t, e => by
    cases x with
    | int b =>
      have e : (intsOf xs).map (b :: ·) = some _ := e
      obtain ⟨bs', e1, rfl⟩ := Option.map_eq_some_iff.mp e
      cases rv_int r
      rw [intsOf_at t e1]; rfl
    | _ => cases e
  | .ref _ :: _, _, _, .cons r t, e => by cases e
  | .scr _ :: _, _, _, .cons r t, e => by cases e
theorem rvs1 {vs : List V} {p : PV} (r : RVs K m H vs [p]) : ∃ v, vs = [v] ∧ RV K m H v p := by
  cases r with
  | cons r t => cases t; exact ⟨_, rfl, r⟩
theorem rvs2 {vs : List V} {p q : PV} (r : RVs K m H vs [p, q]) : ∃ v w, vs = [v, w] ∧ RV K m H v p ∧ RV K m H w q := by
  cases r with
  | cons r t =>
    obtain ⟨w, rfl, r2⟩ := rvs1 t
    exact ⟨_, _, rfl, r, r2⟩
theorem satG_of {α β : Type} {rel : Mp → Hp → β → α → Prop} {Q : β → Hp → Prop} {o : Option α} (hs : satG mg K E m H rel (R.of o h) Q) : ∃ a, o = some a ∧ satG mg K E m H rel (.ok a h) Q := by
  cases o with
  | none => exact hs.elim
  | some a => exact ⟨a, rfl, hs⟩
theorem leastI_spec : ∀ (xs : List Int) (x : Int), leastI x xs ∈ x :: xs ∧ ∀ y ∈ x :: xs, leastI x xs ≤ y
  | [], x => ⟨by simp [leastI], by simp [leastI]⟩
  | z :: xs, x => by
    obtain ⟨h1, h2⟩ := leastI_spec xs (min x z)
    show leastI (min x z) xs ∈ _ ∧ ∀ y ∈ _, leastI (min x z) xs ≤ y
    refine ⟨?_, fun y hy => ?_⟩
    · rcases List.mem_cons.mp h1 with e | e
      · rw [e]
        rcases Int.le_total x z with c | c
        · rw [Int.min_eq_left c]; simp
        · rw [Int.min_eq_right c]; simp
      · simp [e]
    · have b := h2 (min x z) (by simp)
      rcases List.mem_cons.mp hy with e | e
      · subst e; omega
      · rcases List.mem_cons.mp e with e | e
        · subst e; omega
        · exact h2 y (by simp [e])
theorem mostI_spec : ∀ (xs : List Int) (x : Int), mostI x xs ∈ x :: xs ∧ ∀ y ∈ x :: xs, y ≤ mostI x xs
  | [], x => ⟨by simp [mostI], by simp [mostI]⟩
  | z :: xs, x => by
    obtain ⟨h1, h2⟩ := mostI_spec xs (max x z)
    show mostI (max x z) xs ∈ _ ∧ ∀ y ∈ _, y ≤ mostI (max x z) xs
    refine ⟨?_, fun y hy => ?_⟩
    · rcases List.mem_cons.mp h1 with e | e
      · rw [e]
        rcases Int.le_total x z with c | c
        · rw [Int.max_eq_right c]; simp
        · rw [Int.max_eq_left c]; simp
      · simp [e]
    · have b := h2 (max x z) (by simp)
      rcases List.mem_cons.mp hy with e | e
      · subst e; omega
      · rcases List.mem_cons.mp e with e | e
        · subst e; omega
        · exact h2 y (by simp [e])
theorem uniq_least {xs : List Int} {a b : Int} (ha : a ∈ xs) (hb : b ∈ xs) (la : ∀ y ∈ xs, a ≤ y) (lb : ∀ y ∈ xs, b ≤ y) : a = b := Int.le_antisymm (la b hb) (lb a ha)
theorem uniq_most {xs : List Int} {a b : Int} (ha : a ∈ xs) (hb : b ∈ xs) (la : ∀ y ∈ xs, y ≤ a) (lb : ∀ y ∈ xs, y ≤ b) : a = b := Int.le_antisymm (lb a ha) (la b hb)
theorem len_iw {v : V} {p : PV} {n : Nat} (rh : RH K m h H) (r : RV K m H v p) (e : lenOf h p = some n) : LenV K v H n := by
  have lists : ∀ xs, getL h p = some xs → xs.length = n → LenV K v H n := fun xs e1 e2 => by
    obtain ⟨a, vs, rfl, ha, qa⟩ := getL_at rh r e1
    exact .inl ⟨vs, SqL.of ha, by rw [qa.len, e2]⟩
  cases p with
  | d x =>
    cases x with
    | str z =>
      cases rv_str r
      have e : (if z.length ≤ line then some z.length else none) = some n := e
      by_cases hl : z.length ≤ line
      · rw [if_pos hl] at e; cases e
        exact ⟨by rw [← line_eq]; exact hl, rfl⟩
      · rw [if_neg hl] at e; cases e
    | tuple ds =>
      obtain ⟨a, vs, rfl, ha, na, qa⟩ := rv_tup r
      cases e
      exact .inr ⟨vs, SqT.of ha, qa.length.symm⟩
    | list ds =>
      obtain ⟨xs, e1, e2⟩ := Option.map_eq_some_iff.mp (show (getL h (.d (.list ds))).map (·.length) = some n from e)
      exact lists xs e1 e2
    | _ => cases (show (none : Option Nat) = some n from e)
  | ref j =>
    obtain ⟨xs, e1, e2⟩ := Option.map_eq_some_iff.mp (show (getL h (.ref j)).map (·.length) = some n from e)
    exact lists xs e1 e2
  | scr ns =>
    cases r with
    | scr sc =>
      cases e
      exact .inl ⟨_, sc.sq, by simp⟩
/-- repr of data -/
theorem repr_data {prog : Program} {w : World} {A : Around} {E : Value → Shared → Prop} {s : Shared} {v : Value} {d : PyData} {as : List Addr} {Q : Value → Shared → Prop} (r : Reads s.heap v d as) (hs : d.showable = true) (hd : d.hasDict = false)
    (hg : A.guards = some []) (hu : A.units + (d.depth + 1) < cLine) (hz : d.shown.length ≤ sizeLine) (h : ∀ h' u tk, (∀ b o, s.heap.get? b = some o → h'.get? b = some o) → Q (.str d.shown u) { s with heap := h', toks := tk }) :
    wpAny (model prog w) A (call (.builtin "repr") [v]) Q E s := by
  have hsm := PyData.noDict_hsm (as := as) hd
  cases r with
  | none => exact PySem.P.repr_of_none (h s.heap _ _ fun _ _ e => e)
  | bool b => exact PySem.P.repr_of_bool (h s.heap _ _ fun _ _ e => e)
  | int i t => exact PySem.P.repr_of_int (of_decide_eq_true hs) (h s.heap _ _ fun _ _ e => e)
  | str x t => exact PySem.P.repr_of_str (h s.heap _ _ fun _ _ e => e) hz
  | list h1 h2 h3 h4 => exact repr_of_reads' (Reads.list h1 h2 h3 h4) hs hsm hg hu (fun _ _ e => e) h hz
  | tuple h1 h2 h3 h4 => exact repr_of_reads' (Reads.tuple h1 h2 h3 h4) hs hsm hg hu (fun _ _ e => e) h hz
  | dict h1 h2 h3 h4 h5 => cases hd
def Bi.val : Bi → Value
  | .all => .builtin "all"
  | .any => .builtin "any"
  | .len => .builtin "len"
  | .int1 => .type "int"
  | .bool1 => .type "bool"
  | .str1 => .type "str"
  | .repr => .builtin "repr"
  | .max2 => .builtin "max"
  | .min2 => .builtin "min"
  | .max1 => .builtin "max"
  | .min1 => .builtin "min"
  | .sum => .builtin "sum"
  | .tuple1 => .type "tuple"
  | .list1 _ => .type "list"
  | .srt1 _ => .builtin "sorted"
  | .dict1 => .type "dict"
theorem RpA.rvs' {m : Mp} {H : Hp} {K : PySem.W.Frag} {vs : List V} {ds : List PyData} (r : RpA m H vs ds) : RVs K m H vs (ds.map .d) := r.rvs
/-- a list's or a tuple's items -/
theorem items_at (rh : RH K m h H) {v : V} {p : PV} {xs : List PV} (r : RV K m H v p) (e : itemsOf h p = some xs) : ∃ a vs, v = .ref a ∧ (H a = some (.lst vs) ∨ H a = some (.tup vs)) ∧ RVs K m H vs xs := by
  have lists : getL h p = some xs → ∃ a vs, v = .ref a ∧ (H a = some (.lst vs) ∨ H a = some (.tup vs)) ∧ RVs K m H vs xs := fun e => by
    obtain ⟨a, vs, h1, h2, h3⟩ := getL_at rh r e
    exact ⟨a, vs, h1, .inl h2, h3⟩
  cases p with
  | d x =>
    cases x with
    | tuple ds =>
      obtain ⟨a, vs, rfl, ha, na, qa⟩ := rv_tup r
      cases e
      exact ⟨a, vs, rfl, .inr ha, qa.rvs⟩
    | _ => exact lists e
  | ref n => exact lists e
  | scr ns => exact lists e
theorem datas_map : ∀ ds : List PyData, datas (ds.map PV.d) = some ds
  | [] => rfl
  | d :: ds => by show (datas (ds.map PV.d)).map _ = _; rw [datas_map ds]; rfl
theorem pairsK_at : ∀ {vs : List V} {ds : List PyData} {kvs : List (Key × PyData)}, RpA m H vs ds → pairsK ds = some kvs →
    ∃ (ps : List Addr) (ws : List (Key × V)), vs = ps.map V.ref ∧ Paired (fun p kv => SqT K H p [kV kv.1, kv.2]) ps ws ∧ Paired (fun p q => p.1 = q.1 ∧ RV K m H p.2 q.2) ws (kvs.map fun kv => (kv.1, PV.d kv.2))
  | _, _, _, .nil, e => by
    cases e
    exact ⟨[], [], rfl, .nil, .nil⟩
  | _, _, _, .cons (v := v) (d := d) (ds := ds) r t, e => by
    unfold pairsK at e
    split at e
    · rename_i e0; cases e0
    · rename_i k x r' e0
      injection e0 with e1 e2
      subst e1 e2
      obtain ⟨q, e3, e4⟩ := Option.bind_eq_some_iff.mp e
      obtain ⟨kvs', e5, rfl⟩ := Option.map_eq_some_iff.mp e4
      obtain ⟨ps, ws, rfl, h2, h3⟩ := pairsK_at t e5
      cases r with
      | tup h n ra =>
        cases ra with
        | cons r1 ra =>
          cases ra with
          | cons r2 ra =>
            cases ra
            have := keyOf_at r1 e3
            subst this
            exact ⟨_ :: ps, (q, _) :: ws, rfl, .cons (SqT.of h) h2, .cons ⟨rfl, .d r2⟩ h3⟩
    · cases e
theorem merge_pair {P : V → PV → Prop} {ws : List (Key × V)} {xs : List (Key × PV)} (t : Paired (fun p q => p.1 = q.1 ∧ P p.2 q.2) ws xs) : ∀ {vs : List (Key × V)} {ys : List (Key × PV)}, Paired (fun p q => p.1 = q.1 ∧ P p.2 q.2) vs ys → Paired (fun p q => p.1 = q.1 ∧ P p.2 q.2) (mergeK vs ws) (mergeP ys xs) := by
  induction t with
  | nil => intro vs ys r; exact r
  | @cons a b as bs h t ih =>
    intro vs ys r
    obtain ⟨k, v⟩ := a
    obtain ⟨k', x⟩ := b
    obtain ⟨e, q⟩ := h
    have e : k = k' := e
    subst e
    exact ih (put_pair k q r)
theorem call_bi (hc : X.calm = true) (hg : X.A.guards = some []) (hu : X.A.units + 64 < cLine) (b : Bi) : CallR X b.val (rs X (biop b)) := by
  intro pins s σ H xs us Q I rv ⟨E, m, hh, ps, rh, ra, hs⟩
  cases ps with
  | nil => cases b <;> exact hs.elim
  | cons p ps =>
    cases ps with
    | nil =>
      obtain ⟨v, rfl, r1⟩ := rvs1 ra
      cases b with
      | all =>
        obtain ⟨z, e, hs⟩ := satG_of (show satG X.mg X.K E m H (RV X.K) (R.of (((getL hh p).bind bools).map fun bs => Iw.bool (bs.all id)) hh) Q from hs)
        obtain ⟨bs, e1, rfl⟩ := Option.map_eq_some_iff.mp e
        obtain ⟨l, e2, e3⟩ := Option.bind_eq_some_iff.mp e1
        obtain ⟨a, vs, rfl, ha, qa⟩ := getL_at rh r1 e2
        have ev := bools_at qa e3
        subst ev
        exact cr_all hc pins s σ H _ us Q I rv ⟨a, bs, rfl, SqL.of ha, now rh hs (.d (.bl _))⟩
      | any =>
        obtain ⟨z, e, hs⟩ := satG_of (show satG X.mg X.K E m H (RV X.K) (R.of (((getL hh p).bind bools).map fun bs => Iw.bool (bs.any id)) hh) Q from hs)
        obtain ⟨bs, e1, rfl⟩ := Option.map_eq_some_iff.mp e
        obtain ⟨l, e2, e3⟩ := Option.bind_eq_some_iff.mp e1
        obtain ⟨a, vs, rfl, ha, qa⟩ := getL_at rh r1 e2
        have ev := bools_at qa e3
        subst ev
        exact cr_any hc pins s σ H _ us Q I rv ⟨a, bs, rfl, SqL.of ha, now rh hs (.d (.bl _))⟩
      | len =>
        obtain ⟨z, e, hs⟩ := satG_of (show satG X.mg X.K E m H (RV X.K) (R.of ((lenOf hh p).map fun n : Nat => Iw.int n) hh) Q from hs)
        obtain ⟨n, e1, rfl⟩ := Option.map_eq_some_iff.mp e
        exact L2.call_len pins s σ H _ us Q I rv ⟨v, n, rfl, len_iw rh r1 e1, now rh hs (.d (.int _))⟩
      | int1 =>
        rcases p with (_|b|i|_|_|_|_) | _ | _ <;> first | exact hs.elim | skip
        · cases rv_bool r1
          refine call_int1 pins s σ H _ us Q I rv (.inr ⟨b, rfl, ?_⟩)
          have e : (if b = true then (1 : Int) else 0) = cond b 1 0 := by cases b <;> rfl
          rw [e]
          exact now rh hs (.d (.int _))
        · cases rv_int r1
          exact call_int1 pins s σ H _ us Q I rv (.inl ⟨i, rfl, now rh hs (.d (.int _))⟩)
      | bool1 =>
        rcases p with (_|b|i|_|_|_|_) | _ | _ <;> first | exact hs.elim | skip
        · cases rv_bool r1
          exact call_bool1 pins s σ H _ us Q I rv (.inr ⟨b, rfl, now rh hs (.d (.bl _))⟩)
        · cases rv_int r1
          exact call_bool1 pins s σ H _ us Q I rv (.inl ⟨i, rfl, now rh hs (.d (.bl _))⟩)
      | str1 =>
        rcases p with (_|b|i|_|_|_|_) | _ | _ <;> first | exact hs.elim | skip
        cases rv_int r1
        obtain ⟨hl, hs⟩ := satG_if hs
        exact call_str_int pins s σ H _ us Q I rv ⟨i, rfl, hl, now rh hs (.d (.str _))⟩
      | repr =>
        cases p with
        | d x =>
          obtain ⟨hl, hs⟩ := satG_if hs
          unfold reprOk at hl
          simp only [Bool.and_eq_true, decide_eq_true_eq, Bool.not_eq_true'] at hl
          obtain ⟨w, rfl, rw1⟩ := vals1 rv
          obtain ⟨as, hr⟩ := Rp.reads I (rv_d r1) rw1
          refine repr_data hr hl.1 hl.2.1 hg (by have := hl.2.2.1; have : deep = 60 := rfl; omega) (by rw [← line_eq]; exact hl.2.2.2) fun h' u tk hk => ?_
          exact ⟨.str _, H, I.kept hk, ⟨_, rfl⟩, now rh hs (.d (.str _))⟩
        | _ => exact hs.elim
      | max1 =>
        have hs : satG X.mg X.K E m H (RV X.K) (match (getL hh p).bind intsOf with
          | some (x :: r) => .ok (Iw.int (mostI x r)) hh
          | _ => .bad) Q := hs
        split at hs
        · rename_i x r e1
          obtain ⟨l, e2, e3⟩ := Option.bind_eq_some_iff.mp e1
          obtain ⟨a, vs, rfl, ha, qa⟩ := getL_at rh r1 e2
          have ev := intsOf_at qa e3
          subst ev
          refine cr_max hc pins s σ H _ us Q I rv ⟨a, x :: r, rfl, SqL.of ha, by simp, fun k hk hle => ?_⟩
          obtain ⟨q1, q2⟩ := mostI_spec r x
          rw [uniq_most hk q1 hle q2]
          exact now rh hs (.d (.int _))
        · exact hs.elim
      | min1 =>
        have hs : satG X.mg X.K E m H (RV X.K) (match (getL hh p).bind intsOf with
          | some (x :: r) => .ok (Iw.int (leastI x r)) hh
          | _ => .bad) Q := hs
        split at hs
        · rename_i x r e1
          obtain ⟨l, e2, e3⟩ := Option.bind_eq_some_iff.mp e1
          obtain ⟨a, vs, rfl, ha, qa⟩ := getL_at rh r1 e2
          have ev := intsOf_at qa e3
          subst ev
          refine cr_min hc pins s σ H _ us Q I rv ⟨a, x :: r, rfl, SqL.of ha, by simp, fun k hk hle => ?_⟩
          obtain ⟨q1, q2⟩ := leastI_spec r x
          rw [uniq_least hk q1 hle q2]
          exact now rh hs (.d (.int _))
        · exact hs.elim
      | sum =>
        obtain ⟨z, e, hs⟩ := satG_of (show satG X.mg X.K E m H (RV X.K) (R.of (((getL hh p).bind intsOf).map fun ns => Iw.int ns.sum) hh) Q from hs)
        obtain ⟨bs, e1, rfl⟩ := Option.map_eq_some_iff.mp e
        obtain ⟨l, e2, e3⟩ := Option.bind_eq_some_iff.mp e1
        obtain ⟨a, vs, rfl, ha, qa⟩ := getL_at rh r1 e2
        have ev := intsOf_at qa e3
        subst ev
        exact cr_sum hc pins s σ H _ us Q I rv ⟨a, bs, rfl, SqL.of ha, now rh hs (.d (.int _))⟩
      | tuple1 =>
        have hs : satG X.mg X.K E m H (RV X.K) (match (itemsOf hh p).bind datas with
          | some ds => if ds.length ≤ line then .ok (.d (.tuple ds)) hh else .bad
          | none => .bad) Q := hs
        cases e : (itemsOf hh p).bind datas with
        | none => rw [e] at hs; exact hs.elim
        | some ds =>
          rw [e] at hs
          obtain ⟨hl, hs⟩ := satG_if hs
          obtain ⟨xs, e1, e2⟩ := Option.bind_eq_some_iff.mp e
          obtain ⟨a, vs, rfl, ha, qa⟩ := items_at rh r1 e1
          have rp := RVs.rpa qa e2
          refine L2.call_tuple_of pins s σ H _ us Q I rv ⟨a, vs, rfl, ?_⟩
          rcases ha with ha | ha
          · exact .inl ⟨SqL.of ha, fun l hl => newTup rh hs rp hl⟩
          · exact .inr ⟨SqT.of ha, now rh hs (.d (.tup ha (rh.tup ha) rp))⟩
      | list1 mt =>
        have hs : satG X.mg X.K E m H (RV X.K) (match itemsOf hh p with
          | some xs => if xs.length ≤ line then mkL mt xs hh else .bad
          | none => .bad) Q := hs
        cases e : itemsOf hh p with
        | none => rw [e] at hs; exact hs.elim
        | some xs =>
          rw [e] at hs
          obtain ⟨hl, hs⟩ := satG_if hs
          obtain ⟨a, vs, rfl, ha, qa⟩ := items_at rh r1 e
          refine L2.call_list_of pins s σ H _ us Q I rv ⟨a, vs, rfl, ha.imp SqL.of SqT.of, fun l hl => newMk rh hs qa hl⟩
      | srt1 mt =>
        have hs : satG X.mg X.K E m H (RV X.K) (match (keysAll hh p).bind datas with
          | some ds => if srtOk ds = true then mkL mt ((srtD ds).map .d) hh else .bad
          | none => .bad) Q := hs
        cases e : (keysAll hh p).bind datas with
        | none => rw [e] at hs; exact hs.elim
        | some ds =>
          rw [e] at hs
          obtain ⟨hl, hs⟩ := satG_if hs
          obtain ⟨xs, e1, e2⟩ := Option.bind_eq_some_iff.mp e
          have fin : ∀ p vs', H p = none → RpA m H vs' (srtD ds) → Q (.ref p) (upd H p (.lst vs')) := fun l vs' hl r => newMk rh hs r.rvs hl
          obtain ⟨w, rfl, rw1⟩ := vals1 rv
          have lists : getL hh p = some xs → wpAny (model X.prog X.w) X.A (call (.builtin "sorted") [w]) (EP X pins σ Q) X.xe s := fun e1 => by
            obtain ⟨a, vs, rfl, ha, qa⟩ := getL_at rh r1 e1
            cases rw1
            exact srt_list hu I ha (RVs.rpa qa e2) hl fin
          cases p with
          | d x =>
            exact lists e1
          | scr ns => cases e1
          | ref n =>
            unfold keysAll at e1
            dsimp only at e1
            split at e1
            · rename_i kvs e0
              cases e1
              obtain ⟨a, u, h1, h2, h3⟩ := rh.at_ n _ e0
              cases r1 with
              | ref ha =>
                rw [h1] at ha; cases ha
                cases rw1
                cases h3 with
                | dT rp =>
                  rename_i kvs'
                  have ek : (kvs'.map fun kv => PyData.tuple (kv.1.map keyD)) = ds := by
                    have go : ∀ {vs : List (List Key × V)} {xs : List (List Key × PV)}, Paired (fun p q => p.1 = q.1 ∧ RV X.K m H p.2 q.2) vs xs → (xs.map fun kv => PV.d (.tuple (kv.1.map keyD))) = (vs.map fun kv => PyData.tuple (kv.1.map keyD)).map .d := fun r => by
                      induction r with
                      | nil => rfl
                      | cons r _ ih => simp only [List.map_cons]; rw [r.1, ih]
                    rw [go rp, datas_map] at e2
                    exact Option.some.inj e2
                  subst ek
                  exact srt_dict hc hu I rh h2 hl fin
            · rename_i kvs e0
              cases e1
              obtain ⟨a, u, h1, h2, h3⟩ := rh.at_ n _ e0
              cases r1 with
              | ref ha =>
                rw [h1] at ha; cases ha
                cases rw1
                cases h3 with
                | dK rp =>
                  rename_i kvs'
                  have ek : (kvs'.map fun kv => keyD kv.1) = ds := by
                    have go : ∀ {vs : List (Key × V)} {xs : List (Key × PV)}, Paired (fun p q => p.1 = q.1 ∧ RV X.K m H p.2 q.2) vs xs → (xs.map fun kv => PV.d (keyD kv.1)) = (vs.map fun kv => keyD kv.1).map .d := fun r => by
                      induction r with
                      | nil => rfl
                      | cons r _ ih => simp only [List.map_cons]; rw [r.1, ih]
                    rw [go rp, datas_map] at e2
                    exact Option.some.inj e2
                  subst ek
                  exact srt_dictK hc hu I h2 hl fin
            · exact lists e1
      | dict1 =>
        rcases p with (_|_|_|_|ds|_|_) | _ | _ <;> first | exact hs.elim | skip
        have hs : satG X.mg X.K E m H (RV X.K) (match pairsK ds with
          | some kvs => .ok (.ref hh.length) (hh ++ [.dK (mergeP [] (kvs.map fun kv => (kv.1, .d kv.2)))])
          | none => .bad) Q := hs
        cases e : pairsK ds with
        | none => rw [e] at hs; exact hs.elim
        | some kvs =>
          rw [e] at hs
          obtain ⟨a, vs, rfl, ha, na, qa⟩ := rv_lst r1
          obtain ⟨ps, ws, rfl, h2, h3⟩ := pairsK_at (K := X.K) qa e
          refine L2.call_dictP hc pins s σ H _ us Q I rv ⟨a, ps, ws, rfl, SqL.of ha, h2, fun l hl => ?_⟩
          refine hs _ _ _ (Evo.alloc rh hl) (rh.alloc hl (.dK (merge_pair h3 .nil))) (.ref ?_)
          rw [← rh.len]; simp
      | _ => exact hs.elim
    | cons q ps =>
      cases ps with
      | nil =>
        obtain ⟨v, w, rfl, r1, r2⟩ := rvs2 ra
        cases b with
        | max2 =>
          rcases p with (_|_|i|_|_|_|_) | _ | _ <;> first | exact hs.elim | skip
          rcases q with (_|_|j|_|_|_|_) | _ | _ <;> first | exact hs.elim | skip
          cases rv_int r1
          cases rv_int r2
          exact call_max2 hc pins s σ H _ us Q I rv ⟨i, j, rfl, now rh hs (.d (.int _))⟩
        | min2 =>
          rcases p with (_|_|i|_|_|_|_) | _ | _ <;> first | exact hs.elim | skip
          rcases q with (_|_|j|_|_|_|_) | _ | _ <;> first | exact hs.elim | skip
          cases rv_int r1
          cases rv_int r2
          exact call_min2 hc pins s σ H _ us Q I rv ⟨i, j, rfl, now rh hs (.d (.int _))⟩
        | _ => exact hs.elim
      | cons r ps => cases b <;> exact hs.elim
end
end Iw
end

section
set_option Elab.async false
set_option linter.all false
set_option maxRecDepth 100000
/-! expressions: the readings, one rule a form -/
namespace Iw
open PySem PySem.Spec PyProof.Rows L2
/-- what is wanted of an exception: at these slots -/
abbrev Ex (W : WX) (σ : Sv) : Value → Hp → Prop := fun C H => W C none σ H
/-- the readings of what the interpreter gives -/
def tE (X : Cx) (W : WX) (f : Sg → Hs → R PV) : TE := fun σ H Q => ∃ m p h, RS X.K m H σ p ∧ RH X.K m h H ∧ satG X.mg X.K (Ex W σ) m H (RV X.K) (f p h) Q
def tA (X : Cx) (W : WX) (f : Sg → Hs → R (List PV)) : TA := fun σ H Q => ∃ m p h, RS X.K m H σ p ∧ RH X.K m h H ∧ satG X.mg X.K (Ex W σ) m H (RVs X.K) (f p h) Q
abbrev same {α : Type} (_ : Mp) (_ : Hp) (b a : α) : Prop := b = a
def tT (X : Cx) (W : WX) (f : Sg → Hs → R Bool) : TT := fun σ H Q => ∃ m p h, RS X.K m H σ p ∧ RH X.K m h H ∧ satG X.mg X.K (Ex W σ) m H same (f p h) Q
def tO (X : Cx) (W : WX) (f : Sg → Hs → R (Option Int)) : TO := fun σ H Q => ∃ m p h, RS X.K m H σ p ∧ RH X.K m h H ∧ satG X.mg X.K (Ex W σ) m H same (f p h) Q
theorem _root_.L2.PE.imp {X : Cx} {e : Expr} {t t' : TE} (h : PE X e t) (i : ∀ σ H Q, t' σ H Q → t σ H Q) : PE X e t' := ⟨fun pins s σ H Q I q => h.run pins s σ H Q I (i _ _ _ q)⟩
theorem _root_.L2.PT.imp {X : Cx} {e : Expr} {t t' : TT} (h : PT X e t) (i : ∀ σ H Q, t' σ H Q → t σ H Q) : PT X e t' := ⟨fun pins s σ H Q I q => h.run pins s σ H Q I (i _ _ _ q)⟩
theorem _root_.L2.PW.imp {X : Cx} {e : Expr} {t t' : TT} (h : PW X e t) (i : ∀ σ H Q, t' σ H Q → t σ H Q) : PW X e t' := ⟨fun w pins s σ H Q I q => h.run w pins s σ H Q I (i _ _ _ q)⟩
theorem _root_.L2.PA.imp {X : Cx} {e : List Expr} {t t' : TA} (h : PA X e t) (i : ∀ σ H Q, t' σ H Q → t σ H Q) : PA X e t' := ⟨fun p pins s σ H Q I q => h.run p pins s σ H Q I (i _ _ _ q)⟩
theorem _root_.L2.PO.imp {X : Cx} {e : Option Expr} {t t' : TO} (h : PO X e t) (i : ∀ σ H Q, t' σ H Q → t σ H Q) : PO X e t' := ⟨fun pins s σ H Q I q => h.run pins s σ H Q I (i _ _ _ q)⟩
theorem R.bind_assoc {α β γ : Type} (r : R α) (f : α → Hs → R β) (g : β → Hs → R γ) : (r.bind f).bind g = r.bind fun a h => (f a h).bind g := by cases r <;> rfl
section
variable {X : Cx} {W : WX} {σ : Sv} {H : Hp} {Q : VK}
/-- the first part of a bind -/
theorem tE.bind1 {α β : Type} {rel : Mp → Hp → β → α → Prop} {A : Sg → Hs → R PV} {f : PV → Hs → R α} {Q : β → Hp → Prop} {m : Mp} {p : Sg} {h : Hs} (rs : RS X.K m H σ p) (rh : RH X.K m h H) (hs : satG X.mg X.K (Ex W σ) m H rel ((A p h).bind f) Q) :
    tE X W A σ H fun x H1 => ∃ m1 a h1, Evo m H m1 H1 ∧ RS X.K m1 H1 σ p ∧ RH X.K m1 h1 H1 ∧ RV X.K m1 H1 x a ∧ satG X.mg X.K (Ex W σ) m1 H1 rel (f a h1) Q :=
  ⟨m, p, h, rs, rh, (satG.bind (rel := RV X.K) hs).mono fun b H1 ⟨m1, a, h1, ev, rh1, ra, s1⟩ => ⟨m1, a, h1, ev, rs.evo ev, rh1, ra, s1⟩⟩
theorem tE.mono {A : Sg → Hs → R PV} {Q Q' : VK} (h : tE X W A σ H Q) (hq : ∀ x H', Q x H' → Q' x H') : tE X W A σ H Q' := let ⟨m, p, hh, rs, rh, s⟩ := h; ⟨m, p, hh, rs, rh, s.mono hq⟩
theorem tT.bind1 {α β : Type} {rel : Mp → Hp → β → α → Prop} {A : Sg → Hs → R Bool} {f : Bool → Hs → R α} {Q : β → Hp → Prop} {m : Mp} {p : Sg} {h : Hs} (rs : RS X.K m H σ p) (rh : RH X.K m h H) (hs : satG X.mg X.K (Ex W σ) m H rel ((A p h).bind f) Q) :
    tT X W A σ H fun x H1 => ∃ m1 h1, Evo m H m1 H1 ∧ RS X.K m1 H1 σ p ∧ RH X.K m1 h1 H1 ∧ satG X.mg X.K (Ex W σ) m1 H1 rel (f x h1) Q :=
  ⟨m, p, h, rs, rh, (satG.bind (rel := same) hs).mono fun b H1 ⟨m1, a, h1, ev, rh1, ra, s1⟩ => by subst ra; exact ⟨m1, h1, ev, rs.evo ev, rh1, s1⟩⟩
theorem tT.mono {A : Sg → Hs → R Bool} {Q Q' : Bool → Hp → Prop} (h : tT X W A σ H Q) (hq : ∀ x H', Q x H' → Q' x H') : tT X W A σ H Q' := let ⟨m, p, hh, rs, rh, s⟩ := h; ⟨m, p, hh, rs, rh, s.mono hq⟩
theorem tA.bind1 {α β : Type} {rel : Mp → Hp → β → α → Prop} {A : Sg → Hs → R (List PV)} {f : List PV → Hs → R α} {Q : β → Hp → Prop} {m : Mp} {p : Sg} {h : Hs} (rs : RS X.K m H σ p) (rh : RH X.K m h H) (hs : satG X.mg X.K (Ex W σ) m H rel ((A p h).bind f) Q) :
    tA X W A σ H fun x H1 => ∃ m1 a h1, Evo m H m1 H1 ∧ RS X.K m1 H1 σ p ∧ RH X.K m1 h1 H1 ∧ RVs X.K m1 H1 x a ∧ satG X.mg X.K (Ex W σ) m1 H1 rel (f a h1) Q :=
  ⟨m, p, h, rs, rh, (satG.bind (rel := RVs X.K) hs).mono fun b H1 ⟨m1, a, h1, ev, rh1, ra, s1⟩ => ⟨m1, a, h1, ev, rs.evo ev, rh1, ra, s1⟩⟩
theorem tA.mono {A : Sg → Hs → R (List PV)} {Q Q' : List V → Hp → Prop} (h : tA X W A σ H Q) (hq : ∀ x H', Q x H' → Q' x H') : tA X W A σ H Q' := let ⟨m, p, hh, rs, rh, s⟩ := h; ⟨m, p, hh, rs, rh, s.mono hq⟩
theorem tO.bind1 {α β : Type} {rel : Mp → Hp → β → α → Prop} {A : Sg → Hs → R (Option Int)} {f : Option Int → Hs → R α} {Q : β → Hp → Prop} {m : Mp} {p : Sg} {h : Hs} (rs : RS X.K m H σ p) (rh : RH X.K m h H) (hs : satG X.mg X.K (Ex W σ) m H rel ((A p h).bind f) Q) :
    tO X W A σ H fun x H1 => ∃ m1 h1, Evo m H m1 H1 ∧ RS X.K m1 H1 σ p ∧ RH X.K m1 h1 H1 ∧ satG X.mg X.K (Ex W σ) m1 H1 rel (f x h1) Q :=
  ⟨m, p, h, rs, rh, (satG.bind (rel := same) hs).mono fun b H1 ⟨m1, a, h1, ev, rh1, ra, s1⟩ => by subst ra; exact ⟨m1, h1, ev, rs.evo ev, rh1, s1⟩⟩
theorem tO.mono {A : Sg → Hs → R (Option Int)} {Q Q' : Option Int → Hp → Prop} (h : tO X W A σ H Q) (hq : ∀ x H', Q x H' → Q' x H') : tO X W A σ H Q' := let ⟨m, p, hh, rs, rh, s⟩ := h; ⟨m, p, hh, rs, rh, s.mono hq⟩
variable {A B : Dn}
theorem t_two {f : PV → PV → Hs → R PV} (h : tE X W (two A B f).e σ H Q) : tOp (Iw.r2 X f) (tE X W A.e) (tE X W B.e) σ H Q := by
  obtain ⟨m, p, hh, rs, rh, hs⟩ := h
  exact (tE.bind1 rs rh hs).mono fun x H1 ⟨m1, a, h1, _, rs1, rh1, ra, s1⟩ => (tE.bind1 rs1 rh1 s1).mono fun y H2 ⟨m2, b, h2, e2, rs2, rh2, rb, s2⟩ => ⟨_, m2, h2, a, b, rh2, ra.evo e2, rb, s2⟩
theorem t_one {f : PV → Hs → R PV} (h : tE X W (one A f).e σ H Q) : tUn (Iw.r1 X f) (tE X W A.e) σ H Q := by
  obtain ⟨m, p, hh, rs, rh, hs⟩ := h
  exact (tE.bind1 rs rh hs).mono fun x H1 ⟨m1, a, h1, _, rs1, rh1, ra, s1⟩ => ⟨_, m1, h1, a, rh1, ra, s1⟩
theorem t_args {f : List PV → Hs → R PV} (h : tE X W (args A f).e σ H Q) : tCB (Iw.rs X f) (tA X W A.a) σ H Q := by
  obtain ⟨m, p, hh, rs, rh, hs⟩ := h
  exact (tA.bind1 rs rh hs).mono fun x H1 ⟨m1, a, h1, _, rs1, rh1, ra, s1⟩ => ⟨_, m1, h1, a, rh1, ra, s1⟩
end
section
variable {X : Cx} {W : WX} {a b c : Expr} {A B C : Dn} {pos : Pos}
variable (cf : Str → List PV → Hs → R PV) (k : Nat)
theorem e_loc {i : Nat} {x : Str} (h : PE X (.Name x pos) (tVar i)) : PE X (.Name x pos) (tE X W (den cf k (.loc i)).e) := h.imp fun σ H Q ⟨m, p, hh, rs, rh, hs⟩ => by
  have hs : satG X.mg X.K (Ex W σ) m H (RV X.K) (match p[i]? with
    | some (some v) => .ok v hh
    | _ => .bad) Q := hs
  split at hs
  · rename_i v e
    obtain ⟨u, e1, r⟩ := rs.at_ i v e
    exact ⟨u, e1, now rh hs r⟩
  · exact hs.elim
theorem e_lit {e : Expr} {x : PyData} {v : V} (h : PE X e (tC v)) (hr : ∀ m H, Rp m H v x) : PE X e (tE X W (den cf k (.lit x)).e) := h.imp fun σ H Q ⟨m, p, hh, rs, rh, hs⟩ => now rh hs (.d (hr m H))
theorem e_bin (o : BO) (ha : PE X a (tE X W A.e)) (hb : PE X b (tE X W B.e)) : PE X (.BinOp a o.op b pos) (tE X W (two A B (binop o)).e) := (pe_op (op_bin_iw o) ha hb).imp fun _ _ _ => t_two
theorem un_neg_iw : UnR X (unaryOp .USub) (Iw.r1 X negv) := by
  intro pins s σ H x v Q I rx ⟨E, m, hh, p, rh, ra, hs⟩
  rcases p with (_|_|i|_|_|_|_) | _ | _ <;> first | exact hs.elim | skip
  cases rv_int ra
  exact un_neg pins s σ H _ v Q I rx ⟨i, rfl, now rh hs (.d (.int _))⟩
theorem e_neg (ha : PE X a (tE X W A.e)) : PE X (.UnaryOp .USub a pos) (tE X W (one A negv).e) := (pe_un un_neg_iw ha).imp fun _ _ _ => t_one
theorem e_not (ha : PE X a (tE X W A.e)) : PE X (.UnaryOp .Not a pos) (tE X W (fun σ h => (tOf A.e σ h).bind fun b h2 => .ok (bool (!b)) h2)) := (pe_notT ha).imp fun σ H Q ⟨m, p, hh, rs, rh, hs⟩ => by
  have hs : satG X.mg X.K (Ex W σ) m H (RV X.K) (((A.e p hh).bind fun x h1 => R.of (tru h1 x) h1).bind fun b h2 => .ok (bool (!b)) h2) Q := hs
  rw [R.bind_assoc] at hs
  refine (tE.bind1 rs rh hs).mono fun x H1 ⟨m1, a, h1, _, rs1, rh1, ra, s1⟩ => ?_
  cases e : tru h1 a with
  | none => rw [e] at s1; exact s1.elim
  | some b => rw [e] at s1; exact ⟨b, tru_iw rh1 ra e, now rh1 s1 (.d (.bl _))⟩
theorem e_and {rest : List Expr} (ha : PE X a (tE X W A.e)) (hb : PE X (.BoolOp .And (b :: rest) pos) (tE X W B.e)) : PE X (.BoolOp .And (a :: b :: rest) pos) (tE X W (fun σ h => (A.e σ h).bind fun x h1 => (R.of (tru h1 x) h1).bind fun c h2 => match c with
    | true => B.e σ h2
    | false => .ok x h2)) := (pe_andT ha hb).imp fun σ H Q ⟨m, p, hh, rs, rh, hs⟩ => by
  refine (tE.bind1 rs rh hs).mono fun x H1 ⟨m1, a, h1, _, rs1, rh1, ra, s1⟩ => ?_
  cases e : tru h1 a with
  | none => rw [e] at s1; exact s1.elim
  | some c =>
    rw [e] at s1
    refine ⟨c, tru_iw rh1 ra e, ?_⟩
    cases c with
    | true => exact iteT ⟨m1, p, h1, rs1, rh1, s1⟩
    | false => exact iteF (now rh1 s1 ra)
theorem e_or {rest : List Expr} (ha : PE X a (tE X W A.e)) (hb : PE X (.BoolOp .Or (b :: rest) pos) (tE X W B.e)) : PE X (.BoolOp .Or (a :: b :: rest) pos) (tE X W (fun σ h => (A.e σ h).bind fun x h1 => (R.of (tru h1 x) h1).bind fun c h2 => match c with
    | true => .ok x h2
    | false => B.e σ h2)) := (pe_orT ha hb).imp fun σ H Q ⟨m, p, hh, rs, rh, hs⟩ => by
  refine (tE.bind1 rs rh hs).mono fun x H1 ⟨m1, a, h1, _, rs1, rh1, ra, s1⟩ => ?_
  cases e : tru h1 a with
  | none => rw [e] at s1; exact s1.elim
  | some c =>
    rw [e] at s1
    refine ⟨c, tru_iw rh1 ra e, ?_⟩
    cases c with
    | true => exact iteT (now rh1 s1 ra)
    | false => exact iteF ⟨m1, p, h1, rs1, rh1, s1⟩
theorem e_one {op} (h : PE X a (tE X W A.e)) : PE X (.BoolOp op [a] pos) (tE X W A.e) := pe_one h
theorem e_cmp (hu : X.A.units + 64 < cLine) (o : CO) (ha : PE X a (tE X W A.e)) (hb : PE X b (tE X W B.e)) (hm : behindInMarks o.op b = false) : PE X (.Compare a [o.op] [b] pos) (tE X W (two A B fun x y h => R.of ((cmpop o x y h).map Iw.bool) h).e) :=
  (pe_cmpR (op_cmp_iw hu o) ha hb hm).imp fun _ _ _ => t_two
theorem satB {mg : Str → Option Value} {K : PySem.W.Frag} {E : Value → Hp → Prop} {m : Mp} {H : Hp} {h : Hs} {o : Option Bool} {Q : Bool → Hp → Prop} (hs : satG mg K E m H same (R.of o h) Q) : satG mg K E m H (RV K) (R.of (o.map Iw.bool) h) (fun x H' => ∃ k, x = .bl k ∧ Q k H') := by
  cases o with
  | none => exact hs
  | some b => exact fun x H' m' e rh r => ⟨b, rv_bool r, hs b H' m' e rh rfl⟩
theorem tOf_cmp (o : CO) (σ : Sg) (h : Hs) : tOf (two A B fun x y h => R.of ((cmpop o x y h).map Iw.bool) h).e σ h = (A.e σ h).bind fun x h1 => (B.e σ h1).bind fun y h2 => R.of (cmpop o x y h2) h2 := by
  show (((A.e σ h).bind fun x h1 => (B.e σ h1).bind fun y h2 => R.of ((cmpop o x y h2).map Iw.bool) h2)).bind _ = _
  rw [R.bind_assoc]
  congr 1
  funext x h1
  rw [R.bind_assoc]
  congr 1
  funext y h2
  cases cmpop o x y h2 <;> rfl
theorem t_cmp (hu : X.A.units + 64 < cLine) (o : CO) (ha : PE X a (tE X W A.e)) (hb : PE X b (tE X W B.e)) (hm : behindInMarks o.op b = false) : PT X (.Compare a [o.op] [b] pos) (tT X W (tOf (two A B fun x y h => R.of ((cmpop o x y h).map Iw.bool) h).e)) :=
  (pt_cmpR (op_cmp_iw hu o) ha hb hm).imp fun σ H Q ⟨m, p, hh, rs, rh, hs⟩ => by
    rw [tOf_cmp] at hs
    exact (tE.bind1 rs rh hs).mono fun x H1 ⟨m1, a, h1, _, rs1, rh1, ra, s1⟩ => (tE.bind1 rs1 rh1 s1).mono fun y H2 ⟨m2, b, h2, e2, rs2, rh2, rb, s2⟩ => ⟨_, m2, h2, a, b, rh2, ra.evo e2, rb, satB s2⟩
abbrev chainE (o q : CO) (A B C : Dn) : Sg → Hs → R PV := fun σ h => (A.e σ h).bind fun x h1 => (B.e σ h1).bind fun y h2 => (R.of (cmpop o x y h2) h2).bind fun t h3 => match t with
    | true => (C.e σ h3).bind fun z h4 => R.of ((cmpop q y z h4).map Iw.bool) h4
    | false => .ok (Iw.bool false) h3
theorem chain_read (o q : CO) {σ : Sv} {H : Hp} {Q : VK} (h : tE X W (chainE o q A B C) σ H Q) : tChain (Iw.r2 X fun x y h => R.of ((cmpop o x y h).map Iw.bool) h) (Iw.r2 X fun x y h => R.of ((cmpop q x y h).map Iw.bool) h) (tE X W A.e) (tE X W B.e) (tE X W C.e) σ H Q := by
  obtain ⟨m, p, hh, rs, rh, hs⟩ := h
  refine (tE.bind1 rs rh hs).mono fun x H1 ⟨m1, a, h1, _, rs1, rh1, ra, s1⟩ => (tE.bind1 rs1 rh1 s1).mono fun y H2 ⟨m2, b, h2, e2, rs2, rh2, rb, s2⟩ => ⟨Ex W σ, m2, h2, a, b, rh2, ra.evo e2, rb, ?_⟩
  refine satB ((satG.bind (rel := same) s2).mono fun t H3 ⟨m3, t', h3, e3, rh3, et, s3⟩ => ?_)
  have et : t = t' := et
  subst et
  have rs3 := rs2.evo e3
  cases t with
  | false => exact iteF (now rh3 s3 (.d (.bl _)))
  | true =>
    refine iteT ?_
    exact (tE.bind1 rs3 rh3 s3).mono fun z H4 ⟨m4, c, h4, e4, rs4, rh4, rc, s4⟩ => ⟨Ex W σ, m4, h4, b, c, rh4, (rb.evo e3).evo e4, rc, s4⟩
theorem e_chain (hu : X.A.units + 64 < cLine) (o q : CO) (ha : PE X a (tE X W A.e)) (hb : PE X b (tE X W B.e)) (hc : PE X c (tE X W C.e)) (hm : lastMarks [o.op, q.op] [b, c] = false) : PE X (.Compare a [o.op, q.op] [b, c] pos) (tE X W (chainE o q A B C)) :=
  (pe_chain (op_cmp_iw hu o) (op_cmp_iw hu q) ha hb hc hm).imp fun _ _ _ => chain_read o q
theorem tT_E {F : Sg → Hs → R PV} {σ : Sv} {H : Hp} {Q : Bool → Hp → Prop} (hb : ∀ σ h, (∃ b h', F σ h = .ok (Iw.bool b) h') ∨ (∀ v h', F σ h ≠ .ok v h')) (h : tT X W (tOf F) σ H Q) : tE X W F σ H (fun x H' => ∃ k, x = .bl k ∧ Q k H') := by
  obtain ⟨m, p, hh, rs, rh, hs⟩ := h
  refine ⟨m, p, hh, rs, rh, ?_⟩
  have hs : satG X.mg X.K (Ex W σ) m H same ((F p hh).bind fun x h1 => R.of (tru h1 x) h1) Q := hs
  rcases hb p hh with ⟨b, h', e⟩ | e
  · rw [e] at hs ⊢
    exact fun x H' m' ev rh' r => ⟨b, rv_bool r, hs b H' m' ev rh' rfl⟩
  · cases e2 : F p hh with
    | ok v h' => exact absurd e2 (e v h')
    | exc c h' => rw [e2] at hs; exact hs
    | bad => rw [e2] at hs; exact hs
theorem t_chain (hu : X.A.units + 64 < cLine) (o q : CO) (ha : PE X a (tE X W A.e)) (hb : PE X b (tE X W B.e)) (hc : PE X c (tE X W C.e)) (hm : lastMarks [o.op, q.op] [b, c] = false) : PT X (.Compare a [o.op, q.op] [b, c] pos) (tT X W (tOf (chainE o q A B C))) :=
  (pt_chain (op_cmp_iw hu o) (op_cmp_iw hu q) ha hb hc hm).imp fun σ H Q h => chain_read o q (tT_E (fun σ h => by
    unfold chainE
    cases A.e σ h with
    | ok x h1 =>
      dsimp only [R.bind]
      cases B.e σ h1 with
      | ok y h2 =>
        dsimp only [R.bind]
        cases cmpop o x y h2 with
        | none => exact .inr fun _ _ z => nomatch z
        | some t =>
          cases t with
          | false => exact .inl ⟨false, h2, rfl⟩
          | true =>
            dsimp only [R.of, R.bind]
            cases C.e σ h2 with
            | ok z h4 =>
              dsimp only [R.bind]
              cases cmpop q y z h4 with
              | none => exact .inr fun _ _ z => nomatch z
              | some t => exact .inl ⟨t, h4, rfl⟩
            | exc _ _ => exact .inr fun _ _ z => nomatch z
            | bad => exact .inr fun _ _ z => nomatch z
      | exc _ _ => exact .inr fun _ _ z => nomatch z
      | bad => exact .inr fun _ _ z => nomatch z
    | exc _ _ => exact .inr fun _ _ z => nomatch z
    | bad => exact .inr fun _ _ z => nomatch z) h)
end
end Iw
end

section
set_option Elab.async false
set_option linter.all false
set_option maxRecDepth 100000
namespace Iw
open PySem PySem.Spec PyProof.Rows L2
section
variable {X : Cx} {W : WX} {a b c : Expr} {es : List Expr} {A B C : Dn} {pos : Pos}
theorem isNon_eq {K : PySem.W.Frag} {m : Mp} {H : Hp} {v : V} {p : PV} (r : RV K m H v p) : isNonV p = decide (v = .non) := by
  cases r with
  | d r => cases r <;> rfl
  | ref _ => rfl
  | scr _ => rfl
theorem e_isNon {j} {p2 : Pos} (ha : PE X a (tE X W A.e)) : PE X (.Compare a [.Is] [.Constant .none j p2] pos) (tE X W (one A fun x h => .ok (Iw.bool (isNonV x)) h).e) :=
  (pe_cmp (pc_isN ha)).imp fun σ H Q ⟨m, p, hh, rs, rh, hs⟩ => (tE.bind1 rs rh hs).mono fun x H1 ⟨m1, a, h1, _, rs1, rh1, ra, s1⟩ => by
    rw [← isNon_eq ra]; exact now rh1 s1 (.d (.bl _))
theorem e_notNon {j} {p2 : Pos} (ha : PE X a (tE X W A.e)) : PE X (.Compare a [.IsNot] [.Constant .none j p2] pos) (tE X W (one A fun x h => .ok (Iw.bool (!isNonV x)) h).e) :=
  (pe_cmp (pc_notN ha)).imp fun σ H Q ⟨m, p, hh, rs, rh, hs⟩ => (tE.bind1 rs rh hs).mono fun x H1 ⟨m1, a, h1, _, rs1, rh1, ra, s1⟩ => by
    rw [← isNon_eq ra]; exact now rh1 s1 (.d (.bl _))
theorem one_bool {f : PV → Bool} {σ : Sv} {H : Hp} {Q : Bool → Hp → Prop} (h : tT X W (tOf (one A fun x h => .ok (Iw.bool (f x)) h).e) σ H Q) : tE X W A.e σ H fun x H1 => ∃ (m1 : Mp) (p1 : PV), RV X.K m1 H1 x p1 ∧ Q (f p1) H1 := by
  obtain ⟨m, p, hh, rs, rh, hs⟩ := h
  have hs : satG X.mg X.K (Ex W σ) m H same (((A.e p hh).bind fun x h1 => .ok (Iw.bool (f x)) h1).bind fun x h1 => R.of (tru h1 x) h1) Q := hs
  rw [R.bind_assoc] at hs
  exact (tE.bind1 rs rh hs).mono fun x H1 ⟨m1, a, h1, _, rs1, rh1, ra, s1⟩ => ⟨m1, a, ra, now rh1 s1 rfl⟩
theorem t_isNon {j} {p2 : Pos} (ha : PE X a (tE X W A.e)) : PT X (.Compare a [.Is] [.Constant .none j p2] pos) (tT X W (tOf (one A fun x h => .ok (Iw.bool (isNonV x)) h).e)) :=
  (pt_cmp (pc_isN ha)).imp fun σ H Q h => (one_bool h).mono fun x H1 ⟨m1, p1, r, q⟩ => ⟨_, rfl, by rw [← isNon_eq r]; exact q⟩
theorem t_notNon {j} {p2 : Pos} (ha : PE X a (tE X W A.e)) : PT X (.Compare a [.IsNot] [.Constant .none j p2] pos) (tT X W (tOf (one A fun x h => .ok (Iw.bool (!isNonV x)) h).e)) :=
  (pt_cmp (pc_notN ha)).imp fun σ H Q h => (one_bool (f := fun x => !isNonV x) h).mono fun x H1 ⟨m1, p1, r, q⟩ => ⟨_, rfl, by rw [← isNon_eq r]; exact q⟩
/-! ### tests -/
theorem t_plain (ha : PE X a (tE X W A.e)) (he : ∀ whole, isTrue a X.env whole = (do let v ← whole; standAt a.pos; holding [v] (truthy v))) : PT X a (tT X W (tOf A.e)) :=
  (pt_truth ha he).imp fun σ H Q ⟨m, p, hh, rs, rh, hs⟩ => by
    have hs : satG X.mg X.K (Ex W σ) m H same ((A.e p hh).bind fun x h1 => R.of (tru h1 x) h1) Q := hs
    refine (tE.bind1 rs rh hs).mono fun x H1 ⟨m1, a, h1, _, rs1, rh1, ra, s1⟩ => ?_
    obtain ⟨b, e, s2⟩ := satG_of s1
    exact ⟨b, tru_iw rh1 ra e, now rh1 s2 rfl⟩
theorem tOf_not (σ : Sg) (h : Hs) : tOf (fun σ h => (tOf A.e σ h).bind fun b h2 => .ok (Iw.bool (!b)) h2) σ h = (tOf A.e σ h).bind fun b h1 => .ok (!b) h1 := by
  show ((tOf A.e σ h).bind _).bind _ = _
  rw [R.bind_assoc]; rfl
theorem t_not (ha : PT X a (tT X W (tOf A.e))) : PT X (.UnaryOp .Not a pos) (tT X W (tOf fun σ h => (tOf A.e σ h).bind fun b h2 => .ok (Iw.bool (!b)) h2)) :=
  (pt_not ha).imp fun σ H Q ⟨m, p, hh, rs, rh, hs⟩ => by
    rw [tOf_not] at hs
    exact (tT.bind1 rs rh hs).mono fun x H1 ⟨m1, h1, _, rs1, rh1, s1⟩ => now rh1 s1 rfl
abbrev andE (A B : Dn) : Sg → Hs → R PV := fun σ h => (A.e σ h).bind fun x h1 => (R.of (tru h1 x) h1).bind fun c h2 => match c with
    | true => B.e σ h2
    | false => .ok x h2
abbrev orE (A B : Dn) : Sg → Hs → R PV := fun σ h => (A.e σ h).bind fun x h1 => (R.of (tru h1 x) h1).bind fun c h2 => match c with
    | true => .ok x h2
    | false => B.e σ h2
theorem tOf_and (σ : Sg) (h : Hs) : tOf (andE A B) σ h = (tOf A.e σ h).bind fun c h1 => match c with
    | true => tOf B.e σ h1
    | false => .ok false h1 := by
  unfold tOf andE
  cases A.e σ h with
  | ok x h1 =>
    dsimp only [R.bind]
    cases e : tru h1 x with
    | none => rfl
    | some c =>
      cases c with
      | true => rfl
      | false => show R.of (tru h1 x) h1 = _; rw [e]; rfl
  | exc _ _ => rfl
  | bad => rfl
theorem tOf_or (σ : Sg) (h : Hs) : tOf (orE A B) σ h = (tOf A.e σ h).bind fun c h1 => match c with
    | true => .ok true h1
    | false => tOf B.e σ h1 := by
  unfold tOf orE
  cases A.e σ h with
  | ok x h1 =>
    dsimp only [R.bind]
    cases e : tru h1 x with
    | none => rfl
    | some c =>
      cases c with
      | false => rfl
      | true => show R.of (tru h1 x) h1 = _; rw [e]; rfl
  | exc _ _ => rfl
  | bad => rfl
theorem w_one {op} (h : PT X a (tT X W (tOf A.e))) : PW X (.BoolOp op [a] pos) (tT X W (tOf A.e)) := by
  cases op with
  | And => exact pw_and1 h
  | Or => exact pw_or1 h
theorem w_and (ha : PT X a (tT X W (tOf A.e))) (hb : PW X (.BoolOp .And (b :: es) pos) (tT X W (tOf B.e))) : PW X (.BoolOp .And (a :: b :: es) pos) (tT X W (tOf (andE A B))) :=
  (pw_and ha hb).imp fun σ H Q ⟨m, p, hh, rs, rh, hs⟩ => by
    rw [tOf_and] at hs
    refine (tT.bind1 rs rh hs).mono fun x H1 ⟨m1, h1, _, rs1, rh1, s1⟩ => ?_
    cases x with
    | true => exact iteT ⟨m1, p, h1, rs1, rh1, s1⟩
    | false => exact iteF (now rh1 s1 rfl)
theorem w_or (ha : PT X a (tT X W (tOf A.e))) (hb : PW X (.BoolOp .Or (b :: es) pos) (tT X W (tOf B.e))) : PW X (.BoolOp .Or (a :: b :: es) pos) (tT X W (tOf (orE A B))) :=
  (pw_or ha hb).imp fun σ H Q ⟨m, p, hh, rs, rh, hs⟩ => by
    rw [tOf_or] at hs
    refine (tT.bind1 rs rh hs).mono fun x H1 ⟨m1, h1, _, rs1, rh1, s1⟩ => ?_
    cases x with
    | false => exact iteF ⟨m1, p, h1, rs1, rh1, s1⟩
    | true => exact iteT (now rh1 s1 rfl)
abbrev iteE (C A B : Dn) : Sg → Hs → R PV := fun σ h => (tOf C.e σ h).bind fun t h1 => match t with
    | true => A.e σ h1
    | false => B.e σ h1
theorem e_ite (hc : PT X c (tT X W (tOf C.e))) (ha : PE X a (tE X W A.e)) (hb : PE X b (tE X W B.e)) : PE X (.IfExp c a b pos) (tE X W (iteE C A B)) :=
  (pe_ifExp hc ha hb).imp fun σ H Q ⟨m, p, hh, rs, rh, hs⟩ => (tT.bind1 rs rh hs).mono fun x H1 ⟨m1, h1, _, rs1, rh1, s1⟩ => by
    cases x with
    | true => exact iteT ⟨m1, p, h1, rs1, rh1, s1⟩
    | false => exact iteF ⟨m1, p, h1, rs1, rh1, s1⟩
/-! ### argument lists, displays -/
theorem a_nil (cf : Str → List PV → Hs → R PV) (k : Nat) : PA X [] (tA X W (den cf k .nil).a) := pa_nil.imp fun σ H Q ⟨m, p, hh, rs, rh, hs⟩ => now rh hs .nil
abbrev consA (A B : Dn) : Sg → Hs → R (List PV) := fun σ h => (A.e σ h).bind fun x h1 => (B.a σ h1).bind fun xs h2 => .ok (x :: xs) h2
theorem a_cons (ha : PE X a (tE X W A.e)) (hb : PA X es (tA X W B.a)) (hs : starEach (a :: es) X.env = (false, eval a X.env) :: starEach es X.env) : PA X (a :: es) (tA X W (consA A B)) :=
  (pa_cons ha hb hs).imp fun σ H Q ⟨m, p, hh, rs, rh, hs⟩ => (tE.bind1 rs rh hs).mono fun x H1 ⟨m1, a, h1, _, rs1, rh1, ra, s1⟩ => (tA.bind1 rs1 rh1 s1).mono fun y H2 ⟨m2, b, h2, e2, rs2, rh2, rb, s2⟩ => now rh2 s2 (.cons (ra.evo e2) rb)
theorem e_tup {x1} (ha : PA X es (tA X W A.a)) : PE X (.Tuple es x1 pos) (tE X W (args A tupOf).e) :=
  (pe_tup ha).imp fun σ H Q ⟨m, p, hh, rs, rh, hs⟩ => (tA.bind1 rs rh hs).mono fun x H1 ⟨m1, a, h1, _, rs1, rh1, ra, s1⟩ => by
    have s1 : satG X.mg X.K (Ex W σ) m1 H1 (RV X.K) (match datas a with
      | some ds => if ds.length ≤ line then .ok (.d (.tuple ds)) h1 else .bad
      | none => .bad) Q := s1
    cases e : datas a with
    | none => rw [e] at s1; exact s1.elim
    | some ds =>
      rw [e] at s1
      obtain ⟨hl, s2⟩ := satG_if s1
      exact ⟨by rw [ra.len, ← datas_len e, ← line_eq]; exact hl, fun p hp => newTup rh1 s2 (ra.rpa e) hp⟩
theorem e_lst (mt : Bool) (ha : PA X es (tA X W A.a)) : PE X (.List es pos) (tE X W (args A (lstOf mt)).e) :=
  (pe_lst ha).imp fun σ H Q ⟨m, p, hh, rs, rh, hs⟩ => (tA.bind1 rs rh hs).mono fun x H1 ⟨m1, a, h1, _, rs1, rh1, ra, s1⟩ => by
    obtain ⟨hl, s2⟩ := satG_if (show satG X.mg X.K (Ex W σ) m1 H1 (RV X.K) (if a.length ≤ line then mkL mt a h1 else .bad) Q from s1)
    exact ⟨by rw [ra.len, ← line_eq]; exact hl, fun p hp => newMk rh1 s2 ra hp⟩
/-! ### calls of built-ins -/
theorem e_bif {x : Str} {p : Pos} {e : Expr} (i : Bi) {id : String} (hi : i.val = .builtin id) (hc : X.calm = true) (hg : X.A.guards = some []) (hu : X.A.units + 64 < cLine) (gl : Gl X x) (hm : X.mg x = none) (hv : bootBuiltins x = some (.builtin id)) (ha : PA X (e :: es) (tA X W A.a)) (hn : x ≠ "__name__") (hdb : (x == ("__debug__" : Str)) = false)
    (he : starEach (e :: es) X.env = (false, eval e X.env) :: starEach es X.env) (hpl : (backTo pos (starEach es X.env)).any (·.1) = false) : PE X (.Call (.Name x p) (e :: es) [] pos) (tE X W (args A (biop i)).e) := by
  have r := call_bi hc hg hu i
  rw [hi] at r
  exact (pe_callB r gl hm hv ha hn hdb he hpl).imp fun _ _ _ => t_args
theorem e_bit {x : Str} {p : Pos} {e : Expr} (i : Bi) {id : String} (hi : i.val = .type id) (hc : X.calm = true) (hg : X.A.guards = some []) (hu : X.A.units + 64 < cLine) (gl : Gl X x) (hm : X.mg x = none) (hv : bootBuiltins x = some (.type id)) (ha : PA X (e :: es) (tA X W A.a)) (hn : x ≠ "__name__") (hdb : (x == ("__debug__" : Str)) = false)
    (he : starEach (e :: es) X.env = (false, eval e X.env) :: starEach es X.env) (hpl : (backTo pos (starEach es X.env)).any (·.1) = false) : PE X (.Call (.Name x p) (e :: es) [] pos) (tE X W (args A (biop i)).e) := by
  have r := call_bi hc hg hu i
  rw [hi] at r
  exact (pe_callTy r gl hm hv ha hn hdb he hpl).imp fun _ _ _ => t_args
/-! ### isinstance -/
def tyName : PyData → Option String
  | .none => some "NoneType"
  | .bool _ => some "bool"
  | .int _ => some "int"
  | .str _ => some "str"
  | .list _ => some "list"
  | .tuple _ => some "tuple"
  | .dict _ => none
theorem ty_at {K : PySem.W.Frag} {m : Mp} {H : Hp} {v : V} {x : PyData} (r : Rp m H v x) : ∃ t, tyName x = some t ∧ TyX K H v (.type t) := by
  cases r with
  | non => exact ⟨_, rfl, .base .non⟩
  | bl b => exact ⟨_, rfl, .base (.bl b)⟩
  | int i => exact ⟨_, rfl, .base (.int i)⟩
  | str x => exact ⟨_, rfl, .base (.str x)⟩
  | lst e _ _ => exact ⟨_, rfl, .base (.lst e)⟩
  | tup e _ _ => exact ⟨_, rfl, .base (.tup e)⟩
theorem isi_kit {h : Hs} {x : PyData} {T : String} {b : Bool} {t : String} (e : isiT h T (.d x) = some b) (ht : tyName x = some t) : kitB t T = some b := by
  unfold isiT at e
  dsimp only at e
  split at e <;> cases e <;> cases x <;> cases ht <;> first | (show kitB _ _ = some true; decide +kernel) | (show kitB _ _ = some false; decide +kernel)
theorem e_isi {x y : Str} {p p2 : Pos} {T : String} (gl : Gl X x) (hm : X.mg x = none) (hv : bootBuiltins x = some (.builtin "isinstance")) (hn : x ≠ "__name__") (hdb : (x == ("__debug__" : Str)) = false)
    (gly : Gl X y) (hmy : X.mg y = none) (hvy : bootBuiltins y = some (.type T)) (hny : y ≠ "__name__") (hdby : (y == ("__debug__" : Str)) = false) (ha : PE X a (tE X W A.e))
    (hs : starEach [a, .Name y p2] X.env = (false, eval a X.env) :: starEach [.Name y p2] X.env) : PE X (.Call (.Name x p) [a, .Name y p2] [] pos) (tE X W (one A fun x h => R.of ((isiT h T x).map Iw.bool) h).e) :=
  (pe_callB call_isi gl hm hv (pa_cons ha (pa_cons (pe_bltn (v := .ty T) gly hmy hvy rfl hny hdby) pa_nil (by rfl)) hs) hn hdb hs (by rfl)).imp fun σ H Q ⟨m, p, hh, rs, rh, hs⟩ =>
    (tE.bind1 rs rh hs).mono fun x H1 ⟨m1, a, h1, _, rs1, rh1, ra, s1⟩ => by
      cases a with
      | d dx =>
        obtain ⟨z, e, s2⟩ := satG_of s1
        obtain ⟨b, e1, rfl⟩ := Option.map_eq_some_iff.mp e
        obtain ⟨t, e2, ty⟩ := ty_at (K := X.K) (rv_d ra)
        exact ⟨x, .ty T, .type t, .type T, b, rfl, .ty T, ty, kit_ty (isi_kit e1 e2), now rh1 s2 (.d (.bl _))⟩
      | _ => exact s1.elim
/-! ### items, slices -/
theorem e_ix (hu : X.A.units + 64 < cLine) (ha : PE X a (tE X W A.e)) (hb : PE X b (tE X W B.e)) (hs : PlainIx b) : PE X (.Subscript a b pos) (tE X W (two A B ixv).e) := (pe_ix (ix_iw hu) ha hb hs).imp fun _ _ _ => t_two
theorem o_nop (cf : Str → List PV → Hs → R PV) (k : Nat) : PO X none (tO X W (den cf k .nop).o) := po_none.imp fun σ H Q ⟨m, p, hh, rs, rh, hs⟩ => now rh hs rfl
theorem o_some (ha : PE X a (tE X W A.e)) : PO X (some a) (tO X W (oOf A.e)) := (po_some ha).imp fun σ H Q ⟨m, p, hh, rs, rh, hs⟩ => (tE.bind1 rs rh hs).mono fun x H1 ⟨m1, a, h1, _, rs1, rh1, ra, s1⟩ => by
  rcases a with (_|_|i|_|_|_|_) | _ | _ <;> first | exact s1.elim | skip
  exact ⟨i, rv_int ra, now rh1 s1 rfl⟩
abbrev sliceE (A : Dn) (L U : Sg → Hs → R (Option Int)) : Sg → Hs → R PV := fun σ h => (A.e σ h).bind fun x h1 => (L σ h1).bind fun l h2 => (U σ h2).bind fun u h3 => slice x l u h3
theorem e_sl {lo hi : Option Expr} {L U : Sg → Hs → R (Option Int)} {p2 : Pos} (ha : PE X a (tE X W A.e)) (hl : PO X lo (tO X W L)) (hu : PO X hi (tO X W U)) : PE X (.Subscript a (.Slice lo hi none p2) pos) (tE X W (sliceE A L U)) :=
  (pe_slice sl_iw ha hl hu).imp fun σ H Q ⟨m, p, hh, rs, rh, hs⟩ => (tE.bind1 rs rh hs).mono fun x H1 ⟨m1, a, h1, _, rs1, rh1, ra, s1⟩ => (tO.bind1 rs1 rh1 s1).mono fun l H2 ⟨m2, h2, e2, rs2, rh2, s2⟩ => (tO.bind1 rs2 rh2 s2).mono fun u H3 ⟨m3, h3, e3, rs3, rh3, s3⟩ =>
    ⟨_, m3, h3, a, rh3, (ra.evo e2).evo e3, s3⟩
end
end Iw
end

section
set_option Elab.async false
set_option linter.all false
set_option maxRecDepth 100000
/-! method calls: append, extend, pop, get; {} -/
namespace Iw
open PySem PySem.Spec PyProof.Rows L2
section
variable {X : Cx} {W : WX} {a b c o e : Expr} {es : List Expr} {A B C : Dn} {pos apos cpos : Pos}
theorem lst_at {K : PySem.W.Frag} {m : Mp} {H : Hp} {h : Hs} (rh : RH K m h H) {v : V} {p : PV} (r : RV K m H v p) (e : lstAt h p = true) : ∃ n a xs vs, p = .ref n ∧ v = .ref a ∧ h[n]? = some (.lst xs) ∧ m.own[n]? = some a ∧ H a = some (.lst vs) ∧ RVs K m H vs xs := by
  cases p with
  | ref n =>
    unfold lstAt at e
    dsimp only at e
    split at e
    · rename_i xs e0
      obtain ⟨a, vs, rfl, h1, h2, h3⟩ := rv_ref rh r e0
      exact ⟨n, a, xs, vs, rfl, rfl, e0, h1, h2, h3⟩
    · cases e
  | _ => cases e
abbrev appE (k : Nat) (A B : Dn) : Sg → Hs → R PV := fun σ h => (A.e σ h).bind fun l h1 => if lstAt h1 l = true then (B.e σ h1).bind fun y h2 => appv k l y h2 else .bad
abbrev extE (k : Nat) (A B : Dn) : Sg → Hs → R PV := fun σ h => (A.e σ h).bind fun l h1 => if lstAt h1 l = true then (B.e σ h1).bind fun y h2 => extv k l y h2 else .bad
theorem wr_lst {K : PySem.W.Frag} {mg : Str → Option Value} {E : Value → Hp → Prop} {m : Mp} {H : Hp} {h : Hs} {α : Type} {Q : α → Hp → Prop} {p : PV} {rel : Mp → Hp → α → PV → Prop} (rh : RH K m h H) {n : Nat} {a : Addr} {u : HO} {ob : Ob} (ha : m.own[n]? = some a) (ro : RO K m H u ob)
    {x : α} (hs : satG mg K E m H rel (.ok p (h.set n ob)) Q) (rx : rel m (upd H a u) x p) : Q x (upd H a u) :=
  hs _ _ _ (rh.wr ha) (rh.write ha (ro.evo (rh.wr ha))) rx
theorem e_app (k : Nat) (ho : PE X o (tE X W A.e)) (he : PE X e (tE X W B.e)) (hbase : attributeBase o "append" X.env (eval o X.env) = eval o X.env)
    (hfew : ((backTo cpos (starEach [e] X.env)).all (fun x => !x.1) && (backToKw cpos (keywordEach [] X.env)).all (fun x => x.1.isSome)
      && decide (([e] : List Expr).length + ([] : List Keyword).length + (if ([] : List Keyword).isEmpty then 0 else 1) < 30)) = true)
    (hline : (apos.endLine == cpos.line) = true) (hst : starEach [e] X.env = (false, eval e X.env) :: starEach [] X.env) : PE X (.Call (.Attribute o "append" apos) [e] [] cpos) (tE X W (appE k A B)) :=
  (pe_bm PySem.F.plainAttrs_list PySem.F.slot_list_append PySem.F.type_list_append mt_append ho (pa_cons he pa_nil hst) hbase hfew hline hst (by rfl)).imp fun σ H Q ⟨m, p, hh, rs, rh, hs⟩ =>
    (tE.bind1 rs rh hs).mono fun x H1 ⟨m1, a, h1, _, rs1, rh1, ra, s1⟩ => by
      obtain ⟨hl, s1⟩ := satG_if s1
      obtain ⟨n, ad, xs, vs, rfl, rfl, e0, e1, e2, e3⟩ := lst_at rh1 ra hl
      refine ⟨.inl ⟨rfl, vs, SqL.of e2⟩, (tE.bind1 rs1 rh1 s1).mono fun y H2 ⟨m2, b, h2, ev2, rs2, rh2, rb, s2⟩ => ?_⟩
      have s2 : satG X.mg X.K (Ex W σ) m2 H2 (RV X.K) (match h2[n]? with
        | some (.lst xs) => if storeOk k n b = true ∧ xs.length < line then .ok (.d .none) (h2.set n (.lst (xs ++ [b]))) else .bad
        | _ => .bad) Q := s2
      split at s2
      · rename_i xs2 q0
        obtain ⟨hc, s2⟩ := satG_if s2
        obtain ⟨a', vs2, q1, q2, q3, q4⟩ := rv_ref rh2 (ra.evo ev2) q0
        cases q1
        refine ⟨_, vs2, y, rfl, rfl, q3, by rw [q4.len, ← line_eq]; exact hc.2, ?_⟩
        exact wr_lst rh2 q2 (.lst (PairedApp q4 (.cons rb .nil))) s2 (.d .non)
      · exact s2.elim
theorem e_ext (k : Nat) (ho : PE X o (tE X W A.e)) (he : PE X e (tE X W B.e)) (hbase : attributeBase o "extend" X.env (eval o X.env) = eval o X.env)
    (hfew : ((backTo cpos (starEach [e] X.env)).all (fun x => !x.1) && (backToKw cpos (keywordEach [] X.env)).all (fun x => x.1.isSome)
      && decide (([e] : List Expr).length + ([] : List Keyword).length + (if ([] : List Keyword).isEmpty then 0 else 1) < 30)) = true)
    (hline : (apos.endLine == cpos.line) = true) (hst : starEach [e] X.env = (false, eval e X.env) :: starEach [] X.env) : PE X (.Call (.Attribute o "extend" apos) [e] [] cpos) (tE X W (extE k A B)) :=
  (pe_bm PySem.F.plainAttrs_list PySem.F.slot_list_extend PySem.F.type_list_extend mt_extend ho (pa_cons he pa_nil hst) hbase hfew hline hst (by rfl)).imp fun σ H Q ⟨m, p, hh, rs, rh, hs⟩ =>
    (tE.bind1 rs rh hs).mono fun x H1 ⟨m1, a, h1, _, rs1, rh1, ra, s1⟩ => by
      obtain ⟨hl, s1⟩ := satG_if s1
      obtain ⟨n, ad, xs, vs, rfl, rfl, e0, e1, e2, e3⟩ := lst_at rh1 ra hl
      refine ⟨.inl ⟨rfl, vs, SqL.of e2⟩, (tE.bind1 rs1 rh1 s1).mono fun y H2 ⟨m2, b, h2, ev2, rs2, rh2, rb, s2⟩ => ?_⟩
      have s2 : satG X.mg X.K (Ex W σ) m2 H2 (RV X.K) (match h2[n]?, getL h2 b with
        | some (.lst xs), some ys => if (ys.all (storeOk k n)) = true ∧ xs.length + ys.length ≤ line then .ok (.d .none) (h2.set n (.lst (xs ++ ys))) else .bad
        | _, _ => .bad) Q := s2
      split at s2
      · rename_i xs2 ys2 q0 g0
        obtain ⟨hc, s2⟩ := satG_if s2
        obtain ⟨a', vs2, q1, q2, q3, q4⟩ := rv_ref rh2 (ra.evo ev2) q0
        cases q1
        obtain ⟨b', ws, rfl, g1, g2⟩ := getL_at rh2 rb g0
        refine ⟨_, b', vs2, ws, rfl, rfl, q3, g1, by rw [q4.len, g2.len, ← line_eq]; exact hc.2, ?_⟩
        exact wr_lst rh2 q2 (.lst (PairedApp q4 g2)) s2 (.d .non)
      · exact s2.elim
theorem e_pop (ho : PE X o (tE X W A.e)) (hbase : attributeBase o "pop" X.env (eval o X.env) = eval o X.env) (hline : (apos.endLine == cpos.line) = true) : PE X (.Call (.Attribute o "pop" apos) [] [] cpos) (tE X W (one A popv).e) :=
  (pe_bm0 PySem.F.plainAttrs_list PySem.F.slot_list_pop PySem.F.type_list_pop mt_pop ho hbase hline).imp fun σ H Q ⟨m, p, hh, rs, rh, hs⟩ =>
    (tE.bind1 rs rh hs).mono fun x H1 ⟨m1, b, h2, _, rs1, rh2, ra, s1⟩ => by
      cases b with
      | ref n =>
        have s1 : satG X.mg X.K (Ex W σ) m1 H1 (RV X.K) (match h2[n]? with
          | some (.lst xs) => match xs[xs.length - 1]? with
            | some y => .ok y (h2.set n (.lst xs.dropLast))
            | none => .bad
          | _ => .bad) Q := s1
        split at s1
        · rename_i xs q0
          obtain ⟨a', vs2, rfl, q2, q3, q4⟩ := rv_ref rh2 ra q0
          split at s1
          · rename_i y ey
            obtain ⟨w, e1, rw1⟩ := PairedGet q4 ey
            refine ⟨.inl ⟨rfl, vs2, SqL.of q3⟩, _, vs2, w, rfl, rfl, q3, by rw [q4.len]; exact e1, ?_⟩
            exact wr_lst rh2 q2 (.lst (PairedDropLast q4)) s1 (rw1.evo (rh2.wr q2))
          · exact s1.elim
        · exact s1.elim
      | _ => exact s1.elim
abbrev dgetE (A B C : Dn) : Sg → Hs → R PV := fun σ h => (A.e σ h).bind fun l h1 => if isDct h1 l = true then (B.e σ h1).bind fun u h2 => (C.e σ h2).bind fun w h3 => dget2v l u w h3 else .bad
theorem isDct_at {K : PySem.W.Frag} {m : Mp} {H : Hp} {h : Hs} (rh : RH K m h H) {v : V} {p : PV} (r : RV K m H v p) (e : isDct h p = true) : ∃ a, v = .ref a ∧ IsD H a := by
  cases p with
  | ref n =>
    unfold isDct at e
    dsimp only at e
    cases r with
    | ref ha =>
      split at e
      · rename_i kvs e0
        obtain ⟨a, u, h1, h2, h3⟩ := rh.at_ n _ e0
        rw [h1] at ha; cases ha
        cases h3 with
        | dK _ => exact ⟨_, rfl, .inl ⟨_, .inl h2⟩⟩
      · rename_i kvs e0
        obtain ⟨a, u, h1, h2, h3⟩ := rh.at_ n _ e0
        rw [h1] at ha; cases ha
        cases h3 with
        | dT _ => exact ⟨_, rfl, .inr ⟨_, .inl h2⟩⟩
      · cases e
  | _ => cases e
theorem e_dget (hu : X.A.units + 64 < cLine) (ho : PE X o (tE X W A.e)) (ha : PE X a (tE X W B.e)) (hb : PE X b (tE X W C.e)) (m2 : M2 X o "get" apos a b cpos) : PE X (.Call (.Attribute o "get" apos) [a, b] [] cpos) (tE X W (dgetE A B C)) :=
  (pe_dget2 (by omega) ho ha hb m2).imp fun σ H Q ⟨m, p, hh, rs, rh, hs⟩ =>
    (tE.bind1 rs rh hs).mono fun x H1 ⟨m1, a, h1, _, rs1, rh1, ra, s1⟩ => by
      obtain ⟨hl, s1⟩ := satG_if s1
      obtain ⟨ad, rfl, isd⟩ := isDct_at rh1 ra hl
      refine ⟨ad, rfl, isd, (tE.bind1 rs1 rh1 s1).mono fun y H2 ⟨m2, b, h2, ev2, rs2, rh2, rb, s2⟩ => (tE.bind1 rs2 rh2 s2).mono fun z H3 ⟨m3, c, h3, ev3, rs3, rh3, rc, s3⟩ => ?_⟩
      cases b with
      | d d =>
        have s3 : satG X.mg X.K (Ex W σ) m3 H3 (RV X.K) (match dgetv h3 a d with
          | some (some v) => .ok v h3
          | some none => .ok c h3
          | none => .bad) Q := s3
        split at s3
        · rename_i v eg
          obtain ⟨a', ov, q1, g, ro⟩ := dget_at rh3 ((ra.evo ev2).evo ev3) (rv_d (rb.evo ev3)) eg
          cases q1
          cases ro with
          | some r => exact ⟨_, g, now rh3 s3 r⟩
        · rename_i eg
          obtain ⟨a', ov, q1, g, ro⟩ := dget_at rh3 ((ra.evo ev2).evo ev3) (rv_d (rb.evo ev3)) eg
          cases q1
          cases ro with
          | none => exact ⟨_, g, now rh3 s3 rc⟩
        · exact s3.elim
      | _ => exact s3.elim
theorem e_dnew (cf : Str → List PV → Hs → R PV) (k : Nat) (t : Bool) : PE X (.Dict [] [] pos) (tE X W (den cf k (.dnew t)).e) := by
  cases t with
  | true =>
    exact pe_dnewT.imp fun σ H Q ⟨m, p, hh, rs, rh, hs⟩ q hq => by
      have hs : satG X.mg X.K (Ex W σ) m H (RV X.K) (.ok (.ref hh.length) (hh ++ [.dT []])) Q := hs
      refine hs _ _ _ (Evo.alloc rh hq) (rh.alloc hq (.dT .nil)) (.ref ?_)
      rw [← rh.len]; simp
  | false =>
    exact pe_dnewK.imp fun σ H Q ⟨m, p, hh, rs, rh, hs⟩ q hq => by
      have hs : satG X.mg X.K (Ex W σ) m H (RV X.K) (.ok (.ref hh.length) (hh ++ [.dK []])) Q := hs
      refine hs _ _ _ (Evo.alloc rh hq) (rh.alloc hq (.dK .nil)) (.ref ?_)
      rw [← rh.len]; simp
theorem e_rev {k : Nat} {p1 p2 p3 : Pos} (ha : PE X a (tE X W A.e)) : PE X (.Subscript a (.Slice none none (some (.UnaryOp .USub (.Constant (.int 1) k p1) p2)) p3) pos) (tE X W (one A revv).e) :=
  (pe_revL ha).imp fun σ H Q ⟨m, p, hh, rs, rh, hs⟩ => (tE.bind1 rs rh hs).mono fun x H1 ⟨m1, a, h1, _, rs1, rh1, ra, s1⟩ => by
    have s1 : satG X.mg X.K (Ex W σ) m1 H1 (RV X.K) (match getL h1 a with
      | some xs => mkL false xs.reverse h1
      | none => .bad) Q := s1
    cases e : getL h1 a with
    | none => rw [e] at s1; exact s1.elim
    | some xs =>
      rw [e] at s1
      obtain ⟨ad, vs, rfl, g1, g2⟩ := getL_at rh1 ra e
      exact ⟨ad, vs, rfl, SqL.of g1, fun q hq => newMk rh1 s1 (PairedRev g2) hq⟩
theorem rgD_at {m : Mp} {H : Hp} : ∀ (n : Nat) (lo : Int), RpA m H ((List.range n).map fun i => V.int (lo + (i : Nat))) (rngD lo n)
  | 0, lo => .nil
  | n + 1, lo => by
    have e : (List.range (n + 1)).map (fun i => V.int (lo + (i : Nat))) = V.int lo :: (List.range n).map fun i => V.int (lo + 1 + (i : Nat)) := by
      rw [List.range_succ_eq_map, List.map_cons, List.map_map]
      congr 1
      · simp
      · refine List.map_congr_left fun i _ => ?_
        show V.int (lo + ((i + 1 : Nat) : Int)) = _
        congr 1; omega
    rw [e]
    exact .cons (.int lo) (rgD_at n (lo + 1))
theorem rg_done {K : PySem.W.Frag} {mg : Str → Option Value} {E : Value → Hp → Prop} {m : Mp} {H : Hp} {h : Hs} {tp mt : Bool} {u v : PV} {x y : V} {Q : VK} (rh : RH K m h H) (ru : RV K m H x u) (rv : RV K m H y v) (hs : satG mg K E m H (RV K) (rngv tp mt u v h) Q) :
    ∃ i j, x = .int i ∧ y = .int j ∧ RgOk i j ∧ ∀ q, H q = none → Q (.ref q) (upd H q (if tp = true then .tup (rgV i j) else .lst (rgV i j))) := by
  rcases u with (_|_|i|_|_|_|_) | _ | _ <;> first | exact hs.elim | skip
  rcases v with (_|_|j|_|_|_|_) | _ | _ <;> first | exact hs.elim | skip
  cases rv_int ru
  cases rv_int rv
  unfold rngv at hs
  dsimp only at hs
  obtain ⟨hl, hs⟩ := satG_if hs
  have tl : (line : Int) = 16777216 := rfl
  have tl2 : line = 16777216 := rfl
  refine ⟨i, j, rfl, rfl, ⟨by omega, by omega, by omega, by omega, by omega⟩, fun q hq => ?_⟩
  cases tp with
  | true => exact newTup rh hs (rgD_at _ _) hq
  | false => exact newMk rh hs (rgD_at _ _).rvs hq
theorem e_lsR1 (cf : Str → List PV → Hs → R PV) (k : Nat) (tp mt : Bool) {x : Str} {p p2 pos2 : Pos} (hx : x = if tp = true then "tuple" else "list") (hc : X.calm = true) (hgl : Gl X x) (hml : X.mg x = none) (hg : Gl X "range") (hm : X.mg "range" = none) (ha : PE X a (tE X W A.e)) (na : starEach [a] X.env = (false, eval a X.env) :: starEach [] X.env) :
    PE X (.Call (.Name x p) [.Call (.Name "range" p2) [a] [] pos2] [] pos) (tE X W (two (den cf k (.lit (.int 0))) A (rngv tp mt)).e) := by
  subst hx
  have go : ∀ σ H Q, tE X W (two (den cf k (.lit (.int 0))) A (rngv tp mt)).e σ H Q → tE X W A.e σ H fun x H1 => ∃ n, x = .int n ∧ RgOk 0 n ∧ ∀ q, H1 q = none → Q (.ref q) (upd H1 q (if tp = true then .tup (rgV 0 n) else .lst (rgV 0 n))) := fun σ H Q ⟨m, p, hh, rs, rh, hs⟩ => by
    have hs : satG X.mg X.K (Ex W σ) m H (RV X.K) ((A.e p hh).bind fun y h2 => rngv tp mt (.d (.int 0)) y h2) Q := hs
    refine (tE.bind1 rs rh hs).mono fun x H1 ⟨m1, a, h1, _, rs1, rh1, ra, s1⟩ => ?_
    obtain ⟨i, j, e1, rfl, h2, h3⟩ := rg_done (x := .int 0) rh1 (.d (.int 0)) ra s1
    cases e1
    exact ⟨j, rfl, h2, h3⟩
  cases tp with
  | true => exact (pe_tupRg hc hgl hml (prg_1 hg hm ha na) (by rfl)).imp go
  | false => exact (pe_listRg hc hgl hml (prg_1 hg hm ha na) (by rfl)).imp go
theorem e_lsR2 (tp mt : Bool) {x : Str} {p p2 pos2 : Pos} (hx : x = if tp = true then "tuple" else "list") (hc : X.calm = true) (hgl : Gl X x) (hml : X.mg x = none) (hg : Gl X "range") (hm : X.mg "range" = none) (ha : PE X a (tE X W A.e)) (hb : PE X b (tE X W B.e)) (na : starEach [a, b] X.env = (false, eval a X.env) :: starEach [b] X.env) (nb : starEach [b] X.env = (false, eval b X.env) :: starEach [] X.env) (hp : (backTo pos2 (starEach [b] X.env)).any (·.1) = false) :
    PE X (.Call (.Name x p) [.Call (.Name "range" p2) [a, b] [] pos2] [] pos) (tE X W (two A B (rngv tp mt)).e) := by
  subst hx
  have go : ∀ σ H Q, tE X W (two A B (rngv tp mt)).e σ H Q → tE X W A.e σ H fun x H1 => tE X W B.e σ H1 fun y H2 => ∃ i j, x = .int i ∧ y = .int j ∧ RgOk i j ∧ ∀ q, H2 q = none → Q (.ref q) (upd H2 q (if tp = true then .tup (rgV i j) else .lst (rgV i j))) := fun σ H Q ⟨m, p, hh, rs, rh, hs⟩ =>
    (tE.bind1 rs rh hs).mono fun x H1 ⟨m1, a, h1, _, rs1, rh1, ra, s1⟩ => (tE.bind1 rs1 rh1 s1).mono fun y H2 ⟨m2, b, h2, e2, rs2, rh2, rb, s2⟩ => rg_done rh2 (ra.evo e2) rb s2
  cases tp with
  | true => exact (pe_tupRg hc hgl hml (prg_2 hg hm ha hb na nb hp) (by rfl)).imp go
  | false => exact (pe_listRg hc hgl hml (prg_2 hg hm ha hb na nb hp) (by rfl)).imp go
abbrev idxE (A B : Dn) : Sg → Hs → R PV := fun σ h => (A.e σ h).bind fun l h1 => if isFz l = true then (B.e σ h1).bind fun y h2 => idxv l y h2 else .bad
mutual
theorem Rp.dp {K : PySem.W.Frag} {m : Mp} {H : Hp} : ∀ {v : V} {d : PyData}, Rp m H v d → Dp K H v d
  | _, _, .non => .non
  | _, _, .bl b => .bl b
  | _, _, .int i => .int i
  | _, _, .str x => .str x
  | _, _, .lst h _ r => .lst (SqL.of h) (RpA.dp r)
  | _, _, .tup h _ r => .tup (SqT.of h) (RpA.dp r)
theorem RpA.dp {K : PySem.W.Frag} {m : Mp} {H : Hp} : ∀ {vs : List V} {ds : List PyData}, RpA m H vs ds → DpAll K H vs ds
  | _, _, .nil => .nil
  | _, _, .cons r t => .cons (Rp.dp r) (RpA.dp t)
end
theorem e_idx (hu : X.A.units + 70 < cLine) (ho : PE X o (tE X W A.e)) (he : PE X e (tE X W B.e)) (hbase : attributeBase o "index" X.env (eval o X.env) = eval o X.env)
    (hfew : ((backTo cpos (starEach [e] X.env)).all (fun x => !x.1) && (backToKw cpos (keywordEach [] X.env)).all (fun x => x.1.isSome)
      && decide (([e] : List Expr).length + ([] : List Keyword).length + (if ([] : List Keyword).isEmpty then 0 else 1) < 30)) = true)
    (hline : (apos.endLine == cpos.line) = true) (hst : starEach [e] X.env = (false, eval e X.env) :: starEach [] X.env) : PE X (.Call (.Attribute o "index" apos) [e] [] cpos) (tE X W (idxE A B)) :=
  (pe_bm PySem.F.plainAttrs_list PySem.F.slot_list_index PySem.F.type_list_index (mt_indexD (by omega)) ho (pa_cons he pa_nil hst) hbase hfew hline hst (by rfl)).imp fun σ H Q ⟨m, p, hh, rs, rh, hs⟩ =>
    (tE.bind1 rs rh hs).mono fun x H1 ⟨m1, a, h1, _, rs1, rh1, ra, s1⟩ => by
      obtain ⟨hl, s1⟩ := satG_if s1
      rcases a with (_|_|_|_|ds|_|_) | _ | _ <;> first | (cases hl; done) | skip
      obtain ⟨ad, vs, rfl, e2, _, _⟩ := rv_lst ra
      refine ⟨.inl ⟨rfl, vs, SqL.of e2⟩, (tE.bind1 rs1 rh1 s1).mono fun y H2 ⟨m2, b, h2, ev2, rs2, rh2, rb, s2⟩ => ?_⟩
      rcases b with d | _ | _ <;> first | exact s2.elim | skip
      obtain ⟨hc, s2⟩ := satG_if (show satG X.mg X.K (Ex W σ) m2 H2 (RV X.K) (if (SeqAt.shaped (.list ds) && SeqAt.shaped d) = true then R.of ((ds.findIdx? fun z => PyData.eqv z d).map fun j : Nat => Iw.int j) h2 else .bad) Q from s2)
      obtain ⟨z, e3, s3⟩ := satG_of s2
      obtain ⟨j, e4, rfl⟩ := Option.map_eq_some_iff.mp e3
      obtain ⟨hj, h5, h6⟩ := List.findIdx?_eq_some_iff_getElem.mp e4
      simp only [Bool.and_eq_true] at hc
      refine ⟨ad, y, d, ds, j, ds[j], rfl, rfl, (rv_d (ra.evo ev2)).dp, (rv_d rb).dp, hc.1, hc.2, List.getElem?_eq_getElem hj, h5, fun n z' hn hz => ?_, now rh2 s3 (.d (.int _))⟩
      obtain ⟨q1, q2⟩ := List.getElem?_eq_some_iff.mp hz
      have := h6 n hn
      rw [q2] at this
      simpa using this
end
end Iw
end

section
set_option Elab.async false
set_option linter.all false
set_option maxRecDepth 100000
/-! enumerate over a tuple (a list): the pair's own turn -/
namespace Iw
open PySem PySem.Spec PyProof.Rows L2
set_option maxHeartbeats 1000000 in
theorem meets_enum1 {v : Value} {o : Obj} {H : Heap → Prop} (B : Begins v o H) :
    Meets (Builtin.«enumerate.__new__» ⟨[.type "enumerate", v], []⟩) (fun _ R s => H s.heap ∧
      R (.ok (.ret (.ref (s.heap.push o).objs.size))) { s with heap := (s.heap.push o).push { cls := .type "enumerate", data := .fields #[.none, .bool false, .ref s.heap.objs.size, rawInt 0, .none, .none] } }) :=
  .of_wp fun prog w A R s h => by
    obtain ⟨hp, g, d, tk, os⟩ := s; obtain ⟨h1, h⟩ := h
    have hsub := sub_enumerate
    have q1 : ∀ {A' : Around} {E : Value → Shared → Prop} {Q : Value → Shared → Prop}, Q (.ref hp.objs.size) ⟨hp.push o, g, d, tk, os⟩ → wpAny (model prog w) A' (pyIter v) Q E ⟨hp, g, d, tk, os⟩ :=
      fun q => B.iter prog w _ _ ⟨hp, g, d, tk, os⟩ _ h1 q
    wp_walk using q1
    refine wpAny_stack_any fun st => wpAny_pure ?_
    split
    · rename_i c _ _ _ _ _
      cases (c == Value.type "enumerate")
      · wp_walk using q1
        exact ⟨_, rfl, h⟩
      · wp_walk using q1
        exact ⟨_, rfl, h⟩
    · wp_walk using q1
      exact ⟨_, rfl, h⟩
theorem call_enum1 {prog : Program} {w : World} {A : Around} {E : Value → Shared → Prop} {s : Shared} {v : Value} {o : Obj} {H : Heap → Prop} {Q : Value → Shared → Prop} (B : Begins v o H) (h1 : H s.heap)
    (h : ∀ h', IsEnum h' (s.heap.objs.size + 1) s.heap.objs.size 0 .none → h'.get? s.heap.objs.size = some o → h'.objs.size = s.heap.objs.size + 2 →
      (∀ b o, s.heap.get? b = some o → h'.get? b = some o) → Q (.ref (s.heap.objs.size + 1)) { s with heap := h' }) :
    wpAny (model prog w) A (call (.type "enumerate") [v]) Q E s := by
  refine callType_new F.called_enumerate (by decide) (F.typeCall_enumerate_1 _) (F.newCall_enumerate_1 _) (fun obj => F.args_object_init_2 obj _) F.entry_enumerate_new
    (meets_enum1 B) ⟨h1, ?_⟩
  have hz : (s.heap.push o).objs.size = s.heap.objs.size + 1 := Heap.size_push ..
  show _ ∧ _
  rw [hz]
  have he : IsEnum ((s.heap.push o).push { cls := .type "enumerate", data := .fields #[.none, .bool false, .ref s.heap.objs.size, rawInt 0, .none, .none] }) (s.heap.objs.size + 1) s.heap.objs.size 0 .none := by
    have := Heap.get?_push_size (s.heap.push o) (o := { cls := .type "enumerate", data := .fields #[.none, .bool false, .ref s.heap.objs.size, rawInt 0, .none, .none] }) rfl
    rw [hz] at this; exact this
  refine ⟨⟨_, he, rfl⟩, h _ he (Heap.get?_push_of_some _ (Heap.get?_push_size _ B.free)) (by rw [Heap.size_push, hz]) fun b o x => Heap.get?_push_of_some _ (Heap.get?_push_of_some _ x)⟩
theorem wpAny_pyNext_enum_endT {prog : Program} {w : World} {A : Around} {E : Value → Shared → Prop} {s : Shared} {e it a : Addr} {j : Nat} {items : Array Value} {i : Int} {old : Value} {Q : Option Value → Shared → Prop}
    (hh : A.handled = none) (he : IsEnum s.heap e it i old) (hit : s.heap.IsTupleIter it a j) (ht : s.heap.IsTuple a items) (hx : items[j]? = none)
    (hQ : ∀ h', Heap.ExtBut it s.heap h' → Q none { s with heap := h' }) : wpAny (model prog w) A (pyNext (.ref e)) Q E s := by
  have hT : s.TypeIs (.ref e) "enumerate" := ⟨_, he, rfl⟩
  unfold pyNext
  refine wpAny_bind (wpAny_attempt (wpAny_callSpecial?_slot (name := Str.ofString "__next__") hT F.slot_enumerate_next
    (wpAny_call_entry F.slot_enumerate_next hT F.entry_enumerate_next ?_ (F.args_enumerate_next_1 _))))
  show wpAny _ _ (field (.ref e) 2 >>= _) _ _ _
  refine wpAny_bind (wpAny_field he rfl (x := .ref it) rfl ?_)
  refine wpAny_bind (wpAny_nextOf_tuple_end hh hit ht hx fun h' x he' hx' => ?_)
  obtain ⟨o, ho, hc⟩ := hx'
  refine wpAny_bind (wpAny_isInstance (T := "StopIteration") (b := true) ⟨o, ho, hc⟩ isSubtype_stop ?_)
  exact wpAny_pure (hQ _ he')
/-- the tuple at a, each item in a new pair -/
def IteT (K : PySem.W.Frag) (a : Addr) : L2.It :=
  ⟨fun i H => ∃ (xs : List V) (x : V), SqT K H a xs ∧ xs[i]? = some x, fun i H v H' => ∃ T x, v = .ref T ∧ H T = none ∧ H' = upd H T (.tup [.int (i : Nat), x]) ∧ ∀ xs, SqT K H a xs → xs[i]? = some x, fun i H => ∃ xs : List V, SqT K H a xs ∧ xs.length ≤ i⟩
theorem turn_enumT {P : Program} {w : World} {K : PySem.W.Frag} {elts : List Expr} {kk : Nat} {tpos : Pos} (a e it : Addr) (hea : e ≠ a) (hai : a ≠ it) :
    Turn P w K (.Tuple elts kk tpos) (IteT K a) [e, it] e (fun i h => (∃ old, IsEnum h e it ((i : Nat) : Int) old) ∧ h.IsTupleIter it a i ∧ e ≠ it) where
  mem := by simp
  obj := fun i h st b hb => by
    obtain ⟨⟨old, he⟩, ⟨o, ho, hc, hd⟩, _⟩ := st
    have e' : b = e ∨ b = it := by simpa using hb
    rcases e' with z | z
    · rw [z]; exact ⟨_, he, fun v q => nomatch q⟩
    · rw [z]; exact ⟨o, ho, fun v q => by rw [hd] at q; cases q⟩
  keep := fun i h h' st k => let ⟨⟨old, he⟩, hi, hne⟩ := st; ⟨⟨old, k e (by simp) _ he⟩, hi.at fun o q => k it (by simp) o q, hne⟩
  item := by
    intro X hP hw hK hc i pins s σ H E I hf st hg
    subst hP hw hK
    obtain ⟨⟨old, he⟩, hit, hne⟩ := st
    obtain ⟨xs, x, hq, hx⟩ := hg
    obtain ⟨its, rv, p, hz⟩ := I.tuple hq
    obtain ⟨u, hu, ru⟩ := rv.get hx
    have hel : e < s.heap.objs.size := Heap.lt_size he
    have hil : it < s.heap.objs.size := by obtain ⟨_, q, _⟩ := hit; exact Heap.lt_size q
    have hil2 : i < its.length := (List.getElem?_eq_some_iff.mp hu).1
    have D : Draws X.prog X.w X.A.in1 it [it, a] its.toArray.size (fun i v => its.toArray[i]? = some v) (fun i h => h.IsTupleIter it a i ∧ h.IsTuple a its.toArray) := Draws.tuple (A := X.A.in1) (show X.A.handled = none from I.ok.hd hc) it a hai its.toArray
    have hst0 : (fun i h => Heap.IsTupleIter h it a i ∧ Heap.IsTuple h a its.toArray) i s.heap := ⟨hit, p⟩
    refine wpAny_pyNext_enum_itemD D he hst0 (by simpa using hil2) hne (by simp [hne, hea]) fun y h' tk hy ho hst' hT hsz hk => ?_
    have hy : its.toArray[i]? = some y := hy
    have : y = u := by
      have z : its[i]? = some y := by simpa using hy
      rw [hu] at z; exact (Option.some.inj z).symm
    subst this
    have hit' : h'.IsTupleIter it a (i + 1) := hst'.1
    refine ⟨_, rfl, wpAny_letOwnedTupleGo_enum (s := { s with heap := h', toks := tk + 1 }) ho fun h'' he' sb => ?_⟩
    have hT2 : h''.get? s.heap.objs.size = some { cls := .type "tuple", data := .seq #[.int i tk, y] } := (sb.2 _ (Nat.ne_of_gt hel)).trans hT
    have new : ObjOk X.prog X.w (upd H s.heap.objs.size (.tup [.int (i : Nat), x])) h'' s.heap.objs.size (.tup [.int (i : Nat), x]) :=
      ⟨by show 2 ≤ sizeLine; decide, [.int i tk, y], .cons ⟨_, rfl⟩ (.cons ru .nil), ⟨_, hT2, rfl, _, rfl⟩⟩
    have I1 : Inv X pins σ (upd H s.heap.objs.size (.tup [.int (i : Nat), x])) { s with heap := h'', toks := tk + 1 } :=
      I.turnedNew (ch := [e, it]) (fun b ob hb q => (sb.2 b (fun z => hb (by simp [z]))).trans (hk b ob (fun z => hb (by simp [z])) (fun z => hb (by simp [z])) q)) hf (Nat.le_refl _) new
    refine ⟨.ref s.heap.objs.size, _, I1, rfl, ⟨_, x, rfl, I.hok.fresh (Nat.le_refl _), rfl, fun ys hy => by rw [I.tuple_inj hy hq]; exact hx⟩, ⟨⟨y, ?_⟩, hit'.at fun o q => (sb.2 it (Ne.symm hne)).trans q, hne⟩, fun b hb => ?_⟩
    · have e1 : ((i + 1 : Nat) : Int) = (i : Int) + 1 := by omega
      rw [e1]; exact he'
    · have hb' : b < s.heap.objs.size := by
        have e' : b = e ∨ b = it := by simpa using hb
        rcases e' with z | z
        · rw [z]; exact hel
        · rw [z]; exact hil
      rw [upd_ne (Nat.ne_of_lt hb')]
      exact (hf b hb).1
  done := by
    intro X hP hw hK hc i pins s σ H E I hf st hg
    subst hP hw hK
    obtain ⟨⟨old, he⟩, hit, hne⟩ := st
    obtain ⟨xs, hq, hx⟩ := hg
    obtain ⟨its, rv, p, hz⟩ := I.tuple hq
    obtain ⟨f0, f1, f2, f3, f4, f5⟩ := hf it (by simp)
    have hl := rv.length
    refine wpAny_pyNext_enum_endT (I.ok.hd hc) he hit p (by simp; omega) fun h' eb => ⟨rfl, I.turned (t' := s.toks) (fun b o hb q => eb b o hb q) f0 f1 f3 f4 f5⟩
  self := fun A i s Q E st h => let ⟨⟨_, he⟩, _⟩ := st; wpAny_pyIter_enum he h
def iEnumA (K : PySem.W.Frag) (ta : TA) : TI := fun σ H R => ta σ H fun vs H1 => ∃ a xs, vs = [.ref a] ∧ ((SqL K H1 a xs ∧ R (Ite K a) H1) ∨ (SqT K H1 a xs ∧ R (IteT K a) H1))
theorem pi_enumA {X : Cx} {e : Expr} {ta : TA} {p pos tpos : Pos} {elts : List Expr} {kk : Nat} (hg : Gl X "enumerate") (hm : X.mg "enumerate" = none) (ha : PA X [e] ta) (hs : starEach [e] X.env = [(false, eval e X.env)] := by rfl) :
    PI X (.Tuple elts kk tpos) (.Call (.Name "enumerate" p) [e] [] pos) (iEnumA X.K ta) := by
  refine ⟨fun pins s σ H R I h => ?_⟩
  refine Call_ (ld_blt I hg hm boot_enumerate (PyProof.Rows.callWith_type1 (thn (ha.run pos pins s σ H _ I h) fun us s1 ⟨vs, H1, I1, r1, q1⟩ => ?_) hs rfl))
  obtain ⟨a, xs, ex, q⟩ := q1
  subst ex
  cases r1 with
  | cons r rr =>
    cases rr
    cases r
    have fp : ∀ b ∈ [s1.heap.objs.size + 1, s1.heap.objs.size], FpOk X pins H1 b := fun b hb => by
      have e' : b = s1.heap.objs.size + 1 ∨ b = s1.heap.objs.size := by simpa using hb
      have hle : s1.heap.objs.size ≤ b := by
        rcases e' with z | z
        · rw [z]; exact Nat.le_add_right _ _
        · rw [z]; exact Nat.le_refl _
      exact I1.fpOk hle (I1.hok.fresh hle)
    rcases q with ⟨hq, q⟩ | ⟨hq, q⟩
    · obtain ⟨its, rv, p', hz⟩ := I1.list hq
      refine call_enumerate_list p'.isList fun h' he hit hsz hk => wpAny_pyIter_enum he ?_
      have I2 : Inv X pins σ H1 { s1 with heap := h' } := I1.kept (t' := s1.toks) hk
      exact ⟨s1.heap.objs.size + 1, [s1.heap.objs.size + 1, s1.heap.objs.size], _, _, H1, rfl, I2, turn_enum a (s1.heap.objs.size + 1) s1.heap.objs.size, ⟨⟨.none, he⟩, hit, Nat.succ_ne_self _⟩, fp, q⟩
    · obtain ⟨its, rv, p', hz⟩ := I1.tuple hq
      have al : a < s1.heap.objs.size := p'.lt
      refine call_enum1 (begins_tuple a its.toArray) (show s1.heap.IsTuple a its.toArray from p') fun h' he hit hsz hk => wpAny_pyIter_enum he ?_
      have I2 : Inv X pins σ H1 { s1 with heap := h' } := I1.kept (t' := s1.toks) hk
      exact ⟨s1.heap.objs.size + 1, [s1.heap.objs.size + 1, s1.heap.objs.size], _, _, H1, rfl, I2, turn_enumT a (s1.heap.objs.size + 1) s1.heap.objs.size (Nat.ne_of_gt (Nat.lt_succ_of_lt al)) (Nat.ne_of_lt al), ⟨⟨.none, he⟩, ⟨_, hit, rfl, rfl⟩, Nat.succ_ne_self _⟩, fp, q⟩
theorem walk_enumT {K : PySem.W.Frag} {a : Addr} {xs : List V} : Walk (IteT K a) xs.length (fun H => SqT K H a xs) (YPair (fun i => some (.int (i : Nat))) (fun i => xs[i]?)) := by
  refine ⟨fun i _ hi q => ⟨xs, xs[i], q, by simp [hi]⟩, fun _ q => ⟨xs, q, Nat.le_refl _⟩, fun i H v H' _ q y => ?_⟩
  obtain ⟨T, x, h1, h2, h3, h4⟩ := y
  exact ⟨T, .int (i : Nat), x, h1, h2, h3, rfl, h4 xs q⟩
end Iw
end

section
set_option Elab.async false
set_option linter.all false
set_option maxRecDepth 100000
/-! what is walked -/
namespace Iw
open PySem PySem.Spec PyProof.Rows L2
/-- J gives just xs, from here on -/
structure Serves (K : PySem.W.Frag) (m : Mp) (H : Hp) (J : L2.It) (xs : List PV) : Prop where
  goes : ∀ i m' H', Evo m H m' H' → i < xs.length → J.go i H'
  stops : ∀ m' H', Evo m H m' H' → J.stop xs.length H'
  yields : ∀ i m' H' h' v H'', Evo m H m' H' → RH K m' h' H' → J.yld i H' v H'' → i < xs.length → ∃ x, xs[i]? = some x ∧ Evo m' H' m' H'' ∧ RH K m' h' H'' ∧ RV K m' H'' v x
def itRel (K : PySem.W.Frag) (m : Mp) (H : Hp) (J : L2.It) : Iw.It → Prop
  | .fx xs => Serves K m H J xs
  | .lv n => ∃ a, m.own[n]? = some a ∧ J = Itl K a
section
variable {K : PySem.W.Frag} {m : Mp} {H : Hp} {h : Hs}
theorem Serves.list {a : Addr} {vs : List V} {ds : List PyData} (ha : H a = some (.lst vs)) (n : a ∉ m) (r : RpA m H vs ds) : Serves K m H (Itl K a) (ds.map .d) := by
  have hl : (ds.map PV.d).length = vs.length := by rw [List.length_map, r.length]
  refine ⟨fun i m' H' e hi => ⟨vs, vs[i]'(by omega), SqL.of (e.kp _ _ ha n).1, by simp⟩, fun m' H' e => ⟨vs, SqL.of (e.kp _ _ ha n).1, by omega⟩, fun i m' H' h' v H'' e rh y hi => ?_⟩
  obtain ⟨rfl, y⟩ := y
  have e1 := y vs (SqL.of (e.kp _ _ ha n).1)
  have hd : ds[i]? = some (ds[i]'(by simpa using hi)) := by simp
  obtain ⟨w, e2, rw1⟩ := (r.evo e).get hd
  rw [e1] at e2; cases e2
  exact ⟨_, by rw [List.getElem?_map, hd]; rfl, .refl, rh, .d rw1⟩
theorem Serves.tup {a : Addr} {vs : List V} {ds : List PyData} (ha : H a = some (.tup vs)) (n : a ∉ m) (r : RpA m H vs ds) : Serves K m H (Itt K a) (ds.map .d) := by
  have hl : (ds.map PV.d).length = vs.length := by rw [List.length_map, r.length]
  refine ⟨fun i m' H' e hi => ⟨vs, vs[i]'(by omega), SqT.of (e.kp _ _ ha n).1, by simp⟩, fun m' H' e => ⟨vs, SqT.of (e.kp _ _ ha n).1, by omega⟩, fun i m' H' h' v H'' e rh y hi => ?_⟩
  obtain ⟨rfl, y⟩ := y
  have e1 := y vs (SqT.of (e.kp _ _ ha n).1)
  have hd : ds[i]? = some (ds[i]'(by simpa using hi)) := by simp
  obtain ⟨w, e2, rw1⟩ := (r.evo e).get hd
  rw [e1] at e2; cases e2
  exact ⟨_, by rw [List.getElem?_map, hd]; rfl, .refl, rh, .d rw1⟩
theorem Serves.scr {a : Addr} {ns : List Int} (sc : Scr K m H a (ns.map V.int)) : Serves K m H (Itl K a) (ns.map Iw.int) := by
  refine ⟨fun i m' H' e hi => ⟨_, .int (ns[i]'(by simpa using hi)), (sc.evo e).sq, by simp [List.getElem?_eq_getElem (show i < ns.length by simpa using hi)]⟩, fun m' H' e => ⟨_, (sc.evo e).sq, by simp⟩, fun i m' H' h' v H'' e rh y hi => ?_⟩
  obtain ⟨rfl, y⟩ := y
  have e1 := y _ (sc.evo e).sq
  have hi : i < ns.length := by simpa using hi
  rw [List.getElem?_map, List.getElem?_eq_getElem hi] at e1
  cases e1
  exact ⟨.d (.int ns[i]), by rw [List.getElem?_map, List.getElem?_eq_getElem hi]; rfl, .refl, rh, .d (.int _)⟩
theorem rngL_len : ∀ (n : Nat) (lo : Int), (rngL lo n).length = n
  | 0, _ => rfl
  | n + 1, lo => congrArg (· + 1) (rngL_len n (lo + 1))
theorem rngL_get : ∀ (n : Nat) (lo : Int) (i : Nat), i < n → (rngL lo n)[i]? = some (Iw.int (lo + i))
  | 0, _, _, h => absurd h (Nat.not_lt_zero _)
  | n + 1, lo, 0, _ => by simp [rngL]
  | n + 1, lo, i + 1, h => by
    show (rngL (lo + 1) n)[i]? = _
    rw [rngL_get n (lo + 1) i (by omega), show lo + 1 + (i : Int) = lo + ((i + 1 : Nat) : Int) by omega]
theorem Serves.rng (lo : Int) (n : Nat) : Serves K m H (Itr lo n) (rngL lo n) :=
  ⟨fun i m' H' e hi => by rw [rngL_len] at hi; exact hi, fun m' H' e => by rw [rngL_len]; exact Nat.le_refl n, fun i m' H' h' v H'' e rh y hi => by
    rw [rngL_len] at hi
    obtain ⟨rfl, rfl⟩ := y
    exact ⟨_, rngL_get n lo i hi, .refl, rh, .d (.int _)⟩⟩
theorem pairs_len : ∀ xs ys : List PyData, (pairs xs ys).length = min xs.length ys.length
  | [], _ => by simp [pairs]
  | _ :: _, [] => by simp [pairs]
  | x :: xs, y :: ys => by simp only [pairs, List.length_cons, pairs_len xs ys]; omega
theorem pairs_get : ∀ (xs ys : List PyData) (i : Nat) (x y : PyData), xs[i]? = some x → ys[i]? = some y → (pairs xs ys)[i]? = some (.d (.tuple [x, y]))
  | [], _, _, _, _, e, _ => by simp at e
  | _ :: _, [], _, _, _, _, e => by simp at e
  | a :: xs, b :: ys, 0, x, y, e1, e2 => by
    simp at e1 e2
    subst e1 e2
    rfl
  | a :: xs, b :: ys, i + 1, x, y, e1, e2 => by
    show (pairs xs ys)[i]? = _
    exact pairs_get xs ys i x y (by simpa using e1) (by simpa using e2)
theorem new_pair {m' : Mp} {H' : Hp} {h' : Hs} {T : Addr} {x y : V} {dx dy : PyData} (rh : RH K m' h' H') (hT : H' T = none) (rx : Rp m' H' x dx) (ry : Rp m' H' y dy) : Evo m' H' m' (upd H' T (.tup [x, y])) ∧ RH K m' h' (upd H' T (.tup [x, y])) ∧ RV K m' (upd H' T (.tup [x, y])) (.ref T) (.d (.tuple [dx, dy])) := by
  have ev : Evo m' H' m' (upd H' T (.tup [x, y])) := Evo.new rh hT
  exact ⟨ev, rh.new hT, .d (.tup upd_same (rh.fresh hT) (.cons (rx.evo ev) (.cons (ry.evo ev) .nil)))⟩
theorem Serves.zipL {a b : Addr} {xs ys : List V} {ds es : List PyData} (ha : H a = some (.lst xs)) (na : a ∉ m) (ra : RpA m H xs ds) (hb : H b = some (.lst ys)) (nb : b ∉ m) (rb : RpA m H ys es) : Serves K m H (Itz K a b) (pairs ds es) := by
  have l1 := ra.length
  have l2 := rb.length
  refine ⟨fun i m' H' e hi => ?_, fun m' H' e => ?_, fun i m' H' h' v H'' e rh y hi => ?_⟩
  · rw [pairs_len] at hi
    exact ⟨xs, ys, xs[i]'(by omega), ys[i]'(by omega), SqL.of (e.kp _ _ ha na).1, SqL.of (e.kp _ _ hb nb).1, by simp, by simp⟩
  · rw [pairs_len]
    exact ⟨xs, ys, SqL.of (e.kp _ _ ha na).1, SqL.of (e.kp _ _ hb nb).1, by omega⟩
  · rw [pairs_len] at hi
    obtain ⟨T, x, z, rfl, h2, rfl, h4, h5⟩ := y
    have e4 := h4 xs (SqL.of (e.kp _ _ ha na).1)
    have e5 := h5 ys (SqL.of (e.kp _ _ hb nb).1)
    have hd1 : ds[i]? = some (ds[i]'(by omega)) := by simp
    have hd2 : es[i]? = some (es[i]'(by omega)) := by simp
    obtain ⟨w1, q1, r1⟩ := (ra.evo e).get hd1
    obtain ⟨w2, q2, r2⟩ := (rb.evo e).get hd2
    rw [e4] at q1; cases q1
    rw [e5] at q2; cases q2
    exact ⟨_, pairs_get ds es i _ _ hd1 hd2, new_pair rh h2 r1 r2⟩
theorem Serves.zipT {a b : Addr} {xs ys : List V} {ds es : List PyData} (ha : H a = some (.tup xs)) (na : a ∉ m) (ra : RpA m H xs ds) (hb : H b = some (.tup ys)) (nb : b ∉ m) (rb : RpA m H ys es) : Serves K m H (RZ.ItzT K a b) (pairs ds es) := by
  have l1 := ra.length
  have l2 := rb.length
  refine ⟨fun i m' H' e hi => ?_, fun m' H' e => ?_, fun i m' H' h' v H'' e rh y hi => ?_⟩
  · rw [pairs_len] at hi
    exact ⟨xs, ys, xs[i]'(by omega), ys[i]'(by omega), SqT.of (e.kp _ _ ha na).1, SqT.of (e.kp _ _ hb nb).1, by simp, by simp⟩
  · rw [pairs_len]
    exact ⟨xs, ys, SqT.of (e.kp _ _ ha na).1, SqT.of (e.kp _ _ hb nb).1, by omega⟩
  · rw [pairs_len] at hi
    obtain ⟨T, x, z, rfl, h2, rfl, h4, h5⟩ := y
    have e4 := h4 xs (SqT.of (e.kp _ _ ha na).1)
    have e5 := h5 ys (SqT.of (e.kp _ _ hb nb).1)
    have hd1 : ds[i]? = some (ds[i]'(by omega)) := by simp
    have hd2 : es[i]? = some (es[i]'(by omega)) := by simp
    obtain ⟨w1, q1, r1⟩ := (ra.evo e).get hd1
    obtain ⟨w2, q2, r2⟩ := (rb.evo e).get hd2
    rw [e4] at q1; cases q1
    rw [e5] at q2; cases q2
    exact ⟨_, pairs_get ds es i _ _ hd1 hd2, new_pair rh h2 r1 r2⟩
theorem enums_len : ∀ (xs : List PyData) (n : Nat), (enums n xs).length = xs.length
  | [], _ => rfl
  | _ :: xs, n => congrArg (· + 1) (enums_len xs (n + 1))
theorem enums_get : ∀ (xs : List PyData) (n i : Nat) (x : PyData), xs[i]? = some x → (enums n xs)[i]? = some (.d (.tuple [.int ((n + i : Nat) : Int), x]))
  | [], _, _, _, e => by simp at e
  | a :: xs, n, 0, x, e => by simp at e; subst e; rfl
  | a :: xs, n, i + 1, x, e => by
    show (enums (n + 1) xs)[i]? = _
    rw [enums_get xs (n + 1) i x (by simpa using e), show n + 1 + i = n + (i + 1) by omega]
theorem Serves.enL {a : Addr} {xs : List V} {ds : List PyData} (ha : H a = some (.lst xs)) (na : a ∉ m) (ra : RpA m H xs ds) : Serves K m H (Ite K a) (enums 0 ds) := by
  have l1 := ra.length
  refine ⟨fun i m' H' e hi => ?_, fun m' H' e => ?_, fun i m' H' h' v H'' e rh y hi => ?_⟩
  · rw [enums_len] at hi
    exact ⟨xs, xs[i]'(by omega), SqL.of (e.kp _ _ ha na).1, by simp⟩
  · rw [enums_len]
    exact ⟨xs, SqL.of (e.kp _ _ ha na).1, by omega⟩
  · rw [enums_len] at hi
    obtain ⟨T, x, rfl, h2, rfl, h4⟩ := y
    have e4 := h4 xs (SqL.of (e.kp _ _ ha na).1)
    have hd1 : ds[i]? = some (ds[i]'(by omega)) := by simp
    obtain ⟨w1, q1, r1⟩ := (ra.evo e).get hd1
    rw [e4] at q1; cases q1
    refine ⟨_, enums_get ds 0 i _ hd1, ?_⟩
    rw [Nat.zero_add]
    exact new_pair rh h2 (.int _) r1
theorem Serves.enT {a : Addr} {xs : List V} {ds : List PyData} (ha : H a = some (.tup xs)) (na : a ∉ m) (ra : RpA m H xs ds) : Serves K m H (IteT K a) (enums 0 ds) := by
  have l1 := ra.length
  refine ⟨fun i m' H' e hi => ?_, fun m' H' e => ?_, fun i m' H' h' v H'' e rh y hi => ?_⟩
  · rw [enums_len] at hi
    exact ⟨xs, xs[i]'(by omega), SqT.of (e.kp _ _ ha na).1, by simp⟩
  · rw [enums_len]
    exact ⟨xs, SqT.of (e.kp _ _ ha na).1, by omega⟩
  · rw [enums_len] at hi
    obtain ⟨T, x, rfl, h2, rfl, h4⟩ := y
    have e4 := h4 xs (SqT.of (e.kp _ _ ha na).1)
    have hd1 : ds[i]? = some (ds[i]'(by omega)) := by simp
    obtain ⟨w1, q1, r1⟩ := (ra.evo e).get hd1
    rw [e4] at q1; cases q1
    refine ⟨_, enums_get ds 0 i _ hd1, ?_⟩
    rw [Nat.zero_add]
    exact new_pair rh h2 (.int _) r1
end
def tI (X : Cx) (W : WX) (f : Sg → Hs → R Iw.It) : TI := fun σ H Q => ∃ m p h, RS X.K m H σ p ∧ RH X.K m h H ∧ satG X.mg X.K (Ex W σ) m H (itRel X.K) (f p h) Q
theorem _root_.L2.PI.imp {X : Cx} {tg e : Expr} {t t' : TI} (h : PI X tg e t) (i : ∀ σ H Q, t' σ H Q → t σ H Q) : PI X tg e t' := ⟨fun pins s σ H Q I q => h.run pins s σ H Q I (i _ _ _ q)⟩
section
variable {X : Cx} {W : WX} {a b c : Expr} {es : List Expr} {A B C : Dn} {pos p tpos : Pos} {tg : Expr}
def iSeq (K : PySem.W.Frag) (tl : TE) : TI := fun σ H R => tl σ H fun x H1 => ∃ a, x = .ref a ∧ (((∃ xs, SqL K H1 a xs) ∧ R (Itl K a) H1) ∨ ((∃ xs, SqT K H1 a xs) ∧ R (Itt K a) H1))
theorem pi_seq {l : Expr} {tl : TE} (hl : PE X l tl) : PI X tg l (iSeq X.K tl) := by
  refine ⟨fun pins s σ H R I h => ?_⟩
  refine thn (hl.run pins s σ H _ I h) fun v s1 ⟨x, H1, I1, r1, q1⟩ => ?_
  obtain ⟨a, e, q1⟩ := q1
  subst e
  cases r1
  have fp : ∀ b ∈ [s1.heap.objs.size], FpOk X pins H1 b := fun b hb => by
    have e : b = s1.heap.objs.size := by simpa using hb
    subst e
    exact I1.fpOk (Nat.le_refl _) (I1.hok.fresh (Nat.le_refl _))
  rcases q1 with ⟨⟨xs, hq⟩, q⟩ | ⟨⟨xs, hq⟩, q⟩
  · obtain ⟨its, rv, p, hz⟩ := I1.list hq
    refine wpAny_pyIter_list p.isList ?_
    exact ⟨s1.heap.objs.size, [s1.heap.objs.size], _, _, H1, rfl, I1.kept (t' := s1.toks) fun b o e => Heap.get?_push_of_some _ e, turn_list a _, ⟨_, Heap.get?_push_size _ rfl, rfl, rfl⟩, fp, q⟩
  · obtain ⟨its, rv, p, hz⟩ := I1.tuple hq
    refine wpAny_pyIter_tuple (show s1.heap.IsTuple a its.toArray from p) ?_
    exact ⟨s1.heap.objs.size, [s1.heap.objs.size], _, _, H1, rfl, I1.kept (t' := s1.toks) fun b o e => Heap.get?_push_of_some _ e, turn_tuple a _, ⟨_, Heap.get?_push_size _ rfl, rfl, rfl⟩, fp, q⟩
theorem i_val (ha : PE X a (tE X W A.e)) : PI X tg a (tI X W fun σ h => (A.e σ h).bind itVal) :=
  (pi_seq ha).imp fun σ H Q ⟨m, p, hh, rs, rh, hs⟩ => (tE.bind1 rs rh hs).mono fun x H1 ⟨m1, a, h1, _, rs1, rh1, ra, s1⟩ => by
    cases a with
    | d dx =>
      cases dx with
      | list ds =>
        obtain ⟨a, vs, rfl, ha, na, qa⟩ := rv_lst ra
        exact ⟨a, rfl, .inl ⟨⟨vs, SqL.of ha⟩, now (b := Itl X.K a) rh1 s1 (Serves.list ha na qa)⟩⟩
      | tuple ds =>
        obtain ⟨a, vs, rfl, ha, na, qa⟩ := rv_tup ra
        exact ⟨a, rfl, .inr ⟨⟨vs, SqT.of ha⟩, now (b := Itt X.K a) rh1 s1 (Serves.tup ha na qa)⟩⟩
      | _ => exact s1.elim
    | scr ns =>
      cases ra with
      | scr sc => exact ⟨_, rfl, .inl ⟨⟨_, sc.sq⟩, now (b := Itl X.K _) rh1 s1 (Serves.scr sc)⟩⟩
    | ref n =>
      cases ra with
      | ref ha =>
        have s1 : satG X.mg X.K (Ex W σ) m1 H1 (itRel X.K) (if lstAt h1 (.ref n) = true then .ok (.lv n) h1 else .bad) Q := s1
        obtain ⟨hc, s1⟩ := satG_if s1
        obtain ⟨n', a', xs, vs, q0, q1, q2, q3, q4, q5⟩ := lst_at rh1 (.ref ha) hc
        cases q0; cases q1
        exact ⟨_, rfl, .inl ⟨⟨vs, SqL.of q4⟩, now (b := Itl X.K _) rh1 s1 ⟨_, q3, rfl⟩⟩⟩
theorem i_r1 (hg : Gl X "range") (hm : X.mg "range" = none) (ha : PE X a (tE X W A.e)) (hs : starEach [a] X.env = [(false, eval a X.env)]) : PI X tg (.Call (.Name "range" p) [a] [] pos) (tI X W fun σ h => (A.e σ h).bind itR1) :=
  (pi_range1 hg hm (pa_cons ha pa_nil hs) hs).imp fun σ H Q ⟨m, p, hh, rs, rh, hs⟩ => (tE.bind1 rs rh hs).mono fun x H1 ⟨m1, a, h1, _, rs1, rh1, ra, s1⟩ => by
    rcases a with (_|_|j|_|_|_|_) | _ | _ <;> first | exact s1.elim | skip
    cases rv_int ra
    obtain ⟨hl, s1⟩ := satG_if (show satG X.mg X.K (Ex W σ) m1 H1 (itRel X.K) (if -line ≤ j ∧ j ≤ line then .ok (.fx (rngL 0 j.toNat)) h1 else .bad) Q from s1)
    have : (line : Int) = 16777216 := rfl
    exact ⟨j, rfl, by omega, by omega, now (b := Itr 0 j.toNat) rh1 s1 (Serves.rng 0 j.toNat)⟩
theorem i_r2 (hg : Gl X "range") (hm : X.mg "range" = none) (ha : PE X a (tE X W A.e)) (hb : PE X b (tE X W B.e)) (hs : starEach [a, b] X.env = [(false, eval a X.env), (false, eval b X.env)]) (hs2 : starEach [b] X.env = [(false, eval b X.env)]) :
    PI X tg (.Call (.Name "range" p) [a, b] [] pos) (tI X W fun σ h => (A.e σ h).bind fun u h1 => (B.e σ h1).bind fun v h2 => itR2 u v h2) :=
  (pi_range2 hg hm (pa_cons ha (pa_cons hb pa_nil hs2) (by rw [hs, hs2])) hs hs2).imp fun σ H Q ⟨m, p, hh, rs, rh, hs⟩ => (tE.bind1 rs rh hs).mono fun x H1 ⟨m1, a, h1, _, rs1, rh1, ra, s1⟩ => (tE.bind1 rs1 rh1 s1).mono fun y H2 ⟨m2, b, h2, _, rs2, rh2, rb, s2⟩ => by
    rcases a with (_|_|i|_|_|_|_) | _ | _ <;> first | exact s2.elim | skip
    rcases b with (_|_|j|_|_|_|_) | _ | _ <;> first | exact s2.elim | skip
    cases rv_int ra
    cases rv_int rb
    obtain ⟨hl, s2⟩ := satG_if (show satG X.mg X.K (Ex W σ) m2 H2 (itRel X.K) (if -line ≤ i ∧ i ≤ line ∧ -line ≤ j ∧ j ≤ line then .ok (.fx (rngL i (j - i).toNat)) h2 else .bad) Q from s2)
    have : (line : Int) = 16777216 := rfl
    exact ⟨i, j, rfl, ⟨by omega, by omega, by omega, by omega⟩, now (b := Itr i (j - i).toNat) rh2 s2 (Serves.rng i (j - i).toNat)⟩
theorem i_zip {elts : List Expr} {kk : Nat} (hg : Gl X "zip") (hm : X.mg "zip" = none) (ha : PE X a (tE X W A.e)) (hb : PE X b (tE X W B.e)) (hs : starEach [a, b] X.env = (false, eval a X.env) :: starEach [b] X.env) (hs2 : starEach [b] X.env = (false, eval b X.env) :: starEach [] X.env) (hpl : (backTo pos (starEach [b] X.env)).any (·.1) = false) :
    PI X (.Tuple elts kk tpos) (.Call (.Name "zip" p) [a, b] [] pos) (tI X W fun σ h => (A.e σ h).bind fun u h1 => (B.e σ h1).bind fun v h2 => itZip u v h2) :=
  (RZ.pi_zipA hg hm (pa_cons ha (pa_cons hb pa_nil hs2) hs) hs hpl).imp fun σ H Q ⟨m, p, hh, rs, rh, hs⟩ => (tE.bind1 rs rh hs).mono fun x H1 ⟨m1, a, h1, _, rs1, rh1, ra, s1⟩ => (tE.bind1 rs1 rh1 s1).mono fun y H2 ⟨m2, b, h2, e2, rs2, rh2, rb, s2⟩ => by
    have ra := ra.evo e2
    rcases a with (_|_|_|_|ds|ds|_) | _ | _ <;> first | exact s2.elim | skip
    · rcases b with (_|_|_|_|es|es|_) | _ | _ <;> first | exact s2.elim | skip
      obtain ⟨p, vs, rfl, ha, na, qa⟩ := rv_lst ra
      obtain ⟨q, ws, rfl, hb, nb, qb⟩ := rv_lst rb
      exact ⟨p, q, vs, ws, rfl, .inl ⟨SqL.of ha, SqL.of hb, now (b := Itz X.K p q) rh2 s2 (Serves.zipL ha na qa hb nb qb)⟩⟩
    · rcases b with (_|_|_|_|es|es|_) | _ | _ <;> first | exact s2.elim | skip
      obtain ⟨p, vs, rfl, ha, na, qa⟩ := rv_tup ra
      obtain ⟨q, ws, rfl, hb, nb, qb⟩ := rv_tup rb
      exact ⟨p, q, vs, ws, rfl, .inr ⟨SqT.of ha, SqT.of hb, now (b := RZ.ItzT X.K p q) rh2 s2 (Serves.zipT ha na qa hb nb qb)⟩⟩
theorem i_enu {elts : List Expr} {kk : Nat} (hg : Gl X "enumerate") (hm : X.mg "enumerate" = none) (ha : PE X a (tE X W A.e)) (hs : starEach [a] X.env = [(false, eval a X.env)]) :
    PI X (.Tuple elts kk tpos) (.Call (.Name "enumerate" p) [a] [] pos) (tI X W fun σ h => (A.e σ h).bind itEnu) :=
  (pi_enumA hg hm (pa_cons ha pa_nil hs) hs).imp fun σ H Q ⟨m, p, hh, rs, rh, hs⟩ => (tE.bind1 rs rh hs).mono fun x H1 ⟨m1, a, h1, _, rs1, rh1, ra, s1⟩ => by
    rcases a with (_|_|_|_|ds|ds|_) | _ | _ <;> first | exact s1.elim | skip
    · obtain ⟨p, vs, rfl, ha, na, qa⟩ := rv_lst ra
      exact ⟨p, vs, rfl, .inl ⟨SqL.of ha, now (b := Ite X.K p) rh1 s1 (Serves.enL ha na qa)⟩⟩
    · obtain ⟨p, vs, rfl, ha, na, qa⟩ := rv_tup ra
      exact ⟨p, vs, rfl, .inr ⟨SqT.of ha, now (b := IteT X.K p) rh1 s1 (Serves.enT ha na qa)⟩⟩
end
end Iw
end

section
set_option Elab.async false
set_option linter.all false
set_option maxRecDepth 100000
/-! targets, comprehensions -/
namespace Iw
open PySem PySem.Spec PyProof.Rows L2
/-- the slots that a target writes -/
def tgs : Tg → List Nat
  | .nm i => [i]
  | .nil => []
  | .cons a b => tgs a ++ tgs b
def tG (X : Cx) (t : Tg) : TG := fun v σ H Q => ∃ m p h pv p', RS X.K m H σ p ∧ RH X.K m h H ∧ RV X.K m H v pv ∧ asg t pv p = some p' ∧
  ∀ σ2 H2 m2, Evo m H m2 H2 → RS X.K m2 H2 σ2 p' → RH X.K m2 h H2 → (∀ vs : List Nat, (∀ i ∈ tgs t, i ∈ vs) → L2.wipe σ2 vs = L2.wipe σ vs) → Q σ2 H2
def tGs (X : Cx) (t : Tg) : TGs := fun vs σ H Q => ∃ m p h ds p', RS X.K m H σ p ∧ RH X.K m h H ∧ RpA m H vs ds ∧ asg t (.d (.tuple ds)) p = some p' ∧
  ∀ σ2 H2 m2, Evo m H m2 H2 → RS X.K m2 H2 σ2 p' → RH X.K m2 h H2 → (∀ vs : List Nat, (∀ i ∈ tgs t, i ∈ vs) → L2.wipe σ2 vs = L2.wipe σ vs) → Q σ2 H2
theorem _root_.L2.PG.imp {X : Cx} {e : Expr} {t t' : TG} (h : PG X e t) (i : ∀ v σ H Q, t' v σ H Q → t v σ H Q) : PG X e t' := ⟨fun pins s σ H v u Q I r q => h.run pins s σ H v u Q I r (i _ _ _ _ q)⟩
theorem _root_.L2.PGs.imp {X : Cx} {e : List Expr} {t t' : TGs} (h : PGs X e t) (i : ∀ v σ H Q, t' v σ H Q → t v σ H Q) : PGs X e t' := ⟨fun pins s σ H v u Q I r q => h.run pins s σ H v u Q I r (i _ _ _ _ q)⟩
theorem wipe_set {i : Nat} {x : Option V} (σ : Sv) : ∀ {vs : List Nat}, i ∈ vs → L2.wipe (σ.set i x) vs = L2.wipe σ vs
  | v :: vs, h => by
    show (L2.wipe (σ.set i x) vs).set v none = (L2.wipe σ vs).set v none
    by_cases e : i ∈ vs
    · rw [wipe_set σ e]
    · have hv : i = v := (List.mem_cons.mp h).resolve_right e
      subst hv
      have go : ∀ {vs : List Nat}, i ∉ vs → L2.wipe (σ.set i x) vs = (L2.wipe σ vs).set i x := fun {vs} e => by
        induction vs with
        | nil => rfl
        | cons w vs ih =>
          have h1 : i ≠ w := fun z => e (by simp [z])
          have h2 : i ∉ vs := fun z => e (by simp [z])
          show (L2.wipe (σ.set i x) vs).set w none = ((L2.wipe σ vs).set w none).set i x
          rw [ih h2, List.set_comm _ _ h1]
      rw [go e, List.set_set]
section
variable {X : Cx} {pos : Pos}
theorem g_nm {i : Nat} {x : Str} (hN : X.N.Nodup) (hi : X.N[i]? = some x) (hx : Loc X.env.scope x) (hf : X.fn x = true ∨ X.env.scope.names.lookup x = some .local) : PG X (.Name x pos) (tG X (.nm i)) :=
  (pg_name hN hi hx hf).imp fun v σ H Q ⟨m, p, h, pv, p', rs, rh, rv, ea, q⟩ => by
    cases ea
    exact q _ _ m .refl (rs.set rv) rh fun vs hv => wipe_set σ (hv i (by simp [tgs]))
theorem g_nil : PGs X [] (tGs X .nil) := pgs_nil.imp fun v σ H Q ⟨m, p, h, ds, p', rs, rh, rv, ea, q⟩ => by
  cases rv with
  | nil =>
    cases ea
    exact ⟨rfl, q _ _ m .refl rs rh fun _ _ => rfl⟩
  | cons _ _ => cases ea
theorem g_cons {e : Expr} {es : List Expr} {a b : Tg} (ha : PG X e (tG X a)) (hb : PGs X es (tGs X b)) (hs : (assignEach (e :: es) X.env).map (·.2) = assign e X.env :: (assignEach es X.env).map (·.2)) : PGs X (e :: es) (tGs X (.cons a b)) :=
  (pgs_cons ha hb hs).imp fun v σ H Q ⟨m, p, h, ds, p', rs, rh, rv, ea, q⟩ => by
    cases rv with
    | nil => cases ea
    | @cons v1 vs d1 ds r t =>
      obtain ⟨p1, e1, e2⟩ := Option.bind_eq_some_iff.mp (show (asg a (.d d1) p).bind (asg b (.d (.tuple ds))) = some p' from ea)
      refine ⟨v1, vs, rfl, m, p, h, .d d1, p1, rs, rh, .d r, e1, fun σ2 H2 m2 ev rs2 rh2 hw => ?_⟩
      refine ⟨m2, p1, h, ds, p', rs2, rh2, t.evo ev, e2, fun σ3 H3 m3 ev3 rs3 rh3 hw3 => q _ _ m3 (ev.trans ev3) rs3 rh3 fun vs hv => ?_⟩
      rw [hw3 vs fun i hi => hv i (by simp [tgs, hi]), hw vs fun i hi => hv i (by simp [tgs, hi])]
theorem g_tup {es : List Expr} {k : Nat} {t : Tg} (hc : X.calm = true) (ht : PGs X es (tGs X t)) (hl : ∀ v p p', asg t v p = some p' → ∃ ds, v = .d (.tuple ds) ∧ ds.length = es.length) (hn : (assignEach es X.env).length = es.length) (hst : (assignEach es X.env).findIdx? (·.1) = none) : PG X (.Tuple es k pos) (tG X t) :=
  (pg_tup hc ht hn hst).imp fun v σ H Q ⟨m, p, h, pv, p', rs, rh, rv, ea, q⟩ => by
    obtain ⟨ds, rfl, e⟩ := hl _ _ _ ea
    obtain ⟨a, vs, rfl, h1, h2, h3⟩ := rv_tup rv
    exact ⟨a, vs, rfl, SqT.of h1, by rw [h3.length, e], m, p, h, ds, p', rs, rh, h3, ea, q⟩
end
/-! ### comprehensions -/
section
variable {K : PySem.W.Frag} {mg : Str → Option Value} {E E' : Value → Hp → Prop} {α β γ δ ε : Type}
theorem satN {m1 m2 : Mp} {H1 H2 : Hp} {rel2 : Mp → Hp → δ → γ → Prop} {rel : Mp → Hp → β → α → Prop} {A : R α} {f : α → Hs → R ε} {F : ε → Hs → R γ} {Q : δ → Hp → Prop} (hs : satG mg K E m1 H1 rel2 ((noExc (A.bind f)).bind F) Q) :
    satG mg K E' m2 H2 rel A (fun b H3 => ∃ m3 a h3, Evo m2 H2 m3 H3 ∧ RH K m3 h3 H3 ∧ rel m3 H3 b a ∧ satG mg K E m1 H1 rel2 ((noExc (f a h3)).bind F) Q) := by
  cases A with
  | ok a h' => exact fun b H' m' e q z => ⟨m', a, h', e, q, z, hs⟩
  | exc c h' => exact hs.elim
  | bad => exact hs.elim
theorem noExc_ok {A : R α} {f : α → Hs → γ} {g : α → Hs → Hs} {F : γ → Hs → R ε} : (noExc (A.bind fun a h => .ok (f a h) (g a h))).bind F = (noExc A).bind fun a h => F (f a h) (g a h) := by cases A <;> rfl
end
/-- where a comprehension stands between its turns -/
def cNext (X : Cx) (E : Value → Hp → Prop) (m1 : Mp) (H1 : Hp) (D : Addr) (mt : Bool) (Q : VK) (rest : Hs → R (List PV)) (H : Hp) : Prop :=
  ∃ m h acc accP, Evo m1 H1 m H ∧ RH X.K m h H ∧ D ∈ m.hid ∧ H D = some (.lst acc) ∧ RVs X.K m H acc accP ∧ satG X.mg X.K E m1 H1 (RV X.K) ((noExc (rest h)).bind fun ys h2 => lstOf mt (accP ++ ys) h2) Q
theorem lstOf_len {X : Cx} {E : Value → Hp → Prop} {m1 : Mp} {H1 : Hp} {mt : Bool} {Q : VK} {r : R (List PV)} {xs : List PV} (hs : satG X.mg X.K E m1 H1 (RV X.K) ((noExc r).bind fun ys h2 => lstOf mt (xs ++ ys) h2) Q) : xs.length ≤ line := by
  cases r with
  | ok ys h =>
    have hs : satG X.mg X.K E m1 H1 (RV X.K) (if (xs ++ ys).length ≤ line then mkL mt (xs ++ ys) h else .bad) Q := hs
    obtain ⟨hl, _⟩ := satG_if hs
    rw [List.length_append] at hl
    omega
  | exc _ _ => exact hs.elim
  | bad => exact hs.elim
theorem cNext_done {X : Cx} {E : Value → Hp → Prop} {m1 : Mp} {H1 H : Hp} {D : Addr} {mt : Bool} {Q : VK} {rest : Hs → R (List PV)} (hD : H1 D = none) (hr : ∀ h, rest h = .ok [] h) (c : cNext X E m1 H1 D mt Q rest H) : Q (.ref D) H := by
  obtain ⟨m, h, acc, accP, ev, rh, hd, hH, rv, hs⟩ := c
  rw [hr] at hs
  have hs : satG X.mg X.K E m1 H1 (RV X.K) (if (accP ++ []).length ≤ line then mkL mt (accP ++ []) h else .bad) Q := hs
  rw [List.append_nil] at hs
  obtain ⟨_, hs⟩ := satG_if hs
  have no := (rh.hd D hd).1
  cases mt with
  | true =>
    have hs : satG X.mg X.K E m1 H1 (RV X.K) (.ok (.ref h.length) (h ++ [.lst accP])) Q := hs
    refine hs _ _ _ (ev.reveal hD) (rh.reveal hd hH (.lst rv)) (.ref ?_)
    show (m.own ++ [D])[h.length]? = _
    rw [List.getElem?_append_right (by rw [rh.len]; exact Nat.le_refl _), rh.len]
    simp
  | false =>
    have hs : satG X.mg X.K E m1 H1 (RV X.K) (R.of ((datas accP).map fun ds => .d (.list ds)) h) Q := hs
    cases e : datas accP with
    | none => rw [e] at hs; exact hs.elim
    | some ds =>
      rw [e] at hs
      exact hs _ _ _ (ev.unhide hD) rh.unhide (.d (.lst hH (not_unhide no) ((rv.rpa e).less less_unhide)))
theorem comp_turn {X : Cx} {W' : WX} {E : Value → Hp → Prop} {m1 : Mp} {H1 : Hp} {D : Addr} {mt : Bool} {Q : VK} {t : Tg} {C : Sg → Hs → R Bool} {L : Sg → Hs → R PV} {σ : Sv} {p : Sg} {own : List Nat} {x : V} {xv : PV} {rest : Hs → R (List PV)} {m : Mp} {h : Hs} {acc : List V} {accP : List PV} {H : Hp}
    (hD : H1 D = none) (ht : ∀ i ∈ tgs t, i ∈ own) (ev : Evo m1 H1 m H) (rs : RS X.K m H σ p) (rh : RH X.K m h H) (hd : D ∈ m.hid) (hH : H D = some (.lst acc)) (rv : RVs X.K m H acc accP) (rx : RV X.K m H x xv)
    (hs : satG X.mg X.K E m1 H1 (RV X.K) ((noExc ((compSt own t C L p xv h).bind fun o h1 => (rest h1).bind fun ys h2 => .ok (match o with | some y => y :: ys | none => ys) h2)).bind fun ys h2 => lstOf mt (accP ++ ys) h2) Q) :
    tG X t x (L2.wipe σ own) H fun σ2 H2 => L2.wipe σ2 own = L2.wipe σ own ∧ tT X W' C σ2 H2 fun b H3 =>
      if b = true then tE X W' L σ2 H3 fun y H4 => ∃ acc, H4 D = some (.lst acc) ∧ acc.length < sizeLine ∧ cNext X E m1 H1 D mt Q rest (upd H4 D (.lst (acc ++ [y]))) else cNext X E m1 H1 D mt Q rest H3 := by
  unfold compSt at hs
  cases ea : asg t xv (wipe p own) with
  | none => rw [ea] at hs; exact hs.elim
  | some p1 =>
    rw [ea] at hs
    refine ⟨m, wipe p own, h, xv, p1, rs.wipe own, rh, rx, ea, fun σ2 H2 m2 ev2 rs2 rh2 hw => ⟨?_, ?_⟩⟩
    · rw [hw own ht]
      have idem : ∀ (vs : List Nat) (σ : Sv), L2.wipe (L2.wipe σ vs) vs = L2.wipe σ vs := fun vs => by
        have sub : ∀ (vs ws : List Nat) (σ : Sv), (∀ i ∈ vs, i ∈ ws) → L2.wipe (L2.wipe σ vs) ws = L2.wipe σ ws := fun vs ws => by
          induction vs with
          | nil => intro σ _; rfl
          | cons v vs ih =>
            intro σ hv
            show L2.wipe ((L2.wipe σ vs).set v none) ws = _
            rw [wipe_set _ (hv v (by simp)), ih σ fun i hi => hv i (by simp [hi])]
        exact fun σ => sub vs vs σ fun _ h => h
      exact idem own σ
    · dsimp only at hs
      rw [R.bind_assoc] at hs
      refine ⟨m2, p1, h, rs2, rh2, (satN (rel := same) hs).mono fun b H3 ⟨m3, b', h3, ev3, rh3, eb, s3⟩ => ?_⟩
      have eb : b = b' := eb
      subst eb
      have ev03 := ev.trans (ev2.trans ev3)
      have e23 := ev2.trans ev3
      obtain ⟨hH3, hd3⟩ := e23.hd D _ hd hH
      cases b with
      | false =>
        refine iteF ?_
        have s3 : satG X.mg X.K E m1 H1 (RV X.K) ((noExc ((rest h3).bind fun ys h2 => .ok ys h2)).bind fun ys h2 => lstOf mt (accP ++ ys) h2) Q := s3
        rw [noExc_ok] at s3
        exact ⟨m3, h3, acc, accP, ev03, rh3, hd3, hH3, rv.evo e23, s3⟩
      | true =>
        refine iteT ?_
        have s3 : satG X.mg X.K E m1 H1 (RV X.K) ((noExc (((L p1 h3).bind fun y h4 => R.ok (some y) h4).bind fun o h1 => (rest h1).bind fun ys h2 => .ok (match o with | some y => y :: ys | none => ys) h2)).bind fun ys h2 => lstOf mt (accP ++ ys) h2) Q := s3
        rw [R.bind_assoc] at s3
        refine ⟨m3, p1, h3, rs2.evo ev3, rh3, (satN (rel := RV X.K) s3).mono fun y H4 ⟨m4, yv, h4, ev4, rh4, ry, s4⟩ => ?_⟩
        have s4 : satG X.mg X.K E m1 H1 (RV X.K) ((noExc ((rest h4).bind fun ys h2 => .ok (yv :: ys) h2)).bind fun ys h2 => lstOf mt (accP ++ ys) h2) Q := s4
        rw [noExc_ok] at s4
        have es : (fun (ys : List PV) (h2 : Hs) => lstOf mt (accP ++ yv :: ys) h2) = fun ys h2 => lstOf mt ((accP ++ [yv]) ++ ys) h2 := by
          funext ys h2; rw [List.append_assoc]; rfl
        rw [es] at s4
        have ll := lstOf_len s4
        obtain ⟨hH4, hd4⟩ := ev4.hd D _ hd3 hH3
        have rv4 := (rv.evo e23).evo ev4
        refine ⟨acc, hH4, ?_, m4, h4, acc ++ [y], accP ++ [yv], (ev03.trans ev4).upH hD, rh4.upH hd4, hd4, upd_same, RVs.upH hd4 (PairedApp rv4 (.cons ry .nil)), s4⟩
        rw [rv4.len, ← line_eq]
        rw [List.length_append] at ll
        exact ll
theorem getL_ref {h : Hs} {n : Nat} {xs : List PV} (e : getL h (.ref n) = some xs) : h[n]? = some (.lst xs) := by
  have e : (match h[n]? with
    | some (.lst xs) => some xs
    | _ => none) = some xs := e
  split at e
  · rename_i ys e0; cases e; exact e0
  · cases e
theorem drop_get {α : Type} {xs : List α} {i : Nat} {x : α} (h : xs[i]? = some x) : xs.drop i = x :: xs.drop (i + 1) := by
  obtain ⟨hi, e⟩ := List.getElem?_eq_some_iff.mp h
  rw [List.drop_eq_getElem_cons hi, e]
abbrev compE (mt : Bool) (own : List Nat) (t : Tg) (I : Sg → Hs → R Iw.It) (C : Sg → Hs → R Bool) (L : Sg → Hs → R PV) : Sg → Hs → R PV := fun σ h => (I σ h).bind fun J h1 => (compGo (compSt own t C L σ) J h1).bind (lstOf mt)
theorem comp_read {X : Cx} {W W' : WX} {mt : Bool} {own : List Nat} {t : Tg} {I : Sg → Hs → R Iw.It} {C : Sg → Hs → R Bool} {L : Sg → Hs → R PV} (ht : ∀ i ∈ tgs t, i ∈ own) {σ : Sv} {H : Hp} {Q : VK} (h : tE X W (compE mt own t I C L) σ H Q) : tLc (tI X W I) (tG X t) (tT X W' C) (tE X W' L) own σ H Q := by
  obtain ⟨m, p, hh, rs, rh, hs⟩ := h
  refine ⟨m, p, hh, rs, rh, (satG.bind (rel := itRel X.K) hs).mono fun J H1 ⟨m1, J', h1, ev, rh1, rj, s1⟩ D hD => ?_⟩
  have rs1 := rs.evo ev
  obtain ⟨rhD, evD⟩ := rh1.hide (ws := []) hD
  have memD : D ∈ (m1.hide D).hid := List.mem_cons_self
  cases J' with
  | fx xs =>
    have rj : Serves X.K m1 H1 J xs := rj
    have s1 : satG X.mg X.K (Ex W σ) m1 H1 (RV X.K) ((noExc (compF (compSt own t C L p) (xs.drop 0) h1)).bind fun ys h2 => lstOf mt ([] ++ ys) h2) Q := s1
    refine ⟨fun i n H' => n = xs.length - i ∧ i ≤ xs.length ∧ cNext X (Ex W σ) m1 H1 D mt Q (compF (compSt own t C L p) (xs.drop i)) H', ⟨xs.length, by simp, Nat.zero_le _, m1.hide D, h1, [], [], evD, rhD, memD, upd_same, .nil, s1⟩, ?_⟩
    rintro i n H' ⟨rfl, hi, c⟩
    by_cases hlt : i < xs.length
    · refine .inr ⟨?_, cNext X (Ex W σ) m1 H1 D mt Q (compF (compSt own t C L p) (xs.drop (i + 1))), fun H2 c2 => ⟨xs.length - (i + 1), by omega, rfl, hlt, c2⟩, fun x H2 y => ?_⟩
      · obtain ⟨m', h', acc, accP, ev1, _⟩ := c
        exact rj.goes i m' H' ev1 hlt
      · obtain ⟨m', h', acc, accP, ev1, rh', hd, hH, rv, s2⟩ := c
        obtain ⟨xv, ex, ev2, rh2, rx⟩ := rj.yields i m' H' h' x H2 ev1 rh' y hlt
        obtain ⟨hH2, hd2⟩ := ev2.hd D _ hd hH
        rw [drop_get ex] at s2
        exact comp_turn (W' := W') hD ht (ev1.trans ev2) (rs1.evo (ev1.trans ev2)) rh2 hd2 hH2 (rv.evo ev2) rx s2
    · have e : i = xs.length := by omega
      subst e
      refine .inl ⟨?_, ?_⟩
      · obtain ⟨m', h', acc, accP, ev1, _⟩ := c
        exact rj.stops m' H' ev1
      · exact cNext_done hD (fun h => by rw [List.drop_length]; rfl) c
  | lv n =>
    obtain ⟨a, ha, rfl⟩ := rj
    have s1 : satG X.mg X.K (Ex W σ) m1 H1 (RV X.K) ((noExc (compV (compSt own t C L p) n big 0 h1)).bind fun ys h2 => lstOf mt ([] ++ ys) h2) Q := s1
    refine ⟨fun i f H' => cNext X (Ex W σ) m1 H1 D mt Q (compV (compSt own t C L p) n f i) H', ⟨big, m1.hide D, h1, [], [], evD, rhD, memD, upd_same, .nil, s1⟩, ?_⟩
    intro i f H' c
    cases f with
    | zero =>
      obtain ⟨m', h', acc, accP, ev1, rh', hd, hH, rv, s2⟩ := c
      exact s2.elim
    | succ f =>
      obtain ⟨m', h', acc, accP, ev1, rh', hd, hH, rv, s2⟩ := c
      have ha' := ev1.at ha
      unfold compV at s2
      split at s2
      · exact s2.elim
      · rename_i xs eg
        have q0 := getL_ref eg
        obtain ⟨a2, vs, q1, q2, q3, q4⟩ := rv_ref rh' (.ref ha') q0
        cases q1
        split at s2
        · rename_i en
          have hl : xs.length ≤ i := by simpa using en
          exact .inl ⟨⟨vs, SqL.of q3, by rw [q4.len]; exact hl⟩, cNext_done hD (fun h => rfl) (rest := fun h => .ok [] h) ⟨m', h', acc, accP, ev1, rh', hd, hH, rv, s2⟩⟩
        · rename_i xv ex
          obtain ⟨w, e1, rw1⟩ := PairedGet q4 ex
          refine .inr ⟨⟨vs, w, SqL.of q3, e1⟩, cNext X (Ex W σ) m1 H1 D mt Q (compV (compSt own t C L p) n f (i + 1)), fun H2 c2 => ⟨f, Nat.lt_succ_self f, c2⟩, fun x H2 y => ?_⟩
          obtain ⟨rfl, y⟩ := y
          have e2 := y vs (SqL.of q3)
          rw [e1] at e2; cases e2
          exact comp_turn (W' := W') hD ht ev1 (rs1.evo ev1) rh' hd hH rv rw1 s2
end Iw
end

section
set_option Elab.async false
set_option linter.all false
set_option maxRecDepth 100000
/-! statements -/
namespace Iw
open PySem PySem.Spec PyProof.Rows L2
/-- no exception is wished -/
abbrev Wf : WX := fun _ _ _ _ => False
def finS (K : PySem.W.Frag) (D : Ends) : Fl → Mp → Sv → Hp → Prop
  | .nx, _, σ, H => D.nx σ H
  | .bk, _, σ, H => D.bk σ H
  | .ct, _, σ, H => D.ct σ H
  | .rt pv, m, _, H => ∀ v, RV K m H v pv → D.rt v H
/-- a statement's end: whatever stands for the slots and the store -/
def satS (K : PySem.W.Frag) (D : Ends) (m : Mp) (H : Hp) (h' : Hs) (fl : Fl) (p' : Sg) : Prop := ∀ σ' H' m', Evo m H m' H' → RH K m' h' H' → RS K m' H' σ' p' → finS K D fl m' σ' H'
def satR (K : PySem.W.Frag) (D : Ends) (m : Mp) (H : Hp) : R (Fl × Sg) → Prop
  | .ok (fl, p') h' => satS K D m H h' fl p'
  | .exc _ _ => False
  | .bad => False
def tSt (X : Cx) (f : Sg → Hs → R (Fl × Sg)) : TS := fun D σ H => ∃ m p h, RS X.K m H σ p ∧ RH X.K m h H ∧ satR X.K D m H (f p h)
theorem _root_.L2.PS.imp {X : Cx} {st : Stmt} {t t' : TS} (h : PS X st t) (i : ∀ D σ H, t' D σ H → t D σ H) : PS X st t' := ⟨fun pins s σ H D I q => h.run pins s σ H D I (i _ _ _ q)⟩
theorem _root_.L2.PSs.imp {X : Cx} {st : List Stmt} {t t' : TS} (h : PSs X st t) (i : ∀ D σ H, t' D σ H → t D σ H) : PSs X st t' := ⟨fun pins s σ H D I q => h.run pins s σ H D I (i _ _ _ q)⟩
section
variable {K : PySem.W.Frag} {D : Ends} {m m' : Mp} {H H' : Hp}
theorem satR.evo {r : R (Fl × Sg)} (h : satR K D m H r) (e : Evo m H m' H') : satR K D m' H' r := by
  cases r with
  | ok p h' =>
    obtain ⟨fl, p'⟩ := p
    exact fun σ2 H2 m2 e2 q z => h σ2 H2 m2 (e.trans e2) q z
  | exc _ _ => exact h
  | bad => exact h
/-- the first part of a bind, in a statement -/
theorem satR.bind {mg : Str → Option Value} {E : Value → Hp → Prop} {α β : Type} {rel : Mp → Hp → β → α → Prop} {A : R α} {f : α → Hs → R (Fl × Sg)} (hs : satR K D m H (A.bind f)) :
    satG mg K E m H rel A (fun b H1 => ∃ m1 a h1, Evo m H m1 H1 ∧ RH K m1 h1 H1 ∧ rel m1 H1 b a ∧ satR K D m1 H1 (f a h1)) := by
  cases A with
  | ok a h' => exact fun b H' m' e q z => ⟨m', a, h', e, q, z, satR.evo hs e⟩
  | exc c h' => exact hs.elim
  | bad => exact hs.elim
end
section
variable {X : Cx} {W : WX} {a b c o i e : Expr} {es : List Expr} {A B C : Dn} {pos pos' : Pos} {st : Stmt} {rest : List Stmt} {F G : Sg → Hs → R (Fl × Sg)} {D : Ends} {σ : Sv} {H : Hp}
/-- an expression's value in a statement -/
theorem tE_st {f : PV → Hs → R (Fl × Sg)} {m : Mp} {p : Sg} {h : Hs} {E : Sg → Hs → R PV} (rs : RS X.K m H σ p) (rh : RH X.K m h H) (hs : satR X.K D m H ((E p h).bind f)) :
    tE X Wf E σ H fun x H1 => ∃ m1 a h1, Evo m H m1 H1 ∧ RS X.K m1 H1 σ p ∧ RH X.K m1 h1 H1 ∧ RV X.K m1 H1 x a ∧ satR X.K D m1 H1 (f a h1) :=
  ⟨m, p, h, rs, rh, (satR.bind (rel := RV X.K) hs).mono fun b H1 ⟨m1, a, h1, ev, rh1, ra, s1⟩ => ⟨m1, a, h1, ev, rs.evo ev, rh1, ra, s1⟩⟩
theorem tA_st {f : List PV → Hs → R (Fl × Sg)} {m : Mp} {p : Sg} {h : Hs} {E : Sg → Hs → R (List PV)} (rs : RS X.K m H σ p) (rh : RH X.K m h H) (hs : satR X.K D m H ((E p h).bind f)) :
    tA X Wf E σ H fun x H1 => ∃ m1 a h1, Evo m H m1 H1 ∧ RS X.K m1 H1 σ p ∧ RH X.K m1 h1 H1 ∧ RVs X.K m1 H1 x a ∧ satR X.K D m1 H1 (f a h1) :=
  ⟨m, p, h, rs, rh, (satR.bind (rel := RVs X.K) hs).mono fun b H1 ⟨m1, a, h1, ev, rh1, ra, s1⟩ => ⟨m1, a, h1, ev, rs.evo ev, rh1, ra, s1⟩⟩
theorem tT_st {f : Bool → Hs → R (Fl × Sg)} {m : Mp} {p : Sg} {h : Hs} {E : Sg → Hs → R Bool} (rs : RS X.K m H σ p) (rh : RH X.K m h H) (hs : satR X.K D m H ((E p h).bind f)) :
    tT X Wf E σ H fun x H1 => ∃ m1 h1, Evo m H m1 H1 ∧ RS X.K m1 H1 σ p ∧ RH X.K m1 h1 H1 ∧ satR X.K D m1 H1 (f x h1) :=
  ⟨m, p, h, rs, rh, (satR.bind (rel := same) hs).mono fun b H1 ⟨m1, a, h1, ev, rh1, ra, s1⟩ => by
    have ra : b = a := ra
    subst ra
    exact ⟨m1, h1, ev, rs.evo ev, rh1, s1⟩⟩
theorem tI_st {f : Iw.It → Hs → R (Fl × Sg)} {m : Mp} {p : Sg} {h : Hs} {E : Sg → Hs → R Iw.It} (rs : RS X.K m H σ p) (rh : RH X.K m h H) (hs : satR X.K D m H ((E p h).bind f)) :
    tI X Wf E σ H fun x H1 => ∃ m1 a h1, Evo m H m1 H1 ∧ RS X.K m1 H1 σ p ∧ RH X.K m1 h1 H1 ∧ itRel X.K m1 H1 x a ∧ satR X.K D m1 H1 (f a h1) :=
  ⟨m, p, h, rs, rh, (satR.bind (rel := itRel X.K) hs).mono fun b H1 ⟨m1, a, h1, ev, rh1, ra, s1⟩ => ⟨m1, a, h1, ev, rs.evo ev, rh1, ra, s1⟩⟩
/-- what an end in the next slots is worth -/
theorem satR.nx {m : Mp} {p p' : Sg} {h : Hs} (hs : satR X.K D m H (.ok (.nx, p') h)) {σ' : Sv} (rs : RS X.K m H σ' p') (rh : RH X.K m h H) : D.nx σ' H := hs σ' H m .refl rh rs
theorem ss_nil : PSs X [] (tSt X fun σ h => .ok (.nx, σ) h) := pss_nil.imp fun D σ H ⟨m, p, h, rs, rh, hs⟩ => satR.nx (p := p) hs rs rh
abbrev seqS (F G : Sg → Hs → R (Fl × Sg)) : Sg → Hs → R (Fl × Sg) := fun σ h => (F σ h).bind fun p h1 => match p.1 with
    | .nx => G p.2 h1
    | f => .ok (f, p.2) h1
theorem ss_cons (h1 : PS X st (tSt X F)) (h2 : PSs X rest (tSt X G)) : PSs X (st :: rest) (tSt X (seqS F G)) :=
  (pss_cons h1 h2).imp fun D σ H ⟨m, p, h, rs, rh, hs⟩ => by
    refine ⟨m, p, h, rs, rh, ?_⟩
    unfold seqS at hs
    cases e : F p h with
    | ok q h' =>
      obtain ⟨fl, p'⟩ := q
      rw [e] at hs
      cases fl with
      | nx => exact fun σ' H' m' ev rh' rs' => ⟨m', p', h', rs', rh', satR.evo (show satR X.K D m H (G p' h') from hs) ev⟩
      | rt v => exact hs
      | bk => exact hs
      | ct => exact hs
    | exc _ _ => rw [e] at hs; exact hs.elim
    | bad => rw [e] at hs; exact hs.elim
theorem ss_never : PSs X rest (tSt X fun _ _ => .bad) := pss_never.imp fun D σ H ⟨m, p, h, rs, rh, hs⟩ => hs
theorem s_never : PS X st (tSt X fun _ _ => .bad) := ps_never.imp fun D σ H ⟨m, p, h, rs, rh, hs⟩ => hs
theorem s_pass : PS X (.Pass pos) (tSt X fun σ h => .ok (.nx, σ) h) := ps_pass.imp fun D σ H ⟨m, p, h, rs, rh, hs⟩ => satR.nx (p := p) hs rs rh
theorem s_brk : PS X (.Break pos) (tSt X fun σ h => .ok (.bk, σ) h) := ps_break.imp fun D σ H ⟨m, p, h, rs, rh, hs⟩ => hs σ H m .refl rh rs
theorem s_cont : PS X (.Continue pos) (tSt X fun σ h => .ok (.ct, σ) h) := ps_continue.imp fun D σ H ⟨m, p, h, rs, rh, hs⟩ => hs σ H m .refl rh rs
theorem s_ex (he : PE X e (tE X Wf A.e)) (hs : swapsWith e none pos.line X.env = pure false) : PS X (.Expr e pos) (tSt X fun σ h => (A.e σ h).bind fun _ h1 => .ok (.nx, σ) h1) :=
  (ps_expr he hs).imp fun D σ H ⟨m, p, h, rs, rh, hs⟩ => (tE_st rs rh hs).mono fun x H1 ⟨m1, a, h1, _, rs1, rh1, ra, s1⟩ => satR.nx (p := p) s1 rs1 rh1
theorem s_ret (he : PE X e (tE X Wf A.e)) : PS X (.Return (some e) pos) (tSt X fun σ h => (A.e σ h).bind fun v h1 => .ok (.rt v, σ) h1) :=
  (ps_ret he).imp fun D σ H ⟨m, p, h, rs, rh, hs⟩ => (tE_st rs rh hs).mono fun x H1 ⟨m1, a, h1, _, rs1, rh1, ra, s1⟩ => s1 σ H1 m1 .refl rh1 rs1 x ra
theorem s_if {ss tt : List Stmt} (hc : PT X c (tT X Wf (tOf C.e))) (ha : PSs X ss (tSt X F)) (hb : PSs X tt (tSt X G)) : PS X (.If c ss tt pos) (tSt X fun σ h => (tOf C.e σ h).bind fun t h1 => match t with
    | true => F σ h1
    | false => G σ h1) :=
  (ps_if hc ha hb).imp fun D σ H ⟨m, p, h, rs, rh, hs⟩ => (tT_st rs rh hs).mono fun x H1 ⟨m1, h1, _, rs1, rh1, s1⟩ => by
    cases x with
    | true => exact iteT ⟨m1, p, h1, rs1, rh1, s1⟩
    | false => exact iteF ⟨m1, p, h1, rs1, rh1, s1⟩
abbrev asgS (t : Tg) (A : Sg → Hs → R PV) : Sg → Hs → R (Fl × Sg) := fun σ h => (A σ h).bind fun v h1 => R.of ((asg t v σ).map fun σ1 => (.nx, σ1)) h1
theorem asg_in {t : Tg} {m1 : Mp} {a : PV} {h1 : Hs} {p : Sg} {x : V} {H1 : Hp} (rs1 : RS X.K m1 H1 σ p) (rh1 : RH X.K m1 h1 H1) (ra : RV X.K m1 H1 x a) (s1 : satR X.K D m1 H1 (R.of ((asg t a p).map fun σ1 => (Fl.nx, σ1)) h1)) : tG X t x σ H1 D.nx := by
  cases e : asg t a p with
  | none => rw [e] at s1; exact s1.elim
  | some p1 =>
    rw [e] at s1
    exact ⟨m1, p, h1, a, p1, rs1, rh1, ra, e, fun σ2 H2 m2 ev2 rs2 rh2 _ => s1 σ2 H2 m2 ev2 rh2 rs2⟩
theorem s_asg {t : Tg} {tg : Expr} (he : PE X e (tE X Wf A.e)) (hg : PG X tg (tG X t)) (hs : swapsWithSole [tg] e pos.line X.env = pure false) (hw : swappedStores [tg] e X.env = pure none) (h1 : (assignEach [tg] X.env).map (·.2) = [assign tg X.env]) : PS X (.Assign [tg] e pos) (tSt X (asgS t A.e)) :=
  (ps_asg he hg hs hw h1).imp fun D σ H ⟨m, p, h, rs, rh, hs⟩ => (tE_st rs rh hs).mono fun x H1 ⟨m1, a, h1, _, rs1, rh1, ra, s1⟩ => asg_in rs1 rh1 ra s1
theorem s_set {j : Nat} {x : Str} (hN : X.N.Nodup) (hi : X.N[j]? = some x) (hx : Loc X.env.scope x) (he : PE X e (tE X Wf A.e)) (hs : swapsWith e (some (.Name x pos')) pos.line X.env = pure false) (hf : X.fn x = true ∨ X.env.scope.names.lookup x = some .local) : PS X (.Assign [.Name x pos'] e pos) (tSt X (asgS (.nm j) A.e)) :=
  (ps_set hN hi hx he hs hf).imp fun D σ H ⟨m, p, h, rs, rh, hs⟩ => (tE_st rs rh hs).mono fun x H1 ⟨m1, a, h1, _, rs1, rh1, ra, s1⟩ => by
    have s1 : satR X.K D m1 H1 (.ok (.nx, p.set j (some a)) h1) := s1
    exact satR.nx (p := p) s1 (rs1.set ra) rh1
/-! ### a, b, .. = x, y, .. -/
def setV (σ : Sv) : List Nat → List V → Sv
  | i :: is, v :: vs => setV (σ.set i (some v)) is vs
  | _, _ => σ
theorem setAll_at {K : PySem.W.Frag} {m : Mp} {H : Hp} : ∀ {is : List Nat} {vs : List V} {ps : List PV} {σ : Sv} {p p' : Sg}, RS K m H σ p → RVs K m H vs ps → setAll p is ps = some p' → vs.length = is.length ∧ RS K m H (setV σ is vs) p'
  | [], _, _, _, _, _, rs, .nil, e => by cases e; exact ⟨rfl, rs⟩
  | [], _, _, _, _, _, rs, .cons _ _, e => by cases e
  | _ :: _, _, _, _, _, _, rs, .nil, e => by cases e
  | i :: is, v :: vs, x :: ps, σ, p, p', rs, .cons r t, e => by
    obtain ⟨h1, h2⟩ := setAll_at (is := is) (rs.set (i := i) r) t e
    exact ⟨by simp [h1], h2⟩
def gNs (is : List Nat) : TGs := fun vs σ H Q => vs.length = is.length ∧ Q (setV σ is vs) H
theorem gs_nil : PGs X [] (gNs []) := pgs_nil.imp fun v σ H Q ⟨h1, h2⟩ => by
  cases v with
  | nil => exact ⟨rfl, h2⟩
  | cons _ _ => cases h1
theorem gs_cons {x : Str} {j : Nat} {is : List Nat} (hN : X.N.Nodup) (hi : X.N[j]? = some x) (hx : Loc X.env.scope x) (hf : X.fn x = true ∨ X.env.scope.names.lookup x = some .local) (hr : PGs X es (gNs is)) : PGs X (.Name x pos' :: es) (gNs (j :: is)) :=
  (pgs_cons (pg_name hN hi hx hf) hr).imp fun v σ H Q ⟨h1, h2⟩ => by
    cases v with
    | nil => cases h1
    | cons v vs => exact ⟨v, vs, rfl, by simpa using h1, h2⟩
abbrev parS (is : List Nat) (A : Sg → Hs → R (List PV)) : Sg → Hs → R (Fl × Sg) := fun σ h => (A σ h).bind fun vs h1 => R.of ((setAll σ is vs).map fun σ1 => (.nx, σ1)) h1
theorem par_in {is : List Nat} {m1 : Mp} {a : List PV} {h1 : Hs} {p : Sg} {x : List V} {H1 : Hp} (rs1 : RS X.K m1 H1 σ p) (rh1 : RH X.K m1 h1 H1) (ra : RVs X.K m1 H1 x a) (s1 : satR X.K D m1 H1 (R.of ((setAll p is a).map fun σ1 => (Fl.nx, σ1)) h1)) : x.length = is.length ∧ D.nx (setV σ is x) H1 := by
  cases e : setAll p is a with
  | none => rw [e] at s1; exact s1.elim
  | some p1 =>
    rw [e] at s1
    obtain ⟨h1, h2⟩ := setAll_at rs1 ra e
    exact ⟨h1, s1 _ H1 m1 .refl rh1 h2⟩
theorem ps_parN {ts : List Expr} {n : Nat} {ta : TA} {g : TGs} {pt : Pos} {kt k2 : Nat} {pt2 : Pos} (hc : X.calm = true) (hn : n ≤ sizeLine) (ha : PA X es ta) (hg : PGs X ts g) (hts : (assignEach ts X.env).length = n) (hst : (assignEach ts X.env).findIdx? (·.1) = none)
    (hs : swapsWithSole [.Tuple ts kt pt] (.Tuple es k2 pt2) pos.line X.env = pure false) (hw : swappedStores [.Tuple ts kt pt] (.Tuple es k2 pt2) X.env = pure none) :
    PS X (.Assign [.Tuple ts kt pt] (.Tuple es k2 pt2) pos) (fun D σ H => ta σ H fun vs H1 => vs.length = n ∧ g vs σ H1 D.nx) := by
  refine ⟨fun pins s σ H D I h => ?_⟩
  refine wpAny_Assign_stores (Tuple_ (thn (ha.run _ pins s σ H _ I h) fun us s1 ⟨vs, H1, I1, r1, hl, q1⟩ => ?_)) hs hw
  have l1 := r1.length
  refine wpAny_newObj_type ?_ (by show us.toArray.size ≤ sizeLine; rw [List.size_toArray]; omega)
  have I2 : Inv X pins σ H1 { s1 with heap := s1.heap.push { cls := .type "tuple", data := .seq us.toArray } } := I1.kept (t' := s1.toks) fun b o e => Heap.get?_push_of_some _ e
  show wpAny _ _ (assignAll _ [assign (.Tuple ts kt pt) X.env]) _ _ _
  have go : wpAny (model X.prog X.w) X.A (assign (.Tuple ts kt pt) X.env (.ref s1.heap.objs.size)) (fun _ => SP X pins D .next) X.xe { s1 with heap := s1.heap.push { cls := .type "tuple", data := .seq us.toArray } } := by
    refine assign_Tuple_tuple (items := us.toArray) (I.ok.hd hc) (IsTup.new s1.heap _) (by rw [hts, List.size_toArray]; omega) hst fun h' hx => ?_
    have I3 : Inv X pins σ H1 { s1 with heap := h' } := I2.kept (t' := s1.toks) fun b o e => hx b o (Nat.ne_of_lt (Heap.lt_size e)) e
    exact thn (hg.run pins _ σ H1 vs _ _ I3 (by simpa using r1) q1) fun _ s2 q => q
  exact go
theorem s_parN {ts : List Expr} {is : List Nat} {pt : Pos} {kt k2 : Nat} {pt2 : Pos} {A : Sg → Hs → R (List PV)} (hc : X.calm = true) (hn : is.length ≤ sizeLine) (ha : PA X es (tA X Wf A)) (hg : PGs X ts (gNs is)) (hts : (assignEach ts X.env).length = is.length) (hst : (assignEach ts X.env).findIdx? (·.1) = none)
    (hs : swapsWithSole [.Tuple ts kt pt] (.Tuple es k2 pt2) pos.line X.env = pure false) (hw : swappedStores [.Tuple ts kt pt] (.Tuple es k2 pt2) X.env = pure none) :
    PS X (.Assign [.Tuple ts kt pt] (.Tuple es k2 pt2) pos) (tSt X (parS is A)) :=
  (ps_parN hc hn ha hg hts hst hs hw).imp fun D σ H ⟨m, p, h, rs, rh, hs⟩ => (tA_st rs rh hs).mono fun x H1 ⟨m1, a, h1, _, rs1, rh1, ra, s1⟩ => by
    obtain ⟨q1, q2⟩ := par_in rs1 rh1 ra s1
    exact ⟨q1, q1, q2⟩
theorem s_par2 {k l : Nat} {x y : Str} {px py pt : Pos} {kt k2 pt2} {A : Sg → Hs → R (List PV)} (hc : X.calm = true) (hN : X.N.Nodup) (hi : X.N[k]? = some x) (hj : X.N[l]? = some y) (hij : k ≠ l)
    (hx : X.env.scope.names.lookup x = some .local) (hy : X.env.scope.names.lookup y = some .local) (ha : PA X [a, b] (tA X Wf A))
    (hw : swappedStores [.Tuple [.Name x px, .Name y py] kt pt] (.Tuple [a, b] k2 pt2) X.env = pure (some [x, y]))
    (hs : swapsWithSole [.Tuple [.Name x px, .Name y py] kt pt] (.Tuple [a, b] k2 pt2) pos.line X.env = pure false) :
    PS X (.Assign [.Tuple [.Name x px, .Name y py] kt pt] (.Tuple [a, b] k2 pt2) pos) (tSt X (parS [k, l] A)) :=
  (ps_par hc hN hi hj hij hx hy ha hw hs).imp fun D σ H ⟨m, p, h, rs, rh, hs⟩ => (tA_st rs rh hs).mono fun x H1 ⟨m1, a, h1, _, rs1, rh1, ra, s1⟩ => by
    obtain ⟨q1, q2⟩ := par_in rs1 rh1 ra s1
    match x, q1, q2 with
    | [v, w], _, q2 => exact ⟨v, w, rfl, q2⟩
theorem s_par3 {k l n : Nat} {x y z : Str} {px py pz pt : Pos} {kt k2 pt2} {A : Sg → Hs → R (List PV)} (hc : X.calm = true) (hN : X.N.Nodup) (hi : X.N[k]? = some x) (hj : X.N[l]? = some y) (hl : X.N[n]? = some z) (hij : k ≠ l) (hil : k ≠ n) (hjl : l ≠ n)
    (hx : X.env.scope.names.lookup x = some .local) (hy : X.env.scope.names.lookup y = some .local) (hz : X.env.scope.names.lookup z = some .local) (ha : PA X [a, b, c] (tA X Wf A))
    (hw : swappedStores [.Tuple [.Name x px, .Name y py, .Name z pz] kt pt] (.Tuple [a, b, c] k2 pt2) X.env = pure (some [x, y, z]))
    (hs : swapsWithSole [.Tuple [.Name x px, .Name y py, .Name z pz] kt pt] (.Tuple [a, b, c] k2 pt2) pos.line X.env = pure false) :
    PS X (.Assign [.Tuple [.Name x px, .Name y py, .Name z pz] kt pt] (.Tuple [a, b, c] k2 pt2) pos) (tSt X (parS [k, l, n] A)) :=
  (ps_par3 hc hN hi hj hl hij hil hjl hx hy hz ha hw hs).imp fun D σ H ⟨m, p, h, rs, rh, hs⟩ => (tA_st rs rh hs).mono fun x H1 ⟨m1, a, h1, _, rs1, rh1, ra, s1⟩ => by
    obtain ⟨q1, q2⟩ := par_in rs1 rh1 ra s1
    match x, q1, q2 with
    | [u, v, w], _, q2 => exact ⟨u, v, w, rfl, q2⟩
end
end Iw
end

section
set_option Elab.async false
set_option linter.all false
set_option maxRecDepth 100000
namespace Iw
open PySem PySem.Spec PyProof.Rows L2
section
variable {X : Cx} {a b c o i e : Expr} {es : List Expr} {A B C : Dn} {pos pos' : Pos} {st : Stmt} {rest : List Stmt} {F G : Sg → Hs → R (Fl × Sg)} {D : Ends} {σ : Sv} {H : Hp}
def rSetI (X : Cx) (k : Nat) : TSet := fun o i v H Q => ∃ m h po pi pz h', RH X.K m h H ∧ RV X.K m H o po ∧ RV X.K m H i pi ∧ RV X.K m H v pz ∧ setv k po pi pz h = .ok () h' ∧ ∀ H', Evo m H m H' → RH X.K m h' H' → Q H'
theorem setv_inv {k : Nat} {po pi pz : PV} {h h' : Hs} (e : setv k po pi pz h = .ok () h') : ∃ n d, po = .ref n ∧ pi = .d d ∧
    ((∃ xs j l, h[n]? = some (.lst xs) ∧ d = .int j ∧ ixN xs.length j = some l ∧ h' = h.set n (.lst (xs.set l pz))) ∨ ∃ ob ob', h[n]? = some ob ∧ dputO ob d pz = some ob' ∧ h' = h.set n ob') := by
  unfold setv at e
  cases po with
  | ref n =>
    cases pi with
    | d d =>
      refine ⟨n, d, rfl, rfl, ?_⟩
      dsimp only at e
      cases e0 : h[n]? with
      | none => rw [e0] at e; cases e
      | some ob =>
        rw [e0] at e
        cases ob with
        | lst xs =>
          dsimp only at e
          cases d with
          | int j =>
            dsimp only at e
            cases el : ixN xs.length j with
            | none => rw [el] at e; cases e
            | some l =>
              rw [el] at e
              dsimp only at e
              split at e
              · cases e
                exact .inl ⟨xs, j, l, rfl, rfl, el, rfl⟩
              · cases e
          | _ => cases e
        | dK kvs =>
          dsimp only at e
          cases ed : dputO (.dK kvs) d pz with
          | none => rw [ed] at e; cases e
          | some ob' =>
            rw [ed] at e
            dsimp only at e
            split at e
            · cases e
              exact .inr ⟨_, ob', rfl, ed, rfl⟩
            · cases e
        | dT kvs =>
          dsimp only at e
          cases ed : dputO (.dT kvs) d pz with
          | none => rw [ed] at e; cases e
          | some ob' =>
            rw [ed] at e
            dsimp only at e
            split at e
            · cases e
              exact .inr ⟨_, ob', rfl, ed, rfl⟩
            · cases e
    | _ => cases e
  | _ => cases e
theorem set_iw (hu : X.A.units + 64 < cLine) (k : Nat) : PSet X (rSetI X k) := by
  intro pins s σ H o i v ov iv u Q I ro ri rv ⟨m, h, po, pi, pz, h', rh, r1, r2, r3, es, q⟩
  obtain ⟨n, d, rfl, rfl, hq⟩ := setv_inv es
  rcases hq with ⟨xs, j, l, e0, rfl, el, rfl⟩ | ⟨ob, ob', e0, ed, rfl⟩
  · obtain ⟨a, vs, rfl, h1, h2, h3⟩ := rv_ref rh r1 e0
    cases rv_int r2
    refine set_list pins s σ H _ _ v ov iv u Q I ro ri rv ⟨a, vs, j, l, rfl, rfl, h2, by rw [h3.len]; exact el, ?_⟩
    exact q _ (rh.wr h1) (rh.write h1 ((RO.lst (PairedSet r3 l h3)).evo (rh.wr h1)))
  · obtain ⟨a, w, h1, h2, h3⟩ := rh.at_ n _ e0
    cases r1 with
    | ref ha =>
      rw [h1] at ha; cases ha
      cases ro
      cases ob with
      | lst _ => cases ed
      | dK xs =>
        cases w with
        | dK vs =>
          have rp : Paired (fun p q => p.1 = q.1 ∧ RV X.K m H p.2 q.2) vs xs := by cases h3; assumption
          have ed : (if xs.length < line then (keyOf d).map fun k => Ob.dK (putP xs k pz) else none) = some ob' := ed
          split at ed
          · rename_i hl
            obtain ⟨kk, e1, rfl⟩ := Option.map_eq_some_iff.mp ed
            have ei := keyOf_at (rv_d r2) e1
            subst ei
            refine d_setItem (show X.A.units + 1 < cLine by omega) I (DPut.k h2 (by rw [Paired.length rp, ← line_eq]; exact hl)) ri rv fun s' I' => ⟨_, I', ?_⟩
            exact q _ (rh.wr h1) (rh.write h1 ((RO.dK (put_pair kk r3 rp)).evo (rh.wr h1)))
          · cases ed
        | _ => cases h3
      | dT xs =>
        cases w with
        | dT vs =>
          have rp : Paired (fun p q => p.1 = q.1 ∧ RV X.K m H p.2 q.2) vs xs := by cases h3; assumption
          have ed : (if xs.length < line then (keysOf d).map fun k => Ob.dT (putP xs k pz) else none) = some ob' := ed
          split at ed
          · rename_i hl
            obtain ⟨kk, e1, rfl⟩ := Option.map_eq_some_iff.mp ed
            obtain ⟨b, rfl, hb, _⟩ := keysOf_at (rv_d r2) e1
            refine d_setItem (show X.A.units + 1 < cLine by omega) I (DPut.t h2 hb (by rw [Paired.length rp, ← line_eq]; exact hl)) ri rv fun s' I' => ⟨_, I', ?_⟩
            exact q _ (rh.wr h1) (rh.write h1 ((RO.dT (put_pair kk r3 rp)).evo (rh.wr h1)))
          · cases ed
        | _ => cases h3
abbrev subS (k : Nat) (A B C : Sg → Hs → R PV) : Sg → Hs → R (Fl × Sg) := fun σ h => (C σ h).bind fun z h1 => (A σ h1).bind fun x h2 => (B σ h2).bind fun y h3 => (setv k x y z h3).bind fun _ h4 => .ok (.nx, σ) h4
theorem s_sub {v : Expr} (hu : X.A.units + 64 < cLine) (k : Nat) (ho : PE X o (tE X Wf A.e)) (hi : PE X i (tE X Wf B.e)) (hv : PE X v (tE X Wf C.e)) (hs : swapsWithSole [.Subscript o i pos'] v pos.line X.env = pure false) (hw : swappedStores [.Subscript o i pos'] v X.env = pure none)
    (ha : ∀ v, assign (.Subscript o i pos') X.env v = (do
      let ov ← holding [v] (eval o X.env)
      let iv ← holding [v, ov] (eval i X.env)
      standAt pos'
      holding [v, ov, iv] (setItem ov iv v)
      release [v, ov, iv] [])) : PS X (.Assign [.Subscript o i pos'] v pos) (tSt X (subS k A.e B.e C.e)) :=
  (ps_asg hv (pg_sub ho hi (set_iw hu k) ha) hs hw (by rfl)).imp fun D σ H ⟨m, p, h, rs, rh, hs⟩ =>
    (tE_st rs rh hs).mono fun z H1 ⟨m1, pz, h1, _, rs1, rh1, rz, s1⟩ =>
    (tE_st rs1 rh1 s1).mono fun x H2 ⟨m2, px, h2, ev2, rs2, rh2, rx, s2⟩ =>
    (tE_st rs2 rh2 s2).mono fun y H3 ⟨m3, py, h3, ev3, rs3, rh3, ry, s3⟩ => by
      cases e : setv k px py pz h3 with
      | ok u h4 =>
        rw [e] at s3
        exact ⟨m3, h3, px, py, pz, h4, rh3, rx.evo ev3, ry, (rz.evo ev2).evo ev3, e, fun H4 ev4 rh4 => satR.nx (p := p) (satR.evo (show satR X.K D m3 H3 (.ok (.nx, p) h4) from s3) ev4) (rs3.evo ev4) rh4⟩
      | exc _ _ => rw [e] at s3; exact s3.elim
      | bad => rw [e] at s3; exact s3.elim
abbrev augS (j : Nat) (A : Sg → Hs → R PV) : Sg → Hs → R (Fl × Sg) := fun σ h => match σ[j]? with
    | some (some x) => (A σ h).bind fun y h1 => (augv x y h1).bind fun z h2 => .ok (.nx, σ.set j (some z)) h2
    | _ => .bad
theorem s_aug {j : Nat} {x : Str} (hN : X.N.Nodup) (hi : X.N[j]? = some x) (hx : Loc X.env.scope x) (he : PE X e (tE X Wf A.e)) (hf : X.fn x = true ∨ X.env.scope.names.lookup x = some .local) : PS X (.AugAssign (.Name x pos') .Add e pos) (tSt X (augS j A.e)) :=
  (ps_aug hN hi hx he ip_add hf).imp fun D σ H ⟨m, p, h, rs, rh, hs⟩ => by
    unfold augS at hs
    split at hs
    · rename_i pv e0
      obtain ⟨v, e1, rv⟩ := rs.at_ j pv e0
      refine ⟨v, e1, (tE_st rs rh hs).mono fun y H1 ⟨m1, py, h1, ev1, rs1, rh1, ry, s1⟩ => ?_⟩
      rcases pv with (_|_|a|_|_|_|_) | _ | _ <;> first | exact s1.elim | skip
      rcases py with (_|_|b|_|_|_|_) | _ | _ <;> first | exact s1.elim | skip
      cases rv_int rv
      cases rv_int ry
      have s1 : satR X.K D m1 H1 (.ok (.nx, p.set j (some (Iw.int (a + b)))) h1) := s1
      exact ⟨a, b, rfl, rfl, satR.nx (p := p) s1 (rs1.set (.d (.int _))) rh1⟩
    · exact hs.elim
/-! ### loops -/
abbrev forS (t : Tg) (I : Sg → Hs → R Iw.It) (F : Sg → Hs → R (Fl × Sg)) : Sg → Hs → R (Fl × Sg) := fun σ h => (I σ h).bind fun J h1 => match J with
    | .fx xs => forF t F xs σ h1
    | .lv n => forV t F n big 0 σ h1
/-- between the turns of a loop that began at m0, H0 -/
def tStB (X : Cx) (m0 : Mp) (H0 : Hp) (F : Sg → Hs → R (Fl × Sg)) : TS := fun D σ H => ∃ m p h, Evo m0 H0 m H ∧ RS X.K m H σ p ∧ RH X.K m h H ∧ satR X.K D m H (F p h)
theorem body_turn {F : Sg → Hs → R (Fl × Sg)} {Rr : Sg → Hs → R (Fl × Sg)} {m0 m : Mp} {H0 : Hp} {h : Hs} {p : Sg} (ev0 : Evo m0 H0 m H) (rs : RS X.K m H σ p) (rh : RH X.K m h H)
    (hs : satR X.K D m H ((F p h).bind fun p h2 => match p.1 with
        | .nx => Rr p.2 h2
        | .ct => Rr p.2 h2
        | .bk => .ok (.nx, p.2) h2
        | .rt v => .ok (.rt v, p.2) h2)) :
    tSt X F { D with nx := tStB X m0 H0 Rr D, ct := tStB X m0 H0 Rr D, bk := D.nx } σ H := by
  refine ⟨m, p, h, rs, rh, ?_⟩
  cases e : F p h with
  | ok q h' =>
    obtain ⟨fl, p'⟩ := q
    rw [e] at hs
    cases fl with
    | nx => exact fun σ' H' m' ev rh' rs' => ⟨m', p', h', ev0.trans ev, rs', rh', satR.evo (show satR X.K D m H (Rr p' h') from hs) ev⟩
    | ct => exact fun σ' H' m' ev rh' rs' => ⟨m', p', h', ev0.trans ev, rs', rh', satR.evo (show satR X.K D m H (Rr p' h') from hs) ev⟩
    | bk => exact hs
    | rt v => exact hs
  | exc _ _ => rw [e] at hs; exact hs.elim
  | bad => rw [e] at hs; exact hs.elim
/-- one turn, the rest of the turns in Rr -/
theorem for_turn {t : Tg} {F : Sg → Hs → R (Fl × Sg)} {Rr : Sg → Hs → R (Fl × Sg)} {m0 m : Mp} {H0 : Hp} {h : Hs} {p : Sg} {x : V} {xv : PV} (ev0 : Evo m0 H0 m H) (rs : RS X.K m H σ p) (rh : RH X.K m h H) (rx : RV X.K m H x xv)
    (hs : satR X.K D m H (match asg t xv p with
      | none => .bad
      | some σ1 => (F σ1 h).bind fun p h2 => match p.1 with
        | .nx => Rr p.2 h2
        | .ct => Rr p.2 h2
        | .bk => .ok (.nx, p.2) h2
        | .rt v => .ok (.rt v, p.2) h2)) :
    tG X t x σ H fun σ2 H2 => tSt X F { D with nx := tStB X m0 H0 Rr D, ct := tStB X m0 H0 Rr D, bk := D.nx } σ2 H2 := by
  cases ea : asg t xv p with
  | none => rw [ea] at hs; exact hs.elim
  | some p1 =>
    rw [ea] at hs
    exact ⟨m, p, h, xv, p1, rs, rh, rx, ea, fun σ2 H2 m2 ev2 rs2 rh2 _ => body_turn (ev0.trans ev2) rs2 rh2 (satR.evo hs ev2)⟩
theorem for_read {t : Tg} {I : Sg → Hs → R Iw.It} {F : Sg → Hs → R (Fl × Sg)} {D : Ends} {σ : Sv} {H : Hp} (h : tSt X (forS t I F) D σ H) : tFor (tI X Wf I) (tG X t) (tSt X F) D σ H := by
  obtain ⟨m, p, hh, rs, rh, hs⟩ := h
  obtain ⟨mm, pp, h0, q1, q2, q3⟩ := (tI_st rs rh hs : tI X Wf I σ H _)
  refine ⟨mm, pp, h0, q1, q2, q3.mono fun J H1 ⟨m1, J', h1, ev, rs1, rh1, rj, s1⟩ => ?_⟩
  cases J' with
  | fx xs =>
    have rj : Serves X.K m1 H1 J xs := rj
    have s1 : satR X.K D m1 H1 (forF t F (xs.drop 0) p h1) := s1
    refine ⟨fun i n σ' H' => n = xs.length - i ∧ i ≤ xs.length ∧ tStB X m1 H1 (forF t F (xs.drop i)) D σ' H', ⟨xs.length, by simp, Nat.zero_le _, m1, p, h1, .refl, rs1, rh1, s1⟩, ?_⟩
    rintro i n σ' H' ⟨rfl, hi, m', p', h', ev', rs', rh', s'⟩
    by_cases hlt : i < xs.length
    · refine .inr ⟨rj.goes i m' H' ev' hlt, tStB X m1 H1 (forF t F (xs.drop (i + 1))) D, fun σ2 H2 c => ⟨xs.length - (i + 1), by omega, rfl, hlt, c⟩, fun x H2 y => ?_⟩
      obtain ⟨xv, ex, ev2, rh2, rx⟩ := rj.yields i m' H' h' x H2 ev' rh' y hlt
      rw [drop_get ex] at s'
      exact for_turn (ev'.trans ev2) (rs'.evo ev2) rh2 rx (satR.evo s' ev2)
    · have e : i = xs.length := by omega
      subst e
      rw [List.drop_length] at s'
      exact .inl ⟨rj.stops m' H' ev', satR.nx (p := p') s' rs' rh'⟩
  | lv n =>
    obtain ⟨a, ha, rfl⟩ := rj
    have s1 : satR X.K D m1 H1 (forV t F n big 0 p h1) := s1
    refine ⟨fun i f σ' H' => tStB X m1 H1 (forV t F n f i) D σ' H', ⟨big, m1, p, h1, .refl, rs1, rh1, s1⟩, ?_⟩
    rintro i f σ' H' ⟨m', p', h', ev', rs', rh', s'⟩
    cases f with
    | zero => exact s'.elim
    | succ f =>
      have ha' := ev'.at ha
      unfold forV at s'
      split at s'
      · exact s'.elim
      · rename_i xs eg
        obtain ⟨a2, vs, q1, q2, q3, q4⟩ := rv_ref rh' (.ref ha') (getL_ref eg)
        cases q1
        split at s'
        · rename_i en
          have hl : xs.length ≤ i := by simpa using en
          exact .inl ⟨⟨vs, SqL.of q3, by rw [q4.len]; exact hl⟩, satR.nx (p := p') s' rs' rh'⟩
        · rename_i xv ex
          obtain ⟨w, e1, rw1⟩ := PairedGet q4 ex
          refine .inr ⟨⟨vs, w, SqL.of q3, e1⟩, tStB X m1 H1 (forV t F n f (i + 1)) D, fun σ2 H2 c => ⟨f, Nat.lt_succ_self f, c⟩, fun x H2 y => ?_⟩
          obtain ⟨rfl, y⟩ := y
          have e2 := y vs (SqL.of q3)
          rw [e1] at e2; cases e2
          exact for_turn ev' rs' rh' rw1 s'
theorem s_for {t : Tg} {tg iter : Expr} {body : List Stmt} {I : Sg → Hs → R Iw.It} (hp : PassesOwn (model X.prog X.w) X.A X.env X.xe) (hc : X.calm = true) (hi : PI X tg iter (tI X Wf I)) (hg : PG X tg (tG X t)) (hb : PSs X body (tSt X F))
    (hs : ∀ x, foldedSetIterable iter X.env x = pure x) : PS X (.For tg iter body [] pos) (tSt X (forS t I F)) := (ps_for hp hc hi hg hb hs).imp fun D σ H h => for_read h
abbrev whlS (T : Sg → Hs → R Bool) (F : Sg → Hs → R (Fl × Sg)) : Sg → Hs → R (Fl × Sg) := fun σ h => whlF T F big σ h
theorem s_whl {body : List Stmt} (hp : PassesOwn (model X.prog X.w) X.A X.env X.xe) (hc : PT X c (tT X Wf (tOf C.e))) (hb : PSs X body (tSt X F)) : PS X (.While c body [] pos) (tSt X (whlS (tOf C.e) F)) :=
  (ps_while hp hc hb).imp fun D σ H ⟨m, p, h, rs, rh, hs⟩ => by
    refine ⟨fun f σ' H' => tStB X m H (whlF (tOf C.e) F f) D σ' H', ⟨big, m, p, h, .refl, rs, rh, hs⟩, ?_⟩
    rintro f σ' H' ⟨m', p', h', ev', rs', rh', s'⟩
    cases f with
    | zero => exact ⟨m', p', h', rs', rh', (show satR X.K D m' H' .bad from s').elim⟩
    | succ f =>
      unfold whlF at s'
      obtain ⟨m2, p2, h2, q1, q2, q3⟩ := (tT_st rs' rh' s' : tT X Wf (tOf C.e) σ' H' _)
      refine ⟨m2, p2, h2, q1, q2, q3.mono fun b H2 ⟨m3, h3, ev3, rs3, rh3, s3⟩ => ?_⟩
      cases b with
      | false => exact iteF (satR.nx (p := p') s3 rs3 rh3)
      | true =>
        refine iteT ⟨tStB X m H (whlF (tOf C.e) F f) D, fun σ4 H4 c4 => ⟨f, Nat.lt_succ_self f, c4⟩, ?_⟩
        exact body_turn (ev'.trans ev3) rs3 rh3 s3
end
end Iw
end

section
set_option Elab.async false
set_option linter.all false
set_option maxRecDepth 100000
/-! what a call leaves of the store: its length grows, what is older than k is given data alone -/
namespace Iw
open PySem L2
def pvCl (j : Nat) : PV → Prop
  | .d _ => True
  | .ref n => n < j
  | .scr _ => True
def obCl (j : Nat) : Ob → Prop
  | .lst xs => ∀ x ∈ xs, pvCl j x
  | .dK kvs => ∀ kv ∈ kvs, pvCl j kv.2
  | .dT kvs => ∀ kv ∈ kvs, pvCl j kv.2
def Cl (j : Nat) (h : Hs) : Prop := ∀ n, n < j → ∀ o, h[n]? = some o → obCl j o
structure Step (k : Nat) (h h' : Hs) : Prop where
  le : h.length ≤ h'.length
  cl : ∀ j, j ≤ k → Cl j h → Cl j h'
theorem Step.refl {k : Nat} {h : Hs} : Step k h h := ⟨Nat.le_refl _, fun _ _ c => c⟩
theorem Step.trans {k : Nat} {h h1 h2 : Hs} (a : Step k h h1) (b : Step k h1 h2) : Step k h h2 := ⟨Nat.le_trans a.le b.le, fun j hj c => b.cl j hj (a.cl j hj c)⟩
theorem Step.mono {k k' : Nat} {h h1 : Hs} (a : Step k h h1) (e : k' ≤ k) : Step k' h h1 := ⟨a.le, fun j hj c => a.cl j (Nat.le_trans hj e) c⟩
theorem Step.alloc {k : Nat} {h : Hs} {o : Ob} (hk : k ≤ h.length) : Step k h (h ++ [o]) := ⟨by simp, fun j hj c n hn o' e => by
  rw [List.getElem?_append_left (by omega)] at e
  exact c n hn o' e⟩
theorem Step.set {k n : Nat} {h : Hs} {o : Ob} (ho : ∀ j, j ≤ k → n < j → Cl j h → obCl j o) : Step k h (h.set n o) := ⟨by simp, fun j hj c i hi o' e => by
  by_cases hn : n = i
  · subst hn
    by_cases hl : n < h.length
    · rw [List.getElem?_set_self hl] at e
      cases e
      exact ho j hj hi c
    · rw [List.getElem?_eq_none (by simpa using hl)] at e; cases e
  · rw [List.getElem?_set_ne hn] at e
    exact c i hi o' e⟩
/-- every result of r is a step from h -/
def Rs {α : Type} (k : Nat) (h : Hs) (r : R α) : Prop := ∀ a h', r = .ok a h' → Step k h h'
section
variable {α β : Type} {k : Nat} {h h' : Hs}
theorem Rs.bad : Rs k h (.bad : R α) := fun _ _ e => nomatch e
theorem Rs.exc {c : Str} : Rs k h (.exc c h' : R α) := fun _ _ e => nomatch e
theorem Rs.ok {a : α} : Rs k h (.ok a h) := fun _ _ e => by cases e; exact .refl
theorem Rs.ok' {a : α} (s : Step k h h') : Rs k h (.ok a h') := fun _ _ e => by cases e; exact s
theorem Rs.of {o : Option α} : Rs k h (R.of o h) := by cases o with
  | none => exact Rs.bad
  | some a => exact Rs.ok
theorem Rs.bind {r : R α} {f : α → Hs → R β} (a : Rs k h r) (b : ∀ x h1, Step k h h1 → k ≤ h1.length → Rs k h1 (f x h1)) (hk : k ≤ h.length) : Rs k h (r.bind f) := by
  cases r with
  | ok x h1 =>
    have s := a x h1 rfl
    exact fun y h2 e => s.trans (b x h1 s (Nat.le_trans hk s.le) y h2 e)
  | exc _ _ => exact Rs.exc
  | bad => exact Rs.bad
theorem Rs.noExc {r : R α} (a : Rs k h r) : Rs k h (noExc r) := by cases r <;> first | exact a | exact Rs.bad
theorem Rs.mkL {mt : Bool} {xs : List PV} (hk : k ≤ h.length) : Rs k h (mkL mt xs h) := by
  cases mt with
  | true => exact Rs.ok' (.alloc hk)
  | false => exact Rs.of
end
def Ev {α : Type} (k : Nat) (f : Sg → Hs → R α) : Prop := ∀ σ h, k ≤ h.length → Rs k h (f σ h)
/-- all the readings of an expression -/
structure Evs (k : Nat) (D : Dn) : Prop where
  e : Ev k D.e
  a : Ev k D.a
  t : Ev k D.t
  i : Ev k D.i
  o : Ev k D.o
section
variable {k : Nat}
theorem ev_bad {α : Type} : Ev k (fun _ _ => (.bad : R α)) := fun _ _ _ => Rs.bad
theorem ev_tOf {f : Sg → Hs → R PV} (h : Ev k f) : Ev k (tOf f) := fun σ h0 hk => (h σ h0 hk).bind (fun _ _ _ _ => Rs.of) hk
theorem ev_oOf {f : Sg → Hs → R PV} (h : Ev k f) : Ev k (oOf f) := fun σ h0 hk => (h σ h0 hk).bind (fun _ _ _ _ => Rs.of) hk
theorem evs_val {f : Sg → Hs → R PV} (h : Ev k f) : Evs k (.val f) := ⟨h, ev_bad, ev_tOf h, ev_bad, ev_oOf h⟩
theorem evs_arg {f : Sg → Hs → R (List PV)} (h : Ev k f) : Evs k (.arg f) := ⟨ev_bad, h, ev_bad, ev_bad, ev_bad⟩
theorem evs_itr {f : Sg → Hs → R It} (h : Ev k f) : Evs k (.itr f) := ⟨ev_bad, ev_bad, ev_bad, h, ev_bad⟩
/-- a function of values and the store -/
def P1 (k : Nat) {α β : Type} (f : α → Hs → R β) : Prop := ∀ x h, k ≤ h.length → Rs k h (f x h)
def P2 (k : Nat) {α γ β : Type} (f : α → γ → Hs → R β) : Prop := ∀ x y h, k ≤ h.length → Rs k h (f x y h)
theorem ev_bind1 {α β : Type} {A : Sg → Hs → R α} {f : α → Hs → R β} (a : Ev k A) (p : P1 k f) : Ev k (fun σ h => (A σ h).bind f) := fun σ h hk => (a σ h hk).bind (fun x h1 _ h2 => p x h1 h2) hk
theorem ev_bind2 {α γ β : Type} {A : Sg → Hs → R α} {B : Sg → Hs → R γ} {f : α → γ → Hs → R β} (a : Ev k A) (b : Ev k B) (p : P2 k f) : Ev k (fun σ h => (A σ h).bind fun x h1 => (B σ h1).bind fun y h2 => f x y h2) :=
  fun σ h hk => (a σ h hk).bind (fun x h1 _ h2 => (b σ h1 h2).bind (fun y h3 _ h4 => p x y h3 h4) h2) hk
theorem ev_ite {α : Type} {c : Prop} [Decidable c] {h h0 : Hs} {a b : R α} (ha : Rs k h a) (hb : Rs k h b) : Rs k h (if c then a else b) := by split <;> assumption
theorem p_binop (o : BO) : P2 k (binop o) := fun x y h hk => by
  unfold binop
  split
  all_goals first
    | exact Rs.ok
    | exact Rs.bad
    | (split <;> first | exact Rs.ok | exact Rs.bad)
    | (split
       · split
         · exact Rs.mkL hk
         · exact Rs.bad
       · exact Rs.bad)
theorem p_tupOf : P1 k tupOf := fun x h hk => by unfold tupOf; split; split; exact Rs.ok; exact Rs.bad; exact Rs.bad
theorem p_lstOf (mt : Bool) : P1 k (lstOf mt) := fun x h hk => by unfold lstOf; split; exact Rs.mkL hk; exact Rs.bad
theorem p_ixv1 : P2 k ixv1 := fun x y h hk => by unfold ixv1; split; exact Rs.of; exact Rs.bad
theorem p_ixv : P2 k ixv := fun x y h hk => by
  unfold ixv
  split
  · split
    · exact Rs.of
    · exact p_ixv1 _ _ h hk
  · exact Rs.bad
theorem p_revv : P1 k revv := fun x h hk => by
  unfold revv
  split
  · exact Rs.mkL hk
  · exact Rs.bad
theorem p_negv : P1 k negv := fun x h hk => by unfold negv; split; exact Rs.ok; exact Rs.bad
theorem p_isBoolv (v : Bool) : P1 k (isBoolv v) := fun x h hk => by unfold isBoolv; split; exact Rs.ok; exact Rs.bad
theorem p_slice (x : PV) (lo hi : Option Int) (h : Hs) (hk : k ≤ h.length) : Rs k h (slice x lo hi h) := by
  unfold slice
  split
  · exact Rs.ok
  · split
    · exact Rs.ok
    · exact Rs.bad
  · split
    · exact Rs.mkL hk
    · exact Rs.bad
theorem storeCl {k n j : Nat} {y : PV} (e : storeOk k n y = true) (hj : j ≤ k) (hn : n < j) : pvCl j y := by
  cases y with
  | d _ => exact trivial
  | scr _ => exact trivial
  | ref m =>
    have : k ≤ n := by simpa [storeOk] using e
    omega
theorem p_appv : P2 k (appv k) := fun x y h hk => by
  unfold appv
  split
  · split
    · rename_i n xs e0
      split
      · rename_i hc
        refine Rs.ok' (.set fun j hj hn c z hz => ?_)
        rcases List.mem_append.mp hz with hz | hz
        · exact c _ hn _ e0 z hz
        · have : z = y := by simpa using hz
          subst this
          exact storeCl hc.1 hj hn
      · exact Rs.bad
    · exact Rs.bad
  · exact Rs.bad
theorem p_extv : P2 k (extv k) := fun x y h hk => by
  unfold extv
  split
  · split
    · rename_i n xs ys e0 e1
      split
      · rename_i hc
        refine Rs.ok' (.set fun j hj hn c z hz => ?_)
        rcases List.mem_append.mp hz with hz | hz
        · exact c _ hn _ e0 z hz
        · exact storeCl (List.all_eq_true.mp hc.1 z hz) hj hn
      · exact Rs.bad
    · exact Rs.bad
  · exact Rs.bad
theorem p_popv : P1 k popv := fun x h hk => by
  unfold popv
  split
  · split
    · rename_i n xs e0
      split
      · exact Rs.ok' (.set fun j hj hn c z hz => c _ hn _ e0 z (List.dropLast_subset _ hz))
      · exact Rs.bad
    · exact Rs.bad
  · exact Rs.bad
theorem p_popAtv : P2 k popAtv := fun x y h hk => by
  unfold popAtv
  split
  · split
    · rename_i n _ xs e0
      split
      · split
        · exact Rs.ok' (.set fun j hj hn c z hz => c _ hn _ e0 z (List.mem_of_mem_eraseIdx hz))
        · exact Rs.bad
      · exact Rs.bad
    · exact Rs.bad
  · exact Rs.bad
theorem putCl {κ : Type} [DecidableEq κ] {j : Nat} {kvs : List (κ × PV)} {q : κ} {y : PV} (c : ∀ kv ∈ kvs, pvCl j kv.2) (hy : pvCl j y) : ∀ kv ∈ putP kvs q y, pvCl j kv.2 := by
  intro kv hkv
  unfold putP at hkv
  split at hkv
  · obtain ⟨p, hp, rfl⟩ := List.mem_map.mp hkv
    split
    · exact hy
    · exact c p hp
  · rcases List.mem_append.mp hkv with hkv | hkv
    · exact c kv hkv
    · have : kv = (q, y) := by simpa using hkv
      subst this
      exact hy
theorem p_setv (x y z : PV) (h : Hs) (hk : k ≤ h.length) : Rs k h (setv k x y z h) := by
  unfold setv
  split
  · split
    · rename_i n d xs e0
      split
      · split
        · split
          · rename_i hc
            refine Rs.ok' (.set fun j hj hn c w hw => ?_)
            rcases List.mem_or_eq_of_mem_set hw with hw | hw
            · exact c _ hn _ e0 w hw
            · subst hw; exact storeCl hc hj hn
          · exact Rs.bad
        · exact Rs.bad
      · exact Rs.bad
    · rename_i d _ ob _ e0
      split
      · rename_i ob' ed
        split
        · rename_i hc
          refine Rs.ok' (.set fun j hj hn c => ?_)
          have cc := c _ hn _ e0
          cases ob with
          | lst _ => cases ed
          | dK kvs =>
            have ed : (if kvs.length < line then (keyOf d).map fun k => Ob.dK (putP kvs k z) else none) = some ob' := ed
            split at ed
            · obtain ⟨q, _, rfl⟩ := Option.map_eq_some_iff.mp ed
              exact putCl cc (storeCl hc hj hn)
            · cases ed
          | dT kvs =>
            have ed : (if kvs.length < line then (keysOf d).map fun k => Ob.dT (putP kvs k z) else none) = some ob' := ed
            split at ed
            · obtain ⟨q, _, rfl⟩ := Option.map_eq_some_iff.mp ed
              exact putCl cc (storeCl hc hj hn)
            · cases ed
        · exact Rs.bad
      · exact Rs.bad
    · exact Rs.bad
  · exact Rs.bad
theorem p_dget2v (x y z : PV) (h : Hs) : Rs k h (dget2v x y z h) := by
  unfold dget2v
  split
  · split
    · exact Rs.ok
    · exact Rs.ok
    · exact Rs.bad
  · exact Rs.bad
theorem p_idxv : P2 k idxv := fun x y h hk => by
  unfold idxv
  split
  · split
    · exact Rs.of
    · exact Rs.bad
  · exact Rs.bad
theorem p_rngv (tp mt : Bool) : P2 k (rngv tp mt) := fun x y h hk => by
  unfold rngv
  split
  · split
    · split
      · exact Rs.ok
      · exact Rs.mkL hk
    · exact Rs.bad
  · exact Rs.bad
theorem p_dict1v : P1 k dict1v := fun x h hk => by
  unfold dict1v
  split
  · split
    · exact Rs.ok' (.alloc hk)
    · exact Rs.bad
  · exact Rs.bad
theorem p_biop (b : Bi) : P1 k (biop b) := fun vs h hk => by
  unfold biop
  split
  · unfold bi1
    split
    all_goals first
      | exact Rs.of
      | exact Rs.bad
      | exact p_dict1v _ h hk
      | (unfold int1v; split <;> first | exact Rs.ok | exact Rs.bad)
      | (unfold bool1v; split <;> first | exact Rs.ok | exact Rs.bad)
      | (unfold str1v; split <;> first | exact Rs.bad | (split <;> first | exact Rs.ok | exact Rs.bad))
      | (unfold reprv; split <;> first | exact Rs.bad | (split <;> first | exact Rs.ok | exact Rs.bad))
      | (split <;> first | exact Rs.ok | exact Rs.bad)
      | (split <;> first | exact Rs.bad | (split <;> first | exact Rs.ok | exact Rs.bad))
      | (split <;> first | exact Rs.bad | (split <;> first | exact Rs.mkL hk | exact Rs.bad))
  · unfold bi2
    split
    all_goals first
      | exact Rs.bad
      | (unfold max2v; split <;> first | exact Rs.ok | exact Rs.bad)
      | (unfold min2v; split <;> first | exact Rs.ok | exact Rs.bad)
  · exact Rs.bad
theorem p_itVal : P1 k itVal := fun x h hk => by
  unfold itVal
  split
  all_goals first
    | exact Rs.ok
    | exact Rs.bad
    | (split <;> first | exact Rs.ok | exact Rs.bad)
theorem p_itR1 : P1 k itR1 := fun x h hk => by unfold itR1; split; split; exact Rs.ok; exact Rs.bad; exact Rs.bad
theorem p_itR2 : P2 k itR2 := fun x y h hk => by unfold itR2; split; split; exact Rs.ok; exact Rs.bad; exact Rs.bad
theorem p_itZip : P2 k itZip := fun x y h hk => by unfold itZip; split; exact Rs.ok; exact Rs.ok; exact Rs.bad
theorem p_itEnu : P1 k itEnu := fun x h hk => by unfold itEnu; split; exact Rs.ok; exact Rs.ok; exact Rs.bad
theorem rs_compF {st : PV → Hs → R (Option PV)} (p : P1 k st) : ∀ (xs : List PV) (h : Hs), k ≤ h.length → Rs k h (compF st xs h)
  | [], h, _ => Rs.ok
  | x :: xs, h, hk => (p x h hk).bind (fun o h1 _ h2 => (rs_compF p xs h1 h2).bind (fun ys h3 _ _ => Rs.ok) h2) hk
theorem rs_compV {st : PV → Hs → R (Option PV)} (p : P1 k st) (n : Nat) : ∀ (f i : Nat) (h : Hs), k ≤ h.length → Rs k h (compV st n f i h)
  | 0, _, h, _ => Rs.bad
  | f + 1, i, h, hk => by
    unfold compV
    split
    · exact Rs.bad
    · split
      · exact Rs.ok
      · exact (p _ h hk).bind (fun o h1 _ h2 => (rs_compV p n f (i + 1) h1 h2).bind (fun ys h3 _ _ => Rs.ok) h2) hk
theorem p_compGo {st : PV → Hs → R (Option PV)} (p : P1 k st) (J : It) : P1 k (fun (_ : Unit) h => compGo st J h) := fun _ h hk => by
  unfold compGo
  cases J with
  | fx xs => exact (rs_compF p xs h hk).noExc
  | lv n => exact (rs_compV p n _ _ h hk).noExc
theorem p_compSt {own : List Nat} {t : Tg} {C : Sg → Hs → R Bool} {L : Sg → Hs → R PV} (c : Ev k C) (l : Ev k L) (σ : Sg) : P1 k (compSt own t C L σ) := fun x h hk => by
  unfold compSt
  split
  · exact Rs.bad
  · refine (c _ h hk).bind (fun b h1 _ h2 => ?_) hk
    cases b with
    | true => exact (l _ h1 h2).bind (fun _ _ _ _ => Rs.ok) h2
    | false => exact Rs.ok
variable {cf : Str → List PV → Hs → R PV}
def CfOk (cf : Str → List PV → Hs → R PV) : Prop := ∀ f vs h a h', cf f vs h = .ok a h' → Step h.length h h'
theorem p_cf (hc : CfOk cf) (f : Str) : P1 k (cf f) := fun vs h hk a h' e => (hc f vs h a h' e).mono hk
theorem evs_den (hc : CfOk cf) : ∀ e : E, Evs k (den cf k e)
  | .loc i => evs_val fun σ h hk => by
    show Rs k h (match σ[i]? with
      | some (some v) => .ok v h
      | _ => .bad)
    split
    · exact Rs.ok
    · exact Rs.bad
  | .lit x => evs_val fun _ _ _ => Rs.ok
  | .bin o a b => evs_val (ev_bind2 (evs_den hc a).e (evs_den hc b).e (p_binop o))
  | .neg a => evs_val (ev_bind1 (evs_den hc a).e p_negv)
  | .not a => evs_val (ev_bind1 (ev_tOf (evs_den hc a).e) fun _ _ _ => Rs.ok)
  | .and a b => evs_val fun σ h hk => ((evs_den hc a).e σ h hk).bind (fun x h1 _ h2 => Rs.bind Rs.of (fun c h3 _ h4 => by
      cases c with
      | true => exact (evs_den hc b).e σ h3 h4
      | false => exact Rs.ok) h2) hk
  | .or a b => evs_val fun σ h hk => ((evs_den hc a).e σ h hk).bind (fun x h1 _ h2 => Rs.bind Rs.of (fun c h3 _ h4 => by
      cases c with
      | false => exact (evs_den hc b).e σ h3 h4
      | true => exact Rs.ok) h2) hk
  | .cmp o a b => evs_val (ev_bind2 (evs_den hc a).e (evs_den hc b).e fun _ _ _ _ => Rs.of)
  | .chain o p a b c => evs_val fun σ h hk => ((evs_den hc a).e σ h hk).bind (fun x h1 _ h2 => ((evs_den hc b).e σ h1 h2).bind (fun y h3 _ h4 => Rs.bind Rs.of (fun t h5 _ h6 => by
      cases t with
      | true => exact ((evs_den hc c).e σ h5 h6).bind (fun _ _ _ _ => Rs.of) h6
      | false => exact Rs.ok) h4) h2) hk
  | .isNon a => evs_val (ev_bind1 (evs_den hc a).e fun _ _ _ => Rs.ok)
  | .notNon a => evs_val (ev_bind1 (evs_den hc a).e fun _ _ _ => Rs.ok)
  | .isBool v a => evs_val (ev_bind1 (evs_den hc a).e (p_isBoolv v))
  | .ite c a b => evs_val fun σ h hk => (ev_tOf (evs_den hc c).e σ h hk).bind (fun t h1 _ h2 => by
      cases t with
      | true => exact (evs_den hc a).e σ h1 h2
      | false => exact (evs_den hc b).e σ h1 h2) hk
  | .tup as => evs_val (ev_bind1 (evs_den hc as).a p_tupOf)
  | .lst mt as => evs_val (ev_bind1 (evs_den hc as).a (p_lstOf mt))
  | .isi a T => evs_val (ev_bind1 (evs_den hc a).e fun _ _ _ => Rs.of)
  | .call f as => evs_val (ev_bind1 (evs_den hc as).a (p_cf hc f))
  | .bi b as => evs_val (ev_bind1 (evs_den hc as).a (p_biop b))
  | .ix a i => evs_val (ev_bind2 (evs_den hc a).e (evs_den hc i).e p_ixv)
  | .sl a lo hi => evs_val fun σ h hk => ((evs_den hc a).e σ h hk).bind (fun x h1 _ h2 => ((evs_den hc lo).o σ h1 h2).bind (fun l h3 _ h4 => ((evs_den hc hi).o σ h3 h4).bind (fun u h5 _ h6 => p_slice x l u h5 h6) h4) h2) hk
  | .rev a => evs_val (ev_bind1 (evs_den hc a).e p_revv)
  | .app o x => evs_val fun σ h hk => ((evs_den hc o).e σ h hk).bind (fun l h1 _ h2 => ev_ite (h0 := h) (((evs_den hc x).e σ h1 h2).bind (fun y h3 _ h4 => p_appv l y h3 h4) h2) Rs.bad) hk
  | .ext o x => evs_val fun σ h hk => ((evs_den hc o).e σ h hk).bind (fun l h1 _ h2 => ev_ite (h0 := h) (((evs_den hc x).e σ h1 h2).bind (fun y h3 _ h4 => p_extv l y h3 h4) h2) Rs.bad) hk
  | .pop o => evs_val (ev_bind1 (evs_den hc o).e p_popv)
  | .popAt o i => evs_val fun σ h hk => ((evs_den hc o).e σ h hk).bind (fun l h1 _ h2 => ev_ite (h0 := h) (((evs_den hc i).e σ h1 h2).bind (fun y h3 _ h4 => p_popAtv l y h3 h4) h2) Rs.bad) hk
  | .cnt _ _ => ⟨ev_bad, ev_bad, ev_bad, ev_bad, ev_bad⟩
  | .idx o x => evs_val fun σ h hk => ((evs_den hc o).e σ h hk).bind (fun l h1 _ h2 => ev_ite (h0 := h) (((evs_den hc x).e σ h1 h2).bind (fun y h3 _ h4 => p_idxv l y h3 h4) h2) Rs.bad) hk
  | .lsR tp mt a b => evs_val (ev_bind2 (evs_den hc a).e (evs_den hc b).e (p_rngv tp mt))
  | .dnew t => evs_val fun _ h hk => Rs.ok' (.alloc hk)
  | .dget o x y => evs_val fun σ h hk => ((evs_den hc o).e σ h hk).bind (fun l h1 _ h2 => ev_ite (h0 := h) (((evs_den hc x).e σ h1 h2).bind (fun u h3 _ h4 => ((evs_den hc y).e σ h3 h4).bind (fun w h5 _ _ => p_dget2v l u w h5) h4) h2) Rs.bad) hk
  | .stk => ⟨ev_bad, ev_bad, ev_bad, ev_bad, ev_bad⟩
  | .comp mt own tg it cnd elt => evs_val fun σ h hk => ((evs_den hc it).i σ h hk).bind (fun J h1 _ h2 => (p_compGo (p_compSt (evs_den hc cnd).t (evs_den hc elt).e σ) J () h1 h2).bind (fun ys h3 _ h4 => p_lstOf mt ys h3 h4) h2) hk
  | .nil => evs_arg fun _ _ _ => Rs.ok
  | .cons a b => evs_arg fun σ h hk => ((evs_den hc a).e σ h hk).bind (fun x h1 _ h2 => ((evs_den hc b).a σ h1 h2).bind (fun xs h3 _ _ => Rs.ok) h2) hk
  | .prt a => ⟨ev_bad, ev_bad, ev_bad, ev_bad, ev_oOf (evs_den hc a).e⟩
  | .cnd a => ⟨ev_bad, ev_bad, ev_tOf (evs_den hc a).e, ev_bad, ev_bad⟩
  | .nop => ⟨ev_bad, ev_bad, fun _ _ _ => Rs.ok, ev_bad, fun _ _ _ => Rs.ok⟩
  | .iVal e => evs_itr (ev_bind1 (evs_den hc e).e p_itVal)
  | .iR1 a => evs_itr (ev_bind1 (evs_den hc a).e p_itR1)
  | .iR2 a b => evs_itr (ev_bind2 (evs_den hc a).e (evs_den hc b).e p_itR2)
  | .iZip a b => evs_itr (ev_bind2 (evs_den hc a).e (evs_den hc b).e p_itZip)
  | .iEnu a => evs_itr (ev_bind1 (evs_den hc a).e p_itEnu)
theorem rs_forF {t : Tg} {F : Sg → Hs → R (Fl × Sg)} (f : Ev k F) : ∀ (xs : List PV) (σ : Sg) (h : Hs), k ≤ h.length → Rs k h (forF t F xs σ h)
  | [], σ, h, _ => Rs.ok
  | x :: xs, σ, h, hk => by
    unfold forF
    split
    · exact Rs.bad
    · refine (f _ h hk).bind (fun p h1 _ h2 => ?_) hk
      split
      · exact rs_forF f xs _ h1 h2
      · exact rs_forF f xs _ h1 h2
      · exact Rs.ok
      · exact Rs.ok
theorem rs_forV {t : Tg} {F : Sg → Hs → R (Fl × Sg)} (f : Ev k F) (n : Nat) : ∀ (g i : Nat) (σ : Sg) (h : Hs), k ≤ h.length → Rs k h (forV t F n g i σ h)
  | 0, _, _, _, _ => Rs.bad
  | g + 1, i, σ, h, hk => by
    unfold forV
    split
    · exact Rs.bad
    · split
      · exact Rs.ok
      · split
        · exact Rs.bad
        · refine (f _ h hk).bind (fun p h1 _ h2 => ?_) hk
          split
          · exact rs_forV f n g _ _ h1 h2
          · exact rs_forV f n g _ _ h1 h2
          · exact Rs.ok
          · exact Rs.ok
theorem rs_whlF {C : Sg → Hs → R Bool} {F : Sg → Hs → R (Fl × Sg)} (c : Ev k C) (f : Ev k F) : ∀ (g : Nat) (σ : Sg) (h : Hs), k ≤ h.length → Rs k h (whlF C F g σ h)
  | 0, _, _, _ => Rs.bad
  | g + 1, σ, h, hk => by
    unfold whlF
    refine (c σ h hk).bind (fun b h1 _ h2 => ?_) hk
    cases b with
    | false => exact Rs.ok
    | true =>
      refine (f σ h1 h2).bind (fun p h3 _ h4 => ?_) h2
      split
      · exact rs_whlF c f g _ h3 h4
      · exact rs_whlF c f g _ h3 h4
      · exact Rs.ok
      · exact Rs.ok
theorem ev_evS (hc : CfOk cf) : ∀ s : S, Ev k (evS cf k s)
  | .skip => fun _ _ _ => Rs.ok
  | .seq a b => fun σ h hk => (ev_evS hc a σ h hk).bind (fun p h1 _ h2 => by
      split
      · exact ev_evS hc b _ h1 h2
      · exact Rs.ok) hk
  | .asg t e => ev_bind1' (evs_den hc e).e fun σ x h hk => Rs.of
  | .par is as => ev_bind1' (evs_den hc as).a fun σ x h hk => Rs.of
  | .sub o i v => fun σ h hk => ((evs_den hc v).e σ h hk).bind (fun z h1 _ h2 => ((evs_den hc o).e σ h1 h2).bind (fun x h3 _ h4 => ((evs_den hc i).e σ h3 h4).bind (fun y h5 _ h6 => (p_setv x y z h5 h6).bind (fun _ _ _ _ => Rs.ok) h6) h4) h2) hk
  | .aug i e => fun σ h hk => by
    show Rs k h (match σ[i]? with
      | some (some x) => (evE cf k e σ h).bind fun y h1 => (augv x y h1).bind fun z h2 => .ok (Fl.nx, σ.set i (some z)) h2
      | _ => .bad)
    split
    · refine ((evs_den hc e).e σ h hk).bind (fun y h1 _ h2 => Rs.bind ?_ (fun _ _ _ _ => Rs.ok) h2) hk
      unfold augv
      split
      · exact Rs.ok
      · exact Rs.bad
    · exact Rs.bad
  | .ex e => ev_bind1' (evs_den hc e).e fun σ x h hk => Rs.ok
  | .for_ t it b => fun σ h hk => ((evs_den hc it).i σ h hk).bind (fun J h1 _ h2 => by
      cases J with
      | fx xs => exact rs_forF (ev_evS hc b) xs σ h1 h2
      | lv n => exact rs_forV (ev_evS hc b) n _ _ σ h1 h2) hk
  | .whl c b => fun σ h hk => rs_whlF (ev_tOf (evs_den hc c).e) (ev_evS hc b) _ σ h hk
  | .ife c a b => fun σ h hk => (ev_tOf (evs_den hc c).e σ h hk).bind (fun t h1 _ h2 => by
      cases t with
      | true => exact ev_evS hc a σ h1 h2
      | false => exact ev_evS hc b σ h1 h2) hk
  | .ret e => ev_bind1' (evs_den hc e).e fun σ x h hk => Rs.ok
  | .stk => fun _ _ _ => Rs.bad
  | .brk => fun _ _ _ => Rs.ok
  | .cont => fun _ _ _ => Rs.ok
where
  ev_bind1' {α β : Type} {A : Sg → Hs → R α} {f : Sg → α → Hs → R β} (a : Ev k A) (p : ∀ σ x h, k ≤ h.length → Rs k h (f σ x h)) : Ev k (fun σ h => (A σ h).bind (f σ)) := fun σ h hk => (a σ h hk).bind (fun x h1 _ h2 => p σ x h1 h2) hk
theorem cl_take {j n : Nat} {h : Hs} (c : Cl j h) : Cl j (h.take n) := fun i hi o e => by
  rw [List.getElem?_take] at e
  split at e
  · exact c i hi o e
  · cases e
theorem step_fin {n : Nat} {h h1 : Hs} (s : Step h.length h h1) : Step h.length h (h1.take h.length) :=
  ⟨by rw [List.length_take]; have := s.le; omega, fun j hj c => cl_take (s.cl j hj c)⟩
theorem cf_ok (P : Pg) : ∀ n, CfOk (callN P n)
  | 0 => fun _ _ _ _ _ e => nomatch e
  | n + 1 => fun f vs h a h' e => by
    unfold callN at e
    split at e
    · cases e
    · rename_i fd _
      split at e
      · have ev := ev_evS (k := h.length) (cf_ok P n) fd.body (vs.map some ++ List.replicate (fd.ns - vs.length) none) h (Nat.le_refl _)
        generalize hr : evS (callN P n) h.length fd.body (vs.map some ++ List.replicate (fd.ns - vs.length) none) h = r at e ev
        cases r with
        | ok p h1 =>
          have s := ev p h1 rfl
          obtain ⟨fl, p'⟩ := p
          cases fl with
          | rt v =>
            have e : (match fd.kp with
              | true => handK h1 h.length v
              | false => R.of (handed h1 h.length v) (h1.take h.length)) = .ok a h' := e
            split at e
            · unfold handK at e
              split at e
              · split at e
                · cases e
                · split at e
                  · split at e
                    · cases e
                      have s2 := step_fin (n := h.length) s
                      refine s2.trans (.alloc ?_)
                      exact s2.le
                    · cases e
                  · cases e
              · cases e
            · cases eh : handed h1 h.length v with
              | none => rw [eh] at e; cases e
              | some w => rw [eh] at e; cases e; exact step_fin (n := h.length) s
          | nx =>
            have e : (match fd.kp with
              | true => .bad
              | false => .ok (.d .none) (h1.take h.length)) = R.ok a h' := e
            split at e
            · cases e
            · cases e; exact step_fin (n := h.length) s
          | bk => cases e
          | ct => cases e
        | exc _ _ => cases e
        | bad => cases e
      · cases e
end
end Iw
end

section
set_option Elab.async false
set_option linter.all false
set_option maxRecDepth 100000
/-! parameters that are all plain -/
namespace Iw
open PySem L2
theorem lookup_zip : ∀ {P : List Str} {us : List Value} {n : Str}, us.length = P.length → n ∈ P → ((P.zip us).lookup n).isNone = false
  | p :: P, u :: us, n, hl, h => by
    rw [List.zip_cons_cons, List.lookup_cons]
    cases e : n == p with
    | true => rfl
    | false =>
      have hn : n ≠ p := by simpa using e
      have : n ∈ P := (List.mem_cons.mp h).resolve_left hn
      exact lookup_zip (by simpa using hl) this
theorem fm_ext {α β : Type} {f g : α → Option β} : ∀ {l : List α}, (∀ x ∈ l, f x = g x) → l.filterMap f = l.filterMap g
  | [], _ => rfl
  | x :: l, h => by
    rw [List.filterMap_cons, List.filterMap_cons, h x List.mem_cons_self, fm_ext fun y hy => h y (List.mem_cons_of_mem _ hy)]
theorem zip_self : ∀ {P : List Str} {us : List Value}, P.Nodup → us.length = P.length → P.filterMap (fun n => ((P.zip us).lookup n).map (n, ·)) = P.zip us
  | [], us, _, _ => by simp
  | p :: P, u :: us, hn, hl => by
    rw [List.nodup_cons] at hn
    rw [List.zip_cons_cons, List.filterMap_cons]
    have e1 : (((p, u) :: P.zip us).lookup p).map (p, ·) = some (p, u) := by simp [List.lookup_cons]
    rw [e1]
    show (p, u) :: _ = _
    congr 1
    rw [← zip_self hn.2 (by simpa using hl)]
    rw [zip_self hn.2 (by simpa using hl)]
    refine Eq.trans (fm_ext fun n hm => ?_) (zip_self hn.2 (by simpa using hl))
    have : n ≠ p := fun e => hn.1 (e ▸ hm)
    rw [List.lookup_cons]
    have e2 : (n == p) = false := by simpa using this
    rw [e2]
theorem bind_plain {x qual : Str} {as : List Arg} {kd : List (Option Expr)} {ds : List Expr} {body : List Stmt} {scope : Scope} {kV doc pm : Value} {an : Option Addr} {cdv ct : Value} {us : List Value} (hn : (as.map (·.arg)).Nodup) (hl : us.length = as.length) :
    bindArgs (PySem.W.fnOf x qual ⟨[], as, none, [], kd, none, ds⟩ body scope .none kV doc pm an cdv ct) ⟨us, []⟩ = pure ((as.map (·.arg)).zip us) := by
  have hl2 : us.length = (as.map (·.arg)).length := by rw [List.length_map]; exact hl
  generalize hP : as.map (·.arg) = P at hn hl2
  have hm : (P.filter fun n => ((P.zip us).lookup n).isNone) = [] := by
    rw [List.filter_eq_nil_iff]
    intro n hnm
    rw [lookup_zip hl2 hnm]
    simp
  have hb := zip_self hn hl2
  unfold bindArgs
  simp only [List.map_nil, List.nil_append, hP, List.append_nil]
  have hs : seqItems? (Value.none) = pure none := rfl
  simp only [List.forIn_nil, pure_bind, hs]
  have h1 : ¬ (us.length > P.length ∧ True) := by omega
  simp [hl2, hm, hb]
end Iw
end

section
set_option Elab.async false
set_option linter.all false
set_option maxRecDepth 100000
/-! calls of the law's own functions -/
namespace Iw
open PySem PySem.Spec PyProof.Rows L2
def CXn : CXT := fun _ _ _ _ _ _ => False
def En : XK := fun _ _ _ => False
abbrev Spg := List V → Hp → VK → Prop
/-- a function's promise, where nothing is guarded -/
structure FnG (P : Program) (w : World) (K : PySem.W.Frag) (mg : Str → Option Value) (base : Heap) (k : Nat) (f : Addr) (fd : FuncData) (ps : List Str) (sp : Spg) : Prop where
  len : ∀ vs H Q, sp vs H Q → vs.length = ps.length
  run : ∀ (A : Around) (outer : List Env) (s : Shared) (H : Hp) (args : Args) (us : List Value) (vs : List V) (Q : VK), Room k A → A.guards = some [] → Env0 P w K mg base A outer s H → BindsTo s fd args (ps.zip us) → Vals vs us → sp vs H Q →
    codeAny (model P w) A (.call (.ref f) args) (CR CXn outer P w H s Q En) s
theorem fnG_of {P : Program} {w : World} {K : PySem.W.Frag} {mg : Str → Option Value} {base : Heap} {x qual : Str} {params : Arguments} {body : List Stmt} {scope : Scope} {dvs : List V} {kws : List (Str × V)} {f : Addr} {fd : FuncData} {N ps : List Str} {k : Nat} {sp : Spg} (F : FunD K x qual params body scope dvs kws f fd) (S : FnScope N ps scope) (len : ∀ vs H Q, sp vs H Q → vs.length = ps.length)
    (hbody : ∀ (cdv : Value) (A : Around) (outer : List Env) (s : Shared) (H : Hp) (vs : List V) (Q : VK), Room k (A.deeper (envOfC qual scope s.heap.objs.size f cdv)) → (A.deeper (envOfC qual scope s.heap.objs.size f cdv)).guards = some [] → sp vs H Q →
      ∃ t, PSs (cxOf CXn P w K mg base N qual scope f cdv A outer s H En).nox body t ∧ t { nx := fun _ H' => Q .non H', rt := Q } (L2.start N vs) H) : FnG P w K mg base (k + 1) f fd ps sp := by
  obtain ⟨oc, od, dV, kV, doc, pm, an, cdv, ct, osl, rfl, lk, hcd, _, _⟩ := F.ex
  refine ⟨len, fun A outer s H args us vs Q hr hgd e0 hb r hsp => ?_⟩
  have hl := len _ _ _ hsp
  have KX : K.In s.heap := e0.mod.kin.keeps fun b o e => (e0.bs b o e).1
  have lim : s.heap.NoLimit := e0.mod.nolimit.keeps fun b o e => (e0.bs b o e).1
  have hkind : ∀ y ∈ ps.zip us, scope.names.lookup y.1 = some .local ∨ (scope.names.lookup y.1 = some .cell ∧ ((cellsFrom (s.heap.objs.size + 1) scope.names []).lookup y.1).isSome = true) := fun ⟨n, v⟩ hy => by
    rcases S.par n (List.of_mem_zip hy).1 with q | q
    · exact .inl q
    · exact .inr ⟨q, PySem.W.cellsFrom_some _ _ _ (.inl q)⟩
  refine codeAny_call_function hr.depth (KX _ _ lk) rfl S.co S.gen rfl (PySem.W.codeRec_of KX hcd) (hb _ _ _ _ ?_)
  refine wpAny_newFunctionEnv_cells S.kind hkind fun env he s1 x => ?_
  subst he
  refine ⟨lim.keeps x.toInCall.keep, codeAny_func ?_⟩
  obtain ⟨t, ht, hq⟩ := hbody cdv A outer s H vs Q (hr.deeper _) hgd hsp
  have I : Inv (cxOf CXn P w K mg base N qual scope f cdv A outer s H En) [] (L2.start N vs) H s1 := inv_start S hr.hd e0 hl r x
  refine wpAny_mono (ht.nox.run [] s1 (L2.start N vs) H _ I hq) (fun fl s' hs => ?_) fun e s' hs => hs
  have fin : ∀ {σ' : L2.St} {H' : Hp} {v : V} {u : Value}, Inv (cxOf CXn P w K mg base N qual scope f cdv A outer s H En) [] σ' H' s' → RelV v u → Q v H' → CE outer P w H s Q u s' :=
    fun {σ' H' v u} J rv q => ⟨v, H', J.os, J.bare, J.base, J.hok, rv, q⟩
  cases fl with
  | ret u =>
    obtain ⟨v, σ', H', J, rv, q⟩ := hs
    exact fin J rv q
  | next =>
    obtain ⟨σ', H', J, q⟩ := hs
    exact fin (v := V.non) (u := Value.none) J rfl q
  | brk =>
    obtain ⟨_, _, _, q⟩ := hs
    exact False.elim q
  | cont =>
    obtain ⟨_, _, _, q⟩ := hs
    exact False.elim q
theorem FnG.mono {P : Program} {w : World} {K : PySem.W.Frag} {mg : Str → Option Value} {base : Heap} {j k : Nat} {f : Addr} {fd : FuncData} {ps : List Str} {sp : Spg} (F : FnG P w K mg base j f fd ps sp) (h : j ≤ k) : FnG P w K mg base k f fd ps sp :=
  ⟨F.len, fun A outer s H args us vs Q hr => F.run A outer s H args us vs Q (hr.mono h)⟩
section
variable {X : Cx} {k : Nat} {f : Addr} {fd : FuncData} {ps : List Str} {sp : Spg}
theorem call_G (F : FnG X.prog X.w X.K X.mg X.base k f fd ps sp) (hr : Room k X.A) (hg : X.A.guards = some []) (hb : Binds X.K fd ps []) : CallR X (.ref f) sp := by
  intro pins s σ H vs us Q I r h
  have hl : us.length = ps.length := by rw [← r.length]; exact F.len _ _ _ h
  have b := hb s us I.kIn (by rw [List.append_nil]; exact hl)
  rw [List.append_nil] at b
  refine wpAny_call (codeAny_mono (F.run X.A X.stack s H ⟨us, []⟩ us vs Q hr hg I.env0 b r h) fun r s' hq => ?_)
  cases r with
  | error e => exact False.elim hq
  | ok fl =>
    cases fl with
    | ret u => exact I.after hq
    | next => exact False.elim hq
    | brk => exact False.elim hq
    | cont => exact False.elim hq
theorem e_call {W : WX} {A : Dn} {cf : Str → List PV → Hs → R PV} {x : Str} {p pos : Pos} {e : Expr} {es : List Expr} (hc : CallR X (.ref f) (rs X (cf x))) (hg : Gl X x) (hm : X.mg x = some (.ref f)) (hk : PySem.W.keepIn X.K (.ref f) = true) (ha : PA X (e :: es) (tA X W A.a)) (hdb : (x == ("__debug__" : Str)) = false)
    (he : starEach (e :: es) X.env = (false, eval e X.env) :: starEach es X.env) (hpl : (backTo pos (starEach es X.env)).any (·.1) = false) : PE X (.Call (.Name x p) (e :: es) [] pos) (tE X W (args A (cf x)).e) := by
  refine PE.imp (t := tCB (rs X (cf x)) (tA X W A.a)) ⟨fun pins s σ H Q I h => ?_⟩ fun _ _ _ => t_args
  refine wpAny_Call_Name_kw (ld_glob I hg hm ?_ hdb)
  refine PySem.W.callWith_K (h₀ := X.base) I.ok.mod.kin hk (thn (ha.run pos pins s σ H _ I h) fun us s1 ⟨vs, H1, I1, r, q⟩ => ⟨I1.kIn, ?_⟩) he hpl
  exact hc pins s1 σ H1 vs us Q I1 r q
end
/-! ### a call's end -/
section
variable {K : PySem.W.Frag} {mg : Str → Option Value} {m m' : Mp} {H H' : Hp} {h h' : Hs}
theorem rh_cl (rh : RH K m h H) : Cl h.length h := fun n hn o e => by
  obtain ⟨a, u, h1, h2, h3⟩ := rh.at_ n o e
  have go : ∀ {v : V} {x : PV}, RV K m H v x → pvCl h.length x := fun {v x} r => by
    cases r with
    | d _ => exact trivial
    | ref ha =>
      have := (List.getElem?_eq_some_iff.mp ha).1
      rw [rh.len] at this
      exact this
    | scr _ => exact trivial
  have al : ∀ {vs : List V} {xs : List PV}, RVs K m H vs xs → ∀ x ∈ xs, pvCl h.length x := fun r => by
    induction r with
    | nil => intro x hx; cases hx
    | cons r _ ih =>
      intro x hx
      rcases List.mem_cons.mp hx with e | hx
      · rw [e]; exact go r
      · exact ih x hx
  have ad : ∀ {κ : Type} {vs : List (κ × V)} {xs : List (κ × PV)}, Paired (fun p q => p.1 = q.1 ∧ RV K m H p.2 q.2) vs xs → ∀ x ∈ xs, pvCl h.length x.2 := fun r => by
    induction r with
    | nil => intro x hx; cases hx
    | cons r _ ih =>
      intro x hx
      rcases List.mem_cons.mp hx with e | hx
      · rw [e]; exact go r.2
      · exact ih x hx
  cases h3 with
  | lst r => exact al r
  | dK r => exact ad r
  | dT r => exact ad r
/-- the map of what is older than the call -/
abbrev Mp.old (m : Mp) (k : Nat) : Mp := ⟨m.own.take k, m.hid⟩
theorem less_old {k : Nat} : Less m (m.old k) := fun a z => z.elim (fun z => .inl (List.mem_of_mem_take z)) .inr
theorem rv_old {k : Nat} {v : V} {x : PV} (r : RV K m H v x) (c : pvCl k x) : RV K (m.old k) H v x := by
  cases r with
  | d r => exact .d (r.less less_old)
  | ref ha =>
    refine .ref ?_
    show (m.own.take k)[_]? = _
    rw [List.getElem?_take, if_pos (show _ < k from c)]; exact ha
  | scr s => exact .scr (s.imp (fun z => ⟨z.1, fun q => z.2 (less_old _ q)⟩) id)
theorem ro_old {k : Nat} {u : HO} {o : Ob} (r : RO K m H u o) (c : obCl k o) : RO K (m.old k) H u o := by
  have ad : ∀ {κ : Type} {vs : List (κ × V)} {xs : List (κ × PV)}, Paired (fun p q => p.1 = q.1 ∧ RV K m H p.2 q.2) vs xs → (∀ x ∈ xs, pvCl k x.2) → Paired (fun p q => p.1 = q.1 ∧ RV K (m.old k) H p.2 q.2) vs xs := fun r => by
    induction r with
    | nil => intro _; exact .nil
    | cons r _ ih => intro c; exact .cons ⟨r.1, rv_old r.2 (c _ List.mem_cons_self)⟩ (ih fun x hx => c x (List.mem_cons_of_mem _ hx))
  cases r with
  | lst r =>
    have al : ∀ {vs : List V} {xs : List PV}, RVs K m H vs xs → (∀ x ∈ xs, pvCl k x) → RVs K (m.old k) H vs xs := fun r => by
      induction r with
      | nil => intro _; exact .nil
      | cons r _ ih => intro c; exact .cons (rv_old r (c _ List.mem_cons_self)) (ih fun x hx => c x (List.mem_cons_of_mem _ hx))
    exact .lst (al r c)
  | dK r => exact .dK (ad r c)
  | dT r => exact .dT (ad r c)
theorem rh_old {k : Nat} (rh : RH K m h H) (c : Cl k h) : RH K (m.old k) (h.take k) H := by
  refine ⟨by simp [rh.len], rh.nd.sublist (List.take_sublist _ _), fun a ha => ⟨fun z => (rh.hd a ha).1 (List.mem_of_mem_take z), (rh.hd a ha).2⟩, fun n o e => ?_⟩
  rw [List.getElem?_take] at e
  split at e
  · rename_i hn
    obtain ⟨a, u, h1, h2, h3⟩ := rh.at_ n o e
    exact ⟨a, u, by show (m.own.take k)[n]? = _; rw [List.getElem?_take, if_pos hn]; exact h1, h2, ro_old h3 (c n hn o e)⟩
  · cases e
theorem evo_old {k : Nat} (rh : RH K m h H) (e : Evo m H m' H') (hk : h.length = k) : Evo m H (m'.old k) H' := by
  refine ⟨?_, e.hd, fun a o q n => ⟨(e.kp a o q n).1, fun z => (e.kp a o q n).2 (less_old _ z)⟩⟩
  obtain ⟨t, et⟩ := e.pre
  refine ⟨[], ?_⟩
  show m.own ++ [] = m'.own.take k
  rw [← et, List.append_nil, ← hk, ← rh.len, List.take_left']
  rfl
theorem thaw_at {k : Nat} (rh : RH K m h H) : ∀ (f : Nat) {v : V} {x : PV} {d : PyData}, RV K m H v x → thaw h k f x = some d → Rp (m.old k) H v d
  | 0, v, x, d, r, e => by
    cases x with
    | d y => cases e; exact (rv_d r).less less_old
    | ref n => cases e
    | scr _ => cases e
  | f + 1, v, x, d, r, e => by
    cases x with
    | d y => cases e; exact (rv_d r).less less_old
    | scr _ => cases e
    | ref n =>
      have e : (if n < k then none else match h[n]? with
        | some (.lst xs) => ((xs.map (thaw h k f)).foldr (fun o acc => o.bind fun x => acc.map (x :: ·)) (some [])).map PyData.list
        | _ => none) = some d := e
      split at e
      · cases e
      · rename_i hn
        split at e
        · rename_i xs e0
          obtain ⟨ds, e1, rfl⟩ := Option.map_eq_some_iff.mp e
          obtain ⟨a, vs, rfl, h1, h2, h3⟩ := rv_ref rh r e0
          have na : a ∉ m.old k := fun z => by
            rcases z with z | z
            · obtain ⟨i, hi⟩ := List.getElem?_of_mem z
              have hi : (m.own.take k)[i]? = some a := hi
              rw [List.getElem?_take] at hi
              split at hi
              · rename_i hik
                obtain ⟨g1, g2⟩ := List.getElem?_eq_some_iff.mp hi
                obtain ⟨g3, g4⟩ := List.getElem?_eq_some_iff.mp h1
                have := (List.getElem_inj rh.nd).mp (g2.trans g4.symm)
                omega
              · cases hi
            · exact (rh.hd a z).1 (List.mem_of_getElem? h1)
          refine .lst h2 na ?_
          have go : ∀ {vs : List V} {xs : List PV}, RVs K m H vs xs → ∀ ds : List PyData, (xs.map (thaw h k f)).foldr (fun o acc => o.bind fun x => acc.map (x :: ·)) (some []) = some ds → RpA (m.old k) H vs ds := fun r => by
            induction r with
            | nil => intro ds e; cases e; exact .nil
            | @cons v x vs xs r _ ih =>
              intro ds e
              have e : (thaw h k f x).bind (fun x => ((xs.map (thaw h k f)).foldr (fun o acc => o.bind fun x => acc.map (x :: ·)) (some [])).map (x :: ·)) = some ds := e
              obtain ⟨d1, q1, q2⟩ := Option.bind_eq_some_iff.mp e
              obtain ⟨ds1, q3, rfl⟩ := Option.map_eq_some_iff.mp q2
              exact .cons (thaw_at rh f r q1) (ih _ q3)
          exact go h3 _ e1
        · cases e
theorem handed_at {k : Nat} (rh : RH K m h H) {v : V} {x w : PV} (r : RV K m H v x) (e : handed h k x = some w) : RV K (m.old k) H v w := by
  cases x with
  | d y => cases e; exact rv_old r trivial
  | scr _ => cases e; exact rv_old r trivial
  | ref n =>
    have e : (if n < k then some (.ref n) else (thaw h k 8 (.ref n)).map PV.d) = some w := e
    split at e
    · rename_i hn
      cases e; exact rv_old r hn
    · obtain ⟨d, e1, rfl⟩ := Option.map_eq_some_iff.mp e
      exact .d (thaw_at rh 8 r e1)
theorem kept_at {k : Nat} {o : Ob} (rh : RH K m h H) {v : V} {n : Nat} (r : RV K m H v (.ref n)) (hn : ¬ n < k) (hk : k ≤ h.length) (c : Cl k h) (e : h[n]? = some o) (ok : keepOb k o = true) :
    ∃ a, v = .ref a ∧ a ∉ m.old k ∧ RH K ((m.old k).add a) (h.take k ++ [o]) H ∧ RV K ((m.old k).add a) H v (.ref k) ∧ a ∈ m := by
  obtain ⟨a, u, h1, h2, h3⟩ := rh.at_ n o e
  have ra : v = .ref a := by
    cases r with
    | ref ha => rw [h1] at ha; cases ha; rfl
  subst ra
  have na : a ∉ m.old k := fun z => by
    rcases z with z | z
    · obtain ⟨i, hi⟩ := List.getElem?_of_mem z
      have hi : (m.own.take k)[i]? = some a := hi
      rw [List.getElem?_take] at hi
      split at hi
      · rename_i hik
        obtain ⟨g1, g2⟩ := List.getElem?_eq_some_iff.mp hi
        obtain ⟨g3, g4⟩ := List.getElem?_eq_some_iff.mp h1
        have := (List.getElem_inj rh.nd).mp (g2.trans g4.symm)
        omega
      · cases hi
    · exact (rh.hd a z).1 (List.mem_of_getElem? h1)
  have hl : (m.own.take k).length = k := by rw [List.length_take, rh.len]; omega
  have hl2 : (h.take k).length = k := by rw [List.length_take]; omega
  have base := rh_old rh c
  have lessA : Less m ((m.old k).add a) := fun b z => by
    rcases z with z | z
    · rcases List.mem_append.mp z with z | z
      · exact .inl (List.mem_of_mem_take z)
      · have : b = a := by simpa using z
        rw [this]; exact .inl (List.mem_of_getElem? h1)
    · exact .inr z
  have rvx : ∀ {v : V} {x : PV}, RV K m H v x → pvCl k x → RV K ((m.old k).add a) H v x := fun {v x} r c => by
    cases r with
    | d r => exact .d (r.less lessA)
    | ref ha =>
      refine .ref ?_
      show (m.own.take k ++ [a])[_]? = _
      rw [List.getElem?_append_left (by rw [hl]; exact c), List.getElem?_take, if_pos (show _ < k from c)]; exact ha
    | scr s => exact .scr (s.imp (fun z => ⟨z.1, fun q => z.2 (lessA _ q)⟩) id)
  have rox : ∀ {u : HO} {o : Ob}, RO K m H u o → obCl k o → RO K ((m.old k).add a) H u o := fun {u o} r c => by
    have ad : ∀ {κ : Type} {vs : List (κ × V)} {xs : List (κ × PV)}, Paired (fun p q => p.1 = q.1 ∧ RV K m H p.2 q.2) vs xs → (∀ x ∈ xs, pvCl k x.2) → Paired (fun p q => p.1 = q.1 ∧ RV K ((m.old k).add a) H p.2 q.2) vs xs := fun r => by
      induction r with
      | nil => intro _; exact .nil
      | cons r _ ih => intro c; exact .cons ⟨r.1, rvx r.2 (c _ List.mem_cons_self)⟩ (ih fun x hx => c x (List.mem_cons_of_mem _ hx))
    cases r with
    | lst r =>
      have al : ∀ {vs : List V} {xs : List PV}, RVs K m H vs xs → (∀ x ∈ xs, pvCl k x) → RVs K ((m.old k).add a) H vs xs := fun r => by
        induction r with
        | nil => intro _; exact .nil
        | cons r _ ih => intro c; exact .cons (rvx r (c _ List.mem_cons_self)) (ih fun x hx => c x (List.mem_cons_of_mem _ hx))
      exact .lst (al r c)
    | dK r => exact .dK (ad r c)
    | dT r => exact .dT (ad r c)
  have kv : ∀ x, keepV k x = true → pvCl k x := fun x h => by
    cases x with
    | d _ => exact trivial
    | ref j => exact (by simpa [keepV] using h : j < k)
    | scr _ => exact trivial
  have oc : obCl k o := by
    cases o with
    | lst xs => exact fun x hx => kv x (List.all_eq_true.mp (show xs.all (keepV k) = true from ok) x hx)
    | dK xs => exact fun x hx => kv x.2 (List.all_eq_true.mp (show (xs.all fun kv => keepV k kv.2) = true from ok) x hx)
    | dT xs => exact fun x hx => kv x.2 (List.all_eq_true.mp (show (xs.all fun kv => keepV k kv.2) = true from ok) x hx)
  refine ⟨a, rfl, na, ⟨by simp [hl, hl2], ?_, fun b hb => ?_, fun j o' e' => ?_⟩, .ref ?_, .inl (List.mem_of_getElem? h1)⟩
  · show (m.own.take k ++ [a]).Nodup
    rw [List.nodup_append]
    refine ⟨base.nd, by simp, fun b hb d hd => ?_⟩
    have : d = a := by simpa using hd
    rintro rfl
    exact na (.inl (this ▸ hb))
  · refine ⟨fun z => ?_, (rh.hd b hb).2⟩
    rcases List.mem_append.mp z with z | z
    · exact (rh.hd b hb).1 (List.mem_of_mem_take z)
    · have : b = a := by simpa using z
      exact na (this ▸ .inr hb)
  · by_cases hj : j < k
    · rw [List.getElem?_append_left (by rw [hl2]; exact hj), List.getElem?_take, if_pos hj] at e'
      obtain ⟨b, w, q1, q2, q3⟩ := rh.at_ j o' e'
      refine ⟨b, w, ?_, q2, rox q3 (c j hj o' e')⟩
      show (m.own.take k ++ [a])[j]? = _
      rw [List.getElem?_append_left (by rw [hl]; exact hj), List.getElem?_take, if_pos hj]; exact q1
    · rw [List.getElem?_append_right (by rw [hl2]; omega), hl2] at e'
      have hj0 : j = k := by
        have := (List.getElem?_eq_some_iff.mp e').1
        simp at this
        omega
      subst hj0
      simp at e'
      subst e'
      refine ⟨a, u, ?_, h2, rox h3 oc⟩
      show (m.own.take j ++ [a])[j]? = _
      rw [List.getElem?_append_right (by rw [hl]; exact Nat.le_refl _), hl]
      simp
  · show (m.own.take k ++ [a])[k]? = _
    rw [List.getElem?_append_right (by rw [hl]; exact Nat.le_refl _), hl]
    simp
theorem evo_kept {k : Nat} {a : Addr} (rh : RH K m h H) (e : Evo m H m' H') (hk : h.length = k) (ha : a ∈ m') : Evo m H ((m'.old k).add a) H' := by
  have e2 := evo_old rh e hk
  refine ⟨e2.pre.trans (List.prefix_append _ _), e2.hd, fun b o q n => ⟨(e2.kp b o q n).1, fun z => ?_⟩⟩
  rcases z with z | z
  · rcases List.mem_append.mp z with z | z
    · exact (e2.kp b o q n).2 (.inl z)
    · have : b = a := by simpa using z
      exact (e.kp b o q n).2 (this ▸ ha)
  · exact (e2.kp b o q n).2 (.inr z)
/-- the body's end is the call's -/
theorem fin_sat {E : Value → Hp → Prop} {Q : VK} {kp : Bool} {r : R (Fl × Sg)} (rh : RH K m h H) (st : Rs h.length h r) (hs : satG mg K E m H (RV K) (fin kp h.length r) Q) : satR K { nx := fun _ H' => Q .non H', rt := Q } m H r := by
  cases r with
  | ok p h' =>
    have s := st p h' rfl
    have c := s.cl h.length (Nat.le_refl _) (rh_cl rh)
    obtain ⟨fl, p'⟩ := p
    intro σ' H' m' ev rh' rs'
    have evo := evo_old rh ev rfl
    have rho := rh_old rh' c
    cases fl with
    | nx =>
      cases kp with
      | true => exact hs.elim
      | false =>
        have hs : satG mg K E m H (RV K) (.ok (.d .none) (h'.take h.length)) Q := hs
        exact hs _ H' _ evo rho (.d .non)
    | rt v =>
      intro w rw
      cases kp with
      | false =>
        have hs : satG mg K E m H (RV K) (R.of (handed h' h.length v) (h'.take h.length)) Q := hs
        cases eh : handed h' h.length v with
        | none => rw [eh] at hs; exact hs.elim
        | some x =>
          rw [eh] at hs
          exact hs _ H' _ evo rho (handed_at rh' rw eh)
      | true =>
        cases v with
        | ref n =>
          have hs : satG mg K E m H (RV K) (if n < h.length then .bad else match h'[n]? with
            | some o => if keepOb h.length o = true then .ok (.ref h.length) (h'.take h.length ++ [o]) else .bad
            | none => .bad) Q := hs
          split at hs
          · exact hs.elim
          · rename_i hn
            split at hs
            · rename_i o e0
              obtain ⟨hk, hs⟩ := satG_if hs
              obtain ⟨a, rfl, na, q1, q2, q3⟩ := kept_at rh' rw hn s.le c e0 hk
              exact hs _ H' _ (evo_kept rh ev rfl q3) q1 q2
            · exact hs.elim
        | d _ => exact hs.elim
        | scr _ => exact hs.elim
    | bk => exact hs.elim
    | ct => exact hs.elim
  | exc _ _ => exact hs.elim
  | bad => exact hs.elim
theorem rs_start {N : List Str} {vs : List V} {ps : List PV} (r : RVs K m H vs ps) : RS K m H (L2.start N vs) (ps.map some ++ List.replicate (N.length - ps.length) none) := by
  have hl := r.len
  refine ⟨by simp [L2.start, hl], fun i x e => ?_⟩
  by_cases hi : i < ps.length
  · rw [List.getElem?_append_left (by simpa using hi), List.getElem?_map] at e
    obtain ⟨y, e1, e2⟩ := Option.map_eq_some_iff.mp e
    cases e2
    obtain ⟨v, q1, q2⟩ := PairedGet r e1
    refine ⟨v, ?_, q2⟩
    unfold L2.start
    rw [List.getElem?_append_left (by simpa [hl] using hi), List.getElem?_map, q1]; rfl
  · rw [List.getElem?_append_right (by simpa using hi)] at e
    obtain ⟨g1, g2⟩ := List.getElem?_eq_some_iff.mp e
    simp at g2
end
end Iw
end

section
set_option Elab.async false
set_option linter.all false
set_option maxRecDepth 100000
/-! from the tree to the interpreter's own terms: expressions -/
namespace Iw
open PySem PySem.Spec PyProof.Rows L2
/-- what is known of the place: the scope that runs, as it is written, the slots' names, global literals, functions, built-ins that no global hides, names that stand for lists (dicts) to be changed -/
structure Cs where
  sc : Scope
  raw : Scope
  fl : Bool
  N : List Str
  lits : List (Str × PyData)
  fns : List Str
  free : List Str
  mn : List Str
  dt : Bool
def ixOf (x : Str) : List Str → Nat → Option Nat
  | [], _ => none
  | y :: ys, i => if x = y then some i else ixOf x ys (i + 1)
theorem ixOf_at {x : Str} : ∀ {N : List Str} {i j : Nat}, ixOf x N i = some j → i ≤ j ∧ N[j - i]? = some x
  | [], _, _, h => by cases h
  | y :: ys, i, j, h => by
    unfold ixOf at h
    split at h
    · rename_i e
      cases h
      subst e
      exact ⟨Nat.le_refl _, by simp⟩
    · obtain ⟨h1, h2⟩ := ixOf_at h
      refine ⟨by omega, ?_⟩
      rw [show j - i = (j - (i + 1)) + 1 by omega]
      simpa using h2
theorem ixOf_get {x : Str} {N : List Str} {j : Nat} (h : ixOf x N 0 = some j) : N[j]? = some x := by simpa using (ixOf_at h).2
def plainName (x : Str) : Bool := !(x == ("__debug__" : Str)) && !(x == ("__classdict__" : Str))
def Cs.vis (c : Cs) (x : Str) : Bool := match c.sc.names.lookup x with
  | some .local => true
  | some .cell => true
  | some .free => true
  | _ => false
/-- a name that may be written -/
def Cs.st (c : Cs) (x : Str) : Bool := match c.raw.names.lookup x with
  | some .local => true
  | some .cell => true
  | _ => false
def Cs.gl (c : Cs) (x : Str) : Bool := decide (c.sc.names.lookup x = some .globalImplicit) && (decide (x ≠ "__name__") && plainName x)
def Cs.blk (c : Cs) (scope : Scope) : Cs := { c with sc := relS scope c.sc, raw := scope, fl := false }
structure Good (cf : Str → List PV → Hs → R PV) (X : Cx) (c : Cs) : Prop where
  sc : X.env.scope = c.sc
  nn : X.N = c.N
  nd : c.N.Nodup
  calm : X.calm = true
  gd : X.A.guards = some []
  un : X.A.units + 64 < cLine
  un2 : X.A.units + 70 < cLine
  st : ∀ x, c.st x = true → Loc X.env.scope x ∧ (X.fn x = true ∨ X.env.scope.names.lookup x = some .local)
  free : ∀ x, x ∈ c.free → X.mg x = none
  lits : ∀ x d, c.lits.lookup x = some d → ∃ u v, X.mg x = some u ∧ RelV v u ∧ ∀ m H, Rp m H v d
  fns : ∀ x, x ∈ c.fns → ∃ (k : Nat) (f : Addr) (fd : FuncData) (ps : List Str), FnG X.prog X.w X.K X.mg X.base k f fd ps (rs X (cf x)) ∧ Room k X.A ∧ Binds X.K fd ps [] ∧ PySem.W.keepIn X.K (.ref f) = true ∧ X.mg x = some (.ref f)
theorem Good.blk {cf : Str → List PV → Hs → R PV} {X : Cx} {c : Cs} (g : Good cf X c) (s : Shared) (H : Hp) (scope : Scope) (C : Addr) (cl : List (Str × Addr)) (fp : List Addr) : Good cf (X.blk s H scope (compEnvC scope cl C X.env) fp) (c.blk scope) where
  sc := by
    show relS scope X.env.scope = relS scope c.sc
    rw [g.sc]
  nn := g.nn
  nd := g.nd
  calm := g.calm
  gd := g.gd
  un := g.un
  un2 := g.un2
  st := fun x h => by
    show Loc (relS scope X.env.scope) x ∧ ((scope.names.lookup x == some .cell) = true ∨ (relS scope X.env.scope).names.lookup x = some .local)
    have h : (match scope.names.lookup x with
      | some .local => true
      | some .cell => true
      | _ => false) = true := h
    split at h
    · rename_i e
      have e2 : (relS scope X.env.scope).names.lookup x = some .local := lookup_relS_keep (by decide) e
      exact ⟨.inl e2, .inr e2⟩
    · rename_i e
      have e2 : (relS scope X.env.scope).names.lookup x = some .cell := lookup_relS_keep (by decide) e
      exact ⟨.inr e2, .inl (by rw [e]; rfl)⟩
    · cases h
  free := g.free
  lits := g.lits
  fns := g.fns
/-! ### the forms -/
def isStar : Expr → Bool
  | .Starred _ _ => true
  | _ => false
def trName (c : Cs) (x : Str) : E := match ixOf x c.N 0 with
  | some i => if (c.vis x && plainName x) = true then .loc i else .stk
  | none => match c.lits.lookup x with
    | some d => if c.gl x = true then .lit d else .stk
    | none => .stk
def trConst : Const → E
  | .none => .lit .none
  | .bool b => .lit (.bool b)
  | .int i => .lit (.int i)
  | .str x => .lit (.str x)
  | _ => .stk
def boOf : Operator → Option BO
  | .Add => some .add
  | .Sub => some .sub
  | .Mult => some .mul
  | .FloorDiv => some .fdv
  | .Mod => some .mod
  | .Pow => some .pow
  | _ => none
def coOf : CmpOp → Option CO
  | .Eq => some .eq
  | .NotEq => some .ne
  | .Lt => some .lt
  | .LtE => some .le
  | .Gt => some .gt
  | .GtE => some .ge
  | .In => some .isin
  | .NotIn => some .nin
  | _ => none
def isSetE : Expr → Bool
  | .Set _ _ _ => true
  | _ => false
def isIfE : Expr → Bool
  | .IfExp _ _ _ _ => true
  | _ => false
def isSlE : Expr → Bool
  | .Slice _ _ _ _ => true
  | _ => false
def isCallE : Expr → Bool
  | .Call _ _ _ _ => true
  | _ => false
abbrev Tr := Cs → Bool → Expr → E
/-- as a test: the forms whose test is not their value's are left out, but for those below -/
def trT (f : Tr) (c : Cs) (e : Expr) : E := if isIfE e = true then .stk else f c false e
def trA (f : Tr) (c : Cs) : List Expr → E
  | [] => .nil
  | e :: es => if isStar e = true then .stk else .cons (f c false e) (trA f c es)
/-- the same, with a word for each of them -/
def trAb (f : Tr) (c : Cs) : List Bool → List Expr → E
  | _, [] => .nil
  | [], e :: es => if isStar e = true then .stk else .cons (f c false e) (trAb f c [] es)
  | b :: bs, e :: es => if isStar e = true then .stk else .cons (f c b e) (trAb f c bs es)
def trB (f : Tr) (c : Cs) (op : BoolOp) : List Expr → E
  | [] => .stk
  | [e] => trT f c e
  | e :: es => match op with
    | .And => .and (trT f c e) (trB f c op es)
    | .Or => .or (trT f c e) (trB f c op es)
def trCmp (f : Tr) (c : Cs) (a : Expr) : List CmpOp → List Expr → E
  | [op], [b] => if isSetE b = true then .stk else match op, b with
    | .Is, .Constant .none _ _ => .isNon (f c false a)
    | .IsNot, .Constant .none _ _ => .notNon (f c false a)
    | op, b => match coOf op with
      | some o => .cmp o (f c false a) (f c false b)
      | none => .stk
  | [op, oq], [b, d] => if (isSetE b || isSetE d) = true then .stk else match coOf op, coOf oq with
    | some o, some q => .chain o q (f c false a) (f c false b) (f c false d)
    | _, _ => .stk
  | _, _ => .stk
def trO (f : Tr) (c : Cs) : Option Expr → E
  | none => .nop
  | some e => .prt (f c false e)
def trSub (f : Tr) (c : Cs) (a : Expr) : Expr → E
  | .Slice lo hi none _ => .sl (f c false a) (trO f c lo) (trO f c hi)
  | .Slice none none (some (.UnaryOp .USub (.Constant (.int 1) _ _) _)) _ => .rev (f c false a)
  | .Slice _ _ (some _) _ => .stk
  | i => .ix (f c false a) (f c false i)
def bi1T (mt : Bool) : List (Str × Bi) := [("all", .all), ("any", .any), ("len", .len), ("int", .int1), ("bool", .bool1), ("str", .str1), ("repr", .repr), ("max", .max1), ("min", .min1), ("sum", .sum), ("tuple", .tuple1), ("list", .list1 mt), ("sorted", .srt1 mt), ("dict", .dict1)]
def bi2T : List (Str × Bi) := [("max", .max2), ("min", .min2)]
def biOf (mt : Bool) (x : Str) : Nat → Option Bi
  | 1 => (bi1T mt).lookup x
  | 2 => bi2T.lookup x
  | _ => none
def tyOf (x : Str) : Option String :=
  if x = "int" then some "int" else if x = "bool" then some "bool" else if x = "str" then some "str" else if x = "tuple" then some "tuple" else if x = "list" then some "list" else if x = "dict" then some "dict" else none
def trIsi (f : Tr) (c : Cs) : List Expr → E
  | [a, .Name y _] => if (!isStar a && (c.gl y && decide (y ∈ c.free))) = true then (match tyOf y with
    | some T => .isi (f c false a) T
    | none => .stk) else .stk
  | _ => .stk
def anyStar : List Expr → Bool
  | [] => false
  | e :: es => isStar e || anyStar es
/-- a call of range alone -/
def isRng (c : Cs) : List Expr → Bool
  | [.Call (.Name y _) [_] [] _] => decide (y = "range" ∧ y ∈ c.free) && c.gl y
  | [.Call (.Name y _) [_, _] [] _] => decide (y = "range" ∧ y ∈ c.free) && c.gl y
  | _ => false
def trRng (f : Tr) (c : Cs) (mt : Bool) (x : Str) : List Expr → E
  | [.Call (.Name _ _) [a] [] _] => if isStar a = true then .stk else .lsR (decide (x = "tuple")) mt (.lit (.int 0)) (f c false a)
  | [.Call (.Name _ _) [a, b] [] _] => if (isStar a || isStar b) = true then .stk else .lsR (decide (x = "tuple")) mt (f c false a) (f c false b)
  | _ => .stk
def trCall (f : Tr) (c : Cs) (mt : Bool) (x : Str) (as : List Expr) : E :=
  if (c.gl x && (!anyStar as && !as.isEmpty)) = true then
    if x ∈ c.fns then .call x (trA f c as)
    else if x ∈ c.free then
      if x = "isinstance" then trIsi f c as
      else if (decide (x = "list" ∨ x = "tuple") && isRng c as) = true then trRng f c mt x as
      else match biOf mt x as.length with
        | some b => .bi b (trA f c as)
        | none => .stk
    else .stk
  else .stk
def trMeth (f : Tr) (c : Cs) (o : Expr) (m : Str) (as : List Expr) : E :=
  if isCallE o = true then .stk
  else match as with
    | [] => if m = "pop" then .pop (f c false o) else .stk
    | [a] => if isStar a = true then .stk else if m = "append" then .app (f c false o) (f c false a) else if m = "extend" then .ext (f c false o) (f c false a) else if m = "index" then .idx (f c false o) (f c false a) else .stk
    | [a, b] => if (isStar a || isStar b) = true then .stk else if m = "get" then .dget (f c false o) (f c false a) (f c false b) else .stk
    | _ => .stk
def isTupE : Expr → Bool
  | .Tuple _ _ _ => true
  | _ => false
def trIt (f : Tr) (c : Cs) (tg : Expr) : Expr → E
  | .Call (.Name x p) as [] pos =>
    if (c.gl x && (decide (x ∈ c.free) && !anyStar as)) = true ∧ (x = "range" ∨ x = "zip" ∨ x = "enumerate") then
      match as with
      | [a] => if x = "range" then .iR1 (f c false a) else if (decide (x = "enumerate") && isTupE tg) = true then .iEnu (f c false a) else .stk
      | [a, b] => if x = "range" then .iR2 (f c false a) (f c false b) else if (decide (x = "zip") && isTupE tg) = true then .iZip (f c false a) (f c false b) else .stk
      | _ => .stk
    else .iVal (f c false (.Call (.Name x p) as [] pos))
  | e => if isSetE e = true then .stk else .iVal (f c false e)
mutual
def trTg (c : Cs) : Nat → Expr → Option Tg
  | 0, _ => none
  | n + 1, e => match e with
    | .Name x _ => if c.st x = true then (ixOf x c.N 0).map .nm else none
    | .Tuple es _ _ => trTgs c n es
    | _ => none
def trTgs (c : Cs) : Nat → List Expr → Option Tg
  | 0, _ => none
  | n + 1, es => match es with
    | [] => some .nil
    | e :: es => if isStar e = true then none else (trTg c n e).bind fun a => (trTgs c n es).map fun b => .cons a b
end
def ownOf (N : List Str) : List (Str × NameKind) → List (Str × Nat)
  | [] => []
  | (x, k) :: r => match k with
    | .local => (match ixOf x N 0 with
      | some i => (x, i) :: ownOf N r
      | none => ownOf N r)
    | .cell => (match ixOf x N 0 with
      | some i => (x, i) :: ownOf N r
      | none => ownOf N r)
    | _ => ownOf N r
def trIfs (f : Tr) (c : Cs) : List Expr → E
  | [] => .nop
  | [e] => .cnd (trT f c e)
  | _ => .stk
def trComp (f : Tr) (c : Cs) (mt : Bool) (elt tg it : Expr) (ifs : List Expr) (scope : Scope) : E :=
  match trTg (c.blk scope) 12 tg with
  | none => .stk
  | some t => if (blkC c.N c.sc scope (ownOf c.N scope.names) && (tgs t).all fun i => decide (i ∈ (ownOf c.N scope.names).map (·.2))) = true ∧ ifs.length ≤ 1 then
      .comp mt ((ownOf c.N scope.names).map (·.2)) t (trIt f c tg it) (trIfs f (c.blk scope) ifs) (f (c.blk scope) false elt)
    else .stk
def trStep (f : Tr) : Tr := fun c mt e => match e with
  | .Name x _ => trName c x
  | .Constant v _ _ => trConst v
  | .BinOp a o b _ => match boOf o with
    | some o => .bin o (f c mt a) (f c false b)
    | none => .stk
  | .UnaryOp .Not a _ => .not (trT f c a)
  | .UnaryOp .USub a _ => .neg (f c false a)
  | .BoolOp op vs _ => trB f c op vs
  | .Compare a ops bs _ => trCmp f c a ops bs
  | .IfExp t a b _ => .ite (trT f c t) (f c mt a) (f c mt b)
  | .Tuple es _ _ => .tup (trA f c es)
  | .List es _ => .lst mt (trA f c es)
  | .Dict [] [] _ => .dnew c.dt
  | .Subscript a i _ => trSub f c a i
  | .Call (.Name x _) as [] _ => trCall f c mt x as
  | .Call (.Attribute o m ap) as [] cp => if (ap.endLine == cp.line) = true then trMeth f c o m as else .stk
  | .ListComp elt [⟨tg, it, ifs, 0⟩] scope _ => trComp f c mt elt tg it ifs scope
  | _ => .stk
def trE : Nat → Tr
  | 0 => fun _ _ _ => .stk
  | n + 1 => trStep (trE n)
end Iw
end

section
set_option Elab.async false
set_option linter.all false
set_option maxRecDepth 100000
/-! the translation of an expression is right -/
namespace Iw
open PySem PySem.Spec PyProof.Rows L2
section
variable {cf : Str → List PV → Hs → R PV} {k : Nat} {f : Tr}
def OkE (cf : Str → List PV → Hs → R PV) (k : Nat) (f : Tr) : Prop := ∀ c X, Good cf X c → ∀ (W : WX) mt e, PE X e (tE X W (den cf k (f c mt e)).e)
def OkT (cf : Str → List PV → Hs → R PV) (k : Nat) (f : Tr) : Prop := ∀ c X, Good cf X c → ∀ (W : WX) e, PT X e (tT X W (tOf (den cf k (trT f c e)).e))
structure Ok (cf : Str → List PV → Hs → R PV) (k : Nat) (f : Tr) : Prop where
  e : OkE cf k f
  t : OkT cf k f
theorem pe_stk {X : Cx} {W : WX} {e : Expr} : PE X e (tE X W (den cf k .stk).e) := ⟨fun pins s σ H Q I ⟨m, p, h, rs, rh, hs⟩ => hs.elim⟩
theorem pt_stk {X : Cx} {W : WX} {e : Expr} : PT X e (tT X W (tOf (den cf k .stk).e)) := ⟨fun pins s σ H Q I ⟨m, p, h, rs, rh, hs⟩ => hs.elim⟩
theorem pt_stk' {X : Cx} {W : WX} {e : Expr} : PT X e (tT X W (den cf k .stk).t) := ⟨fun pins s σ H Q I ⟨m, p, h, rs, rh, hs⟩ => hs.elim⟩
theorem pa_stk {X : Cx} {W : WX} {es : List Expr} : PA X es (tA X W (den cf k .stk).a) := ⟨fun _ pins s σ H Q I ⟨m, p, h, rs, rh, hs⟩ => hs.elim⟩
theorem pi_stk {X : Cx} {W : WX} {tg e : Expr} : PI X tg e (tI X W (den cf k .stk).i) := ⟨fun pins s σ H Q I ⟨m, p, h, rs, rh, hs⟩ => hs.elim⟩
theorem pw_stk {X : Cx} {W : WX} {e : Expr} : PW X e (tT X W (tOf (den cf k .stk).e)) := ⟨fun w pins s σ H Q I ⟨m, p, h, rs, rh, hs⟩ => hs.elim⟩
variable {X : Cx} {c : Cs} {W : WX}
theorem plain_of {x : Str} (h : plainName x = true) : (x == ("__debug__" : Str)) = false ∧ (x == ("__classdict__" : Str)) = false := by
  unfold plainName at h
  simpa using h
theorem vis_of (g : Good cf X c) {x : Str} (h : c.vis x = true) : Vis X.env.scope x := by
  unfold Cs.vis at h
  unfold Vis
  rw [g.sc]
  split at h
  · rename_i e; exact .inl e
  · rename_i e; exact .inr (.inl e)
  · rename_i e; exact .inr (.inr e)
  · cases h
structure GlOk (X : Cx) (x : Str) : Prop where
  gl : Gl X x
  nn : x ≠ "__name__"
  db : (x == ("__debug__" : Str)) = false
theorem gl_of (g : Good cf X c) {x : Str} (h : c.gl x = true) : GlOk X x := by
  unfold Cs.gl at h
  simp only [Bool.and_eq_true, decide_eq_true_eq] at h
  exact ⟨by show X.env.scope.names.lookup x = _; rw [g.sc]; exact h.1, h.2.1, (plain_of h.2.2).1⟩
theorem tr_name (g : Good cf X c) (x : Str) (pos : Pos) : PE X (.Name x pos) (tE X W (den cf k (trName c x)).e) := by
  unfold trName
  split
  · rename_i i e
    split
    · rename_i h
      simp only [Bool.and_eq_true] at h
      obtain ⟨h1, h2⟩ := plain_of h.2
      exact e_loc cf k (pe_var (by rw [g.nn]; exact ixOf_get e) (vis_of g h.1) h1 h2)
    · exact pe_stk
  · split
    · rename_i d e
      split
      · rename_i h
        obtain ⟨u, v, h1, h2, h3⟩ := g.lits x d e
        have q := gl_of g h
        exact e_lit cf k (pe_glob q.gl h1 h2 q.db) h3
      · exact pe_stk
    · exact pe_stk
theorem tr_const (v : Const) (j : Nat) (pos : Pos) : PE X (.Constant v j pos) (tE X W (den cf k (trConst v)).e) := by
  cases v with
  | none => exact e_lit cf k pe_non fun _ _ => .non
  | bool b => exact e_lit cf k pe_bl fun _ _ => .bl b
  | int i => exact e_lit cf k pe_int fun _ _ => .int i
  | str x => exact e_lit cf k pe_str fun _ _ => .str x
  | _ => exact pe_stk
theorem bo_of {o : Operator} {b : BO} (h : boOf o = some b) : b.op = o := by cases o <;> cases h <;> rfl
theorem co_of {o : CmpOp} {b : CO} (h : coOf o = some b) : b.op = o := by cases o <;> cases h <;> rfl
theorem star_false {e : Expr} {es : List Expr} {env : Env} (h : ¬ isStar e = true) : starEach (e :: es) env = (false, eval e env) :: starEach es env := by
  cases e <;> first | rfl | exact absurd rfl h
theorem tr_A (ok : Ok cf k f) (g : Good cf X c) : ∀ es : List Expr, PA X es (tA X W (den cf k (trA f c es)).a)
  | [] => a_nil cf k
  | e :: es => by
    unfold trA
    split
    · exact pa_stk
    · rename_i h
      exact a_cons (ok.e c X g W false e) (tr_A ok g es) (star_false h)
theorem tr_Ab (ok : Ok cf k f) (g : Good cf X c) : ∀ (bs : List Bool) (es : List Expr), PA X es (tA X W (den cf k (trAb f c bs es)).a)
  | [], [] => a_nil cf k
  | _ :: _, [] => a_nil cf k
  | [], e :: es => by
    unfold trAb
    split
    · exact pa_stk
    · rename_i h
      exact a_cons (ok.e c X g W false e) (tr_Ab ok g [] es) (star_false h)
  | b :: bs, e :: es => by
    unfold trAb
    split
    · exact pa_stk
    · rename_i h
      exact a_cons (ok.e c X g W b e) (tr_Ab ok g bs es) (star_false h)
theorem back_plain {pos : Pos} {env : Env} : ∀ {es : List Expr}, anyStar es = false → (backTo pos (starEach es env)).any (·.1) = false
  | [], _ => rfl
  | e :: es, h => by
    have h : (isStar e || anyStar es) = false := h
    rw [Bool.or_eq_false_iff] at h
    rw [star_false (by simp [h.1])]
    show (false || (backTo pos (starEach es env)).any (·.1)) = false
    rw [back_plain h.2]; rfl
theorem behind_no {op : CmpOp} {b : Expr} (h : ¬ isSetE b = true) : behindInMarks op b = false := by
  cases b <;> first | rfl | exact absurd rfl h
/-- a test's other forms are their values' -/
theorem tr_T_of (h : ∀ e, ∀ mt, isIfE e = false → PT X e (tT X W (tOf (den cf k (f c mt e)).e))) (e : Expr) : PT X e (tT X W (tOf (den cf k (trT f c e)).e)) := by
  unfold trT
  split
  · exact pt_stk
  · rename_i q
    exact h e false (by simpa using q)
theorem tr_T_e (ok : Ok cf k f) (g : Good cf X c) (e : Expr) : PE X e (tE X W (den cf k (trT f c e)).e) := by
  unfold trT
  split
  · exact pe_stk
  · exact ok.e c X g W false e
theorem tr_B (ok : Ok cf k f) (g : Good cf X c) (op : BoolOp) (pos : Pos) : ∀ es : List Expr, PE X (.BoolOp op es pos) (tE X W (den cf k (trB f c op es)).e) ∧ PW X (.BoolOp op es pos) (tT X W (tOf (den cf k (trB f c op es)).e))
  | [] => ⟨pe_stk, pw_stk⟩
  | [e] => ⟨e_one (tr_T_e ok g e), w_one (ok.t c X g W e)⟩
  | e :: e2 :: es => by
    obtain ⟨h1, h2⟩ := tr_B ok g op pos (e2 :: es)
    cases op with
    | And => exact ⟨e_and (tr_T_e ok g e) h1, w_and (ok.t c X g W e) h2⟩
    | Or => exact ⟨e_or (tr_T_e ok g e) h1, w_or (ok.t c X g W e) h2⟩
theorem tr_cmp (ok : Ok cf k f) (g : Good cf X c) (a : Expr) (ops : List CmpOp) (bs : List Expr) (pos : Pos) : PE X (.Compare a ops bs pos) (tE X W (den cf k (trCmp f c a ops bs)).e) ∧ PT X (.Compare a ops bs pos) (tT X W (tOf (den cf k (trCmp f c a ops bs)).e)) := by
  have ha := ok.e c X g W false a
  unfold trCmp
  split
  · rename_i op b
    split
    · exact ⟨pe_stk, pt_stk⟩
    · rename_i hb
      split
      · exact ⟨e_isNon ha, t_isNon ha⟩
      · exact ⟨e_notNon ha, t_notNon ha⟩
      · rename_i op b _ _
        split
        · rename_i o e
          obtain rfl := co_of e
          exact ⟨e_cmp g.un o ha (ok.e c X g W false _) (behind_no hb), t_cmp g.un o ha (ok.e c X g W false _) (behind_no hb)⟩
        · exact ⟨pe_stk, pt_stk⟩
  · rename_i op oq b d
    split
    · exact ⟨pe_stk, pt_stk⟩
    · rename_i hb
      split
      · rename_i o q e1 e2
        obtain rfl := co_of e1
        obtain rfl := co_of e2
        have hl : lastMarks [o.op, q.op] [b, d] = false := by
          show behindInMarks q.op d = false
          exact behind_no fun z => hb (by rw [z]; simp)
        exact ⟨e_chain g.un o q ha (ok.e c X g W false _) (ok.e c X g W false _) hl, t_chain g.un o q ha (ok.e c X g W false _) (ok.e c X g W false _) hl⟩
      · exact ⟨pe_stk, pt_stk⟩
  · exact ⟨pe_stk, pt_stk⟩
theorem tr_O (ok : Ok cf k f) (g : Good cf X c) (e : Option Expr) : PO X e (tO X W (den cf k (trO f c e)).o) := by
  cases e with
  | none => exact o_nop cf k
  | some e =>
    exact o_some (ok.e c X g W false e)
theorem sl_false {e : Expr} (h : isSlE e = false) : PlainIx e := by
  cases e <;> first | (intro o i; rfl) | cases h
theorem tr_sub (ok : Ok cf k f) (g : Good cf X c) (a i : Expr) (pos : Pos) : PE X (.Subscript a i pos) (tE X W (den cf k (trSub f c a i)).e) := by
  unfold trSub
  split
  · exact e_sl (ok.e c X g W false a) (tr_O ok g _) (tr_O ok g _)
  · exact e_rev (ok.e c X g W false a)
  · exact pe_stk
  · rename_i h1 h1r h2
    refine e_ix g.un (ok.e c X g W false a) (ok.e c X g W false i) (sl_false ?_)
    cases i <;> first | rfl | skip
    rename_i lo hi st p
    cases st with
    | none => exact (h1 lo hi p rfl).elim
    | some x => exact (h2 lo hi x p rfl).elim
theorem ty_boot {x : Str} {T : String} (h : tyOf x = some T) : bootBuiltins x = some (.type T) := by
  unfold tyOf at h
  repeat' split at h
  all_goals first
    | (cases h; rename_i e; subst e; decide +kernel)
    | (cases h; subst_vars; decide +kernel)
    | cases h
theorem bi_boot {mt : Bool} {x : Str} {n : Nat} {b : Bi} (h : biOf mt x n = some b) : (∃ id, b.val = .builtin id ∧ bootBuiltins x = some (.builtin id)) ∨ ∃ id, b.val = .type id ∧ bootBuiltins x = some (.type id) := by
  have all : ∀ p ∈ bi1T mt ++ bi2T, (∃ id, p.2.val = .builtin id ∧ bootBuiltins p.1 = some (.builtin id)) ∨ ∃ id, p.2.val = .type id ∧ bootBuiltins p.1 = some (.type id) := by
    intro p hp
    simp only [bi1T, bi2T, List.cons_append, List.nil_append, List.mem_cons, List.not_mem_nil, or_false] at hp
    rcases hp with rfl | rfl | rfl | rfl | rfl | rfl | rfl | rfl | rfl | rfl | rfl | rfl | rfl | rfl | rfl | rfl <;> first
      | exact .inl ⟨_, rfl, by decide +kernel⟩
      | exact .inr ⟨_, rfl, by decide +kernel⟩
      | exact .inr ⟨_, rfl, (by decide +kernel : bootBuiltins "list" = some (.type "list"))⟩
      | exact .inl ⟨_, rfl, (by decide +kernel : bootBuiltins "sorted" = some (.builtin "sorted"))⟩
  have hm : (x, b) ∈ bi1T mt ++ bi2T := by
    unfold biOf at h
    split at h
    · exact List.mem_append_left _ (PySem.mem_of_lookup h)
    · exact List.mem_append_right _ (PySem.mem_of_lookup h)
    · cases h
  exact all _ hm
theorem any_cons {e : Expr} {es : List Expr} (h : anyStar (e :: es) = false) : ¬ isStar e = true ∧ anyStar es = false := by
  have h : (isStar e || anyStar es) = false := h
  rw [Bool.or_eq_false_iff] at h
  exact ⟨by simp [h.1], h.2⟩
theorem tr_isi (ok : Ok cf k f) (g : Good cf X c) {x : Str} (hx : x = "isinstance") (gx : GlOk X x) (fx : x ∈ c.free) (as : List Expr) (p pos : Pos) : PE X (.Call (.Name x p) as [] pos) (tE X W (den cf k (trIsi f c as)).e) := by
  unfold trIsi
  split
  · rename_i a y p2
    split
    · rename_i h
      simp only [Bool.and_eq_true, Bool.not_eq_true', decide_eq_true_eq] at h
      obtain ⟨h1, h2, h3⟩ := h
      split
      · rename_i T e
        have gy := gl_of g h2
        exact e_isi gx.gl (g.free x fx) (by rw [hx]; decide +kernel) gx.nn gx.db gy.gl (g.free y h3) (ty_boot e) gy.nn gy.db (ok.e c X g W false a) (star_false (by simp [h1]))
      · exact pe_stk
    · exact pe_stk
  · exact pe_stk
theorem tr_rng (ok : Ok cf k f) (g : Good cf X c) (mt : Bool) {x : Str} (hx : x = "list" ∨ x = "tuple") (gx : GlOk X x) (fx : x ∈ c.free) (as : List Expr) (hr : isRng c as = true) (p pos : Pos) : PE X (.Call (.Name x p) as [] pos) (tE X W (den cf k (trRng f c mt x as)).e) := by
  have ex : x = if decide (x = "tuple") = true then "tuple" else "list" := by
    rcases hx with rfl | rfl <;> rfl
  unfold isRng at hr
  split at hr
  · rename_i y p2 a pos2
    simp only [Bool.and_eq_true, decide_eq_true_eq] at hr
    obtain ⟨⟨rfl, hy⟩, hg⟩ := hr
    have gy := gl_of g hg
    show PE X _ (tE X W (den cf k (if isStar a = true then .stk else .lsR (decide (x = "tuple")) mt (.lit (.int 0)) (f c false a))).e)
    split
    · exact pe_stk
    · rename_i hs
      exact e_lsR1 cf k _ mt ex g.calm gx.gl (g.free x fx) gy.gl (g.free _ hy) (ok.e c X g W false a) (star_false (es := []) (env := X.env) hs)
  · rename_i y p2 a b pos2
    simp only [Bool.and_eq_true, decide_eq_true_eq] at hr
    obtain ⟨⟨rfl, hy⟩, hg⟩ := hr
    have gy := gl_of g hg
    show PE X _ (tE X W (den cf k (if (isStar a || isStar b) = true then .stk else .lsR (decide (x = "tuple")) mt (f c false a) (f c false b))).e)
    split
    · exact pe_stk
    · rename_i hs
      have hs : (isStar a || isStar b) = false := by simpa using hs
      rw [Bool.or_eq_false_iff] at hs
      exact e_lsR2 _ mt ex g.calm gx.gl (g.free x fx) gy.gl (g.free _ hy) (ok.e c X g W false a) (ok.e c X g W false b) (star_false (es := [b]) (env := X.env) (by simp [hs.1])) (star_false (es := []) (env := X.env) (by simp [hs.2])) (back_plain (by simp [anyStar, hs.2]))
  · cases hr
theorem tr_call (ok : Ok cf k f) (g : Good cf X c) (mt : Bool) (x : Str) (as : List Expr) (p pos : Pos) : PE X (.Call (.Name x p) as [] pos) (tE X W (den cf k (trCall f c mt x as)).e) := by
  unfold trCall
  split
  · rename_i h
    simp only [Bool.and_eq_true, Bool.not_eq_true'] at h
    obtain ⟨h1, h2, h3⟩ := h
    have gx := gl_of g h1
    cases as with
    | nil => cases h3
    | cons e es =>
      obtain ⟨h4, h5⟩ := any_cons h2
      have he := star_false (es := es) (env := X.env) h4
      have hp := back_plain (pos := pos) (env := X.env) h5
      have ha : PA X (e :: es) (tA X W (den cf k (trA f c (e :: es))).a) := tr_A ok g (e :: es)
      split
      · rename_i hf
        obtain ⟨kk, ad, fd, ps, F, hr, hb, hk, hm⟩ := g.fns x hf
        exact e_call (call_G F hr g.gd hb) gx.gl hm hk ha gx.db he hp
      · split
        · rename_i hf
          split
          · rename_i hx
            exact tr_isi ok g hx gx hf _ p pos
          · split
            · rename_i hr
              simp only [Bool.and_eq_true, decide_eq_true_eq] at hr
              exact tr_rng ok g mt hr.1 gx hf _ hr.2 p pos
            · split
              · rename_i b e1
                rcases bi_boot e1 with ⟨id, i1, i2⟩ | ⟨id, i1, i2⟩
                · exact e_bif b i1 g.calm g.gd g.un gx.gl (g.free x hf) i2 ha gx.nn gx.db he hp
                · exact e_bit b i1 g.calm g.gd g.un gx.gl (g.free x hf) i2 ha gx.nn gx.db he hp
              · exact pe_stk
        · exact pe_stk
  · exact pe_stk
theorem base_of {o : Expr} {m : Str} {env : Env} {w : Sem Value} (h : ¬ isCallE o = true) : attributeBase o m env w = w := by
  cases o <;> first | rfl | exact absurd rfl h
theorem tr_meth (ok : Ok cf k f) (g : Good cf X c) (o : Expr) (m : Str) (as : List Expr) (ap cp : Pos) (hline : (ap.endLine == cp.line) = true) : PE X (.Call (.Attribute o m ap) as [] cp) (tE X W (den cf k (trMeth f c o m as)).e) := by
  unfold trMeth
  split
  · exact pe_stk
  · rename_i ho
    have hb : ∀ m, attributeBase o m X.env (eval o X.env) = eval o X.env := fun m => base_of ho
    split
    · split
      · rename_i e; subst e
        exact e_pop (ok.e c X g W false o) (hb _) hline
      · exact pe_stk
    · rename_i a
      split
      · exact pe_stk
      · rename_i hs
        have h1 := star_false (es := []) (env := X.env) hs
        have few : ((backTo cp (starEach [a] X.env)).all (fun x => !x.1) && (backToKw cp (keywordEach [] X.env)).all (fun x => x.1.isSome)
            && decide (([a] : List Expr).length + ([] : List Keyword).length + (if ([] : List Keyword).isEmpty then 0 else 1) < 30)) = true := by
          rw [h1]; rfl
        split
        · rename_i e; subst e
          exact e_app k (ok.e c X g W false o) (ok.e c X g W false a) (hb _) few hline h1
        · split
          · rename_i e; subst e
            exact e_ext k (ok.e c X g W false o) (ok.e c X g W false a) (hb _) few hline h1
          · split
            · rename_i e; subst e
              exact e_idx g.un2 (ok.e c X g W false o) (ok.e c X g W false a) (hb _) few hline h1
            · exact pe_stk
    · rename_i a b
      split
      · exact pe_stk
      · rename_i hs
        have hs : (isStar a || isStar b) = false := by simpa using hs
        rw [Bool.or_eq_false_iff] at hs
        have h1 := star_false (e := b) (es := []) (env := X.env) (by simp [hs.2])
        have h2 := star_false (e := a) (es := [b]) (env := X.env) (by simp [hs.1])
        split
        · rename_i e; subst e
          exact e_dget g.un (ok.e c X g W false o) (ok.e c X g W false a) (ok.e c X g W false b) ⟨hb _, by rw [h2, h1]; rfl, hline, by rw [h2, h1]; rfl⟩
        · exact pe_stk
    · exact pe_stk
theorem tr_it (ok : Ok cf k f) (g : Good cf X c) (tg e : Expr) : PI X tg e (tI X W (den cf k (trIt f c tg e)).i) := by
  unfold trIt
  split
  · rename_i x p as pos
    split
    · rename_i h
      obtain ⟨h0, h4⟩ := h
      simp only [Bool.and_eq_true, Bool.not_eq_true', decide_eq_true_eq] at h0
      obtain ⟨h1, h2, h3⟩ := h0
      have gx := gl_of g h1
      have hm := g.free x h2
      split
      · rename_i a
        obtain ⟨q1, _⟩ := any_cons h3
        have hs := star_false (es := []) (env := X.env) q1
        split
        · rename_i e; subst e
          exact i_r1 gx.gl hm (ok.e c X g W false a) hs
        · split
          · rename_i e
            simp only [Bool.and_eq_true, decide_eq_true_eq] at e
            obtain ⟨e1, e2⟩ := e
            subst e1
            cases tg with
            | Tuple elts kk tpos => exact i_enu gx.gl hm (ok.e c X g W false a) hs
            | _ => cases e2
          · exact pi_stk
      · rename_i a b
        obtain ⟨q1, q2⟩ := any_cons h3
        obtain ⟨q3, _⟩ := any_cons q2
        have hs2 := star_false (es := []) (env := X.env) q3
        have hs := star_false (es := [b]) (env := X.env) q1
        split
        · rename_i e; subst e
          exact i_r2 gx.gl hm (ok.e c X g W false a) (ok.e c X g W false b) (by rw [hs, hs2]; rfl) hs2
        · split
          · rename_i e
            simp only [Bool.and_eq_true, decide_eq_true_eq] at e
            obtain ⟨e1, e2⟩ := e
            subst e1
            cases tg with
            | Tuple elts kk tpos => exact i_zip gx.gl hm (ok.e c X g W false a) (ok.e c X g W false b) hs hs2 (back_plain (by simp [anyStar, q3]))
            | _ => cases e2
          · exact pi_stk
      · exact pi_stk
    · exact i_val (ok.e c X g W false _)
  · split
    · exact pi_stk
    · exact i_val (ok.e c X g W false _)
theorem set_false {e : Expr} {env : Env} (h : isSetE e = false) (x : Value) : foldedSetIterable e env x = pure x := by
  cases e <;> first | rfl | cases h
mutual
theorem tr_tg (g : Good cf X c) : ∀ (n : Nat) (e : Expr) (t : Tg), trTg c n e = some t → PG X e (tG X t)
  | 0, _, _, h => by simp [trTg] at h
  | n + 1, e, t, h => by
    unfold trTg at h
    split at h
    · rename_i x p
      split at h
      · rename_i hs
        obtain ⟨i, e1, rfl⟩ := Option.map_eq_some_iff.mp h
        obtain ⟨q1, q2⟩ := g.st x hs
        exact g_nm (by rw [g.nn]; exact g.nd) (by rw [g.nn]; exact ixOf_get e1) q1 q2
      · cases h
    · rename_i es kk p
      obtain ⟨q1, q2, q3, q4⟩ := tr_tgs g n es t h
      exact g_tup g.calm q1 q2 q3 q4
    · cases h
theorem tr_tgs (g : Good cf X c) : ∀ (n : Nat) (es : List Expr) (t : Tg), trTgs c n es = some t → PGs X es (tGs X t) ∧ (∀ v p p', asg t v p = some p' → ∃ ds, v = .d (.tuple ds) ∧ ds.length = es.length) ∧ (assignEach es X.env).length = es.length ∧ (assignEach es X.env).findIdx? (·.1) = none
  | 0, _, _, h => by simp [trTgs] at h
  | n + 1, es, t, h => by
    unfold trTgs at h
    split at h
    · cases h
      refine ⟨g_nil, fun v p p' e => ?_, rfl, rfl⟩
      unfold asg at e
      split at e <;> first | (cases e; exact ⟨_, rfl, rfl⟩) | cases e | skip
      all_goals first | exact ⟨_, rfl, rfl⟩ | simp_all
    · rename_i e es
      split at h
      · cases h
      · rename_i hs
        obtain ⟨a, e1, e2⟩ := Option.bind_eq_some_iff.mp h
        obtain ⟨b, e3, rfl⟩ := Option.map_eq_some_iff.mp e2
        obtain ⟨q1, q2, q3, q4⟩ := tr_tgs g n es b e3
        have hae : assignEach (e :: es) X.env = (false, assign e X.env) :: assignEach es X.env := by
          cases e <;> first | rfl | exact absurd rfl hs
        refine ⟨g_cons (tr_tg g n e a e1) q1 (by rw [hae]; rfl), fun v p p' he => ?_, by rw [hae]; simp [q3], by rw [hae, List.findIdx?_cons, q4]; rfl⟩
        cases v with
        | d x =>
          cases x with
          | tuple ds =>
            cases ds with
            | nil => cases he
            | cons d ds =>
              obtain ⟨p1, e5, e6⟩ := Option.bind_eq_some_iff.mp (show (asg a (.d d) p).bind (asg b (.d (.tuple ds))) = some p' from he)
              obtain ⟨ds2, e7, e8⟩ := q2 _ _ _ e6
              cases e7
              exact ⟨_, rfl, by simp [e8]⟩
          | _ => cases he
        | _ => cases he
end
theorem tr_ifs (ok : Ok cf k f) (g : Good cf X c) (ifs : List Expr) (h : ifs.length ≤ 1) : PTs X ifs (tT X W (den cf k (trIfs f c ifs)).t) := by
  match ifs, h with
  | [], _ => exact ⟨fun pins s σ H Q I ⟨m, p, hh, rs, rh, hs⟩ => pts_nil.run pins s σ H Q I (now rh hs rfl)⟩
  | [e], _ => exact pts_one (ok.t c X g W e)
theorem it_set (tg e : Expr) (h : isSetE e = true) : trIt f c tg e = .stk := by
  cases e <;> first | (cases h; done) | (simp [trIt, isSetE])
theorem comp_stk {X : Cx} {mt : Bool} {own : List Nat} {t : Tg} {a b : E} {e : Expr} : PE X e (tE X W (den cf k (.comp mt own t .stk a b)).e) := ⟨fun pins s σ H Q I ⟨m, p, h, rs, rh, hs⟩ => hs.elim⟩
theorem tr_comp (ok : Ok cf k f) (g : Good cf X c) (mt : Bool) (elt tg it : Expr) (ifs : List Expr) (scope : Scope) (pos : Pos) : PE X (.ListComp elt [⟨tg, it, ifs, 0⟩] scope pos) (tE X W (den cf k (trComp f c mt elt tg it ifs scope)).e) := by
  unfold trComp
  split
  · exact pe_stk
  · rename_i t et
    split
    · rename_i h
      obtain ⟨h, hl⟩ := h
      simp only [Bool.and_eq_true, List.all_eq_true, decide_eq_true_eq] at h
      by_cases hz : isSetE it = true
      · rw [it_set tg it hz]
        exact comp_stk
      · refine (pe_lc (te := tE X Wf (den cf k (f (c.blk scope) false elt)).e) (tt := tT X Wf (den cf k (trIfs f (c.blk scope) ifs)).t) (g := tG X t) g.calm (by rw [g.nn]; exact g.nd) (tr_it (W := W) ok g tg it) (blkOk_by (by rw [g.nn, g.sc]; exact h.1)) (fun s H C cl fp => tr_tg (g.blk s H scope C cl fp) _ _ _ et) (fun s H C cl fp => tr_ifs ok (g.blk s H scope C cl fp) ifs hl) (fun s H C cl fp => ok.e _ _ (g.blk s H scope C cl fp) Wf false elt) (set_false (by simpa using hz))).imp fun σ H Q h' => ?_
        exact comp_read (W' := Wf) h.2 h'
    · exact pe_stk
theorem t_plain' {X : Cx} {a : Expr} {E1 : E} (ha : PE X a (tE X W (den cf k E1).e)) (he : ∀ whole, isTrue a X.env whole = (do let v ← whole; standAt a.pos; holding [v] (truthy v))) : PT X a (tT X W (tOf (den cf k E1).e)) := t_plain ha he
theorem step_e (ok : Ok cf k f) : OkE cf k (trStep f) := by
  intro c X g W mt e
  unfold trStep
  split
  · exact tr_name g _ _
  · exact tr_const _ _ _
  · rename_i a o b pos
    split
    · rename_i o' e1
      obtain rfl := bo_of e1
      exact e_bin o' (ok.e c X g W mt a) (ok.e c X g W false b)
    · exact pe_stk
  · exact e_not (tr_T_e ok g _)
  · exact e_neg (ok.e c X g W false _)
  · exact (tr_B ok g _ _ _).1
  · exact (tr_cmp ok g _ _ _ _).1
  · exact e_ite (ok.t c X g W _) (ok.e c X g W mt _) (ok.e c X g W mt _)
  · exact e_tup (tr_A ok g _)
  · exact e_lst mt (tr_A ok g _)
  · exact e_dnew cf k c.dt
  · exact tr_sub ok g _ _ _
  · exact tr_call ok g mt _ _ _ _
  · split
    · rename_i h
      exact tr_meth ok g _ _ _ _ _ h
    · exact pe_stk
  · exact tr_comp ok g mt _ _ _ _ _ _
  · exact pe_stk
theorem step_t (ok : Ok cf k f) : OkT cf k (trStep f) := by
  intro c X g W e
  refine tr_T_of (f := trStep f) (fun e mt hi => ?_) e
  have he := step_e ok c X g W mt e
  cases e with
  | UnaryOp o a p =>
    cases o with
    | Not => exact t_not (ok.t c X g W a)
    | _ => exact t_plain' he (fun _ => rfl)
  | BoolOp op vs p => exact (tr_B ok g op p vs).2.pt
  | Compare a ops bs p => exact (tr_cmp ok g a ops bs p).2
  | IfExp _ _ _ _ => cases hi
  | _ => exact t_plain' he (fun _ => rfl)
theorem ok_trE : ∀ n, Ok cf k (trE n)
  | 0 => ⟨fun c X g W mt e => pe_stk, fun c X g W e => by unfold trT; split <;> exact pt_stk⟩
  | n + 1 => ⟨step_e (ok_trE n), step_t (ok_trE n)⟩
end
end Iw
end

section
set_option Elab.async false
set_option linter.all false
set_option maxRecDepth 100000
/-! statements, functions: from the tree to the interpreter's own terms -/
namespace Iw
open PySem PySem.Spec PyProof.Rows L2
def isCompE : Expr → Bool
  | .ListComp _ _ _ _ => true
  | .SetComp _ _ _ _ => true
  | .DictComp _ _ _ _ _ => true
  | _ => false
def parIx (c : Cs) : List Expr → Option (List Nat)
  | [] => some []
  | .Name x _ :: es => if c.st x = true then (ixOf x c.N 0).bind fun i => (parIx c es).map (i :: ·) else none
  | _ :: _ => none
/-- which stores are exchanged; none: not told -/
def swF (kd : Str → Option NameKind) (ts vs : List Expr) : Option (Option (List Str)) :=
  if (!(ts.length == 2 || ts.length == 3) || vs.length != ts.length || false) = true then some none
  else if (vs.any fun | .Starred .. => true | _ => false) = true then some none
  else if ((ts.filterMap fun
      | .Name id pos => if (kd id == some .local && pos.line == (ts.head?.map (·.pos.line)).getD 0) = true then some id else none
      | _ => none).length != ts.length || (ts.filterMap fun
      | .Name id pos => if (kd id == some .local && pos.line == (ts.head?.map (·.pos.line)).getD 0) = true then some id else none
      | _ => none).eraseDups.length != (ts.filterMap fun
      | .Name id pos => if (kd id == some .local && pos.line == (ts.head?.map (·.pos.line)).getD 0) = true then some id else none
      | _ => none).length) = true then some none
  else if vs.all (foldedForSure 8) = true then some none
  else if vs.all (constantsAlone 8) = true then none
  else some (some (ts.filterMap fun
      | .Name id pos => if (kd id == some .local && pos.line == (ts.head?.map (·.pos.line)).getD 0) = true then some id else none
      | _ => none))
theorem swF_ok {env : Env} (hk : env.blockKind = .function) {ts vs : List Expr} {k1 k2 : Nat} {p1 p2 : Pos} {r : Option (List Str)} (h : swF env.kindOf ts vs = some r) : swappedStores [.Tuple ts k1 p1] (.Tuple vs k2 p2) env = pure r := by
  unfold swF at h
  unfold swappedStores
  simp only [hk]
  have e0 : ((ScopeKind.function != ScopeKind.function) : Bool) = false := by decide
  rw [e0]
  split at h
  · rename_i h1
    cases h
    simp only [h1, if_true]
  · rename_i h1
    refine (if_neg h1).trans ?_
    split at h
    · rename_i h2
      cases h
      exact if_pos h2
    · rename_i h2
      refine (if_neg h2).trans ?_
      split at h
      · rename_i h3
        cases h
        exact if_pos h3
      · rename_i h3
        refine (if_neg h3).trans ?_
        split at h
        · rename_i h4
          cases h
          exact if_pos h4
        · rename_i h4
          refine (if_neg h4).trans ?_
          split at h
          · cases h
          · rename_i h5
            cases h
            exact (if_neg h5)
def mns (c : Cs) : List Expr → List Bool
  | [] => []
  | .Name x _ :: es => decide (x ∈ c.mn) :: mns c es
  | _ :: es => false :: mns c es
def trPar (f : Tr) (c : Cs) (ts vs : List Expr) : S := match parIx c ts with
  | none => .stk
  | some is => if (!anyStar vs && (decide (vs.length = ts.length) && decide (ts.length ≤ 100))) = true then
      (match swF (fun x => c.sc.names.lookup x) ts vs with
      | none => .stk
      | some none => .par is (trAb f c (mns c ts) vs)
      | some (some r) => match ts, is, r with
        | [.Name x _, .Name y _], [k, l], [x', y'] => if x = x' ∧ y = y' ∧ k ≠ l ∧ c.sc.names.lookup x = some .local ∧ c.sc.names.lookup y = some .local then .par [k, l] (trAb f c (mns c ts) vs) else .stk
        | [.Name x _, .Name y _, .Name z _], [k, l, n], [x', y', z'] => if x = x' ∧ y = y' ∧ z = z' ∧ k ≠ l ∧ k ≠ n ∧ l ≠ n ∧ c.sc.names.lookup x = some .local ∧ c.sc.names.lookup y = some .local ∧ c.sc.names.lookup z = some .local then .par [k, l, n] (trAb f c (mns c ts) vs) else .stk
        | _, _, _ => .stk)
    else .stk
def trAsg (n : Nat) (c : Cs) (tg e : Expr) : S := match tg with
  | .Name x _ => if c.st x = true then (match ixOf x c.N 0 with
      | none => .stk
      | some i => match e with
        | .ListComp elt [⟨tg, it, ifs, 0⟩] scope _ => .asg (.nm i) (trComp (trE n) c (decide (x ∈ c.mn)) elt tg it ifs scope)
        | e => if isCompE e = true then .stk else .asg (.nm i) (trE n c (decide (x ∈ c.mn)) e))
    else .stk
  | .Tuple ts _ _ => match e with
    | .Tuple vs _ _ => trPar (trE n) c ts vs
    | e => if isCompE e = true then .stk else (match trTg c 12 tg with
      | none => .stk
      | some t => .asg t (trE n c false e))
  | .Subscript o i _ => if (isCompE e || isSlE i) = true then .stk else .sub (trE n c false o) (trE n c false i) (trE n c false e)
  | _ => .stk
mutual
def trSt (c : Cs) (kp : Bool) : Nat → Stmt → S
  | 0, _ => .stk
  | n + 1, s => match s with
    | .Assign [tg] e _ => trAsg n c tg e
    | .AugAssign (.Name x _) .Add e _ => if c.st x = true then (match ixOf x c.N 0 with
      | none => .stk
      | some i => .aug i (trE n c false e)) else .stk
    | .Expr e _ => if isCompE e = true then .stk else .ex (trE n c false e)
    | .Return (some e) _ => .ret (trE n c kp e)
    | .Return none _ => .ret (.lit .none)
    | .If t a b _ => .ife (trT (trE n) c t) (trSs c kp n a) (trSs c kp n b)
    | .For tg it body [] _ => if isSetE it = true then .stk else (match trTg c 12 tg with
      | none => .stk
      | some t => .for_ t (trIt (trE n) c tg it) (trSs c kp n body))
    | .While t body [] _ => .whl (trT (trE n) c t) (trSs c kp n body)
    | .Pass _ => .skip
    | .Break _ => .brk
    | .Continue _ => .cont
    | _ => .stk
def trSs (c : Cs) (kp : Bool) : Nat → List Stmt → S
  | 0, _ => .stk
  | n + 1, ss => match ss with
    | [] => .skip
    | s :: ss => .seq (trSt c kp n s) (trSs c kp n ss)
end
section
variable {cf : Str → List PV → Hs → R PV} {k : Nat} {X : Cx} {c : Cs}
theorem ps_stk {st : Stmt} : PS X st (tSt X (evS cf k .stk)) := s_never
theorem par_gs (g : Good cf X c) : ∀ (ts : List Expr) (is : List Nat), parIx c ts = some is → PGs X ts (gNs is) ∧ is.length = ts.length ∧ (assignEach ts X.env).length = ts.length ∧ (assignEach ts X.env).findIdx? (·.1) = none
  | [], is, h => by cases h; exact ⟨gs_nil, rfl, rfl, rfl⟩
  | e :: es, is, h => by
    unfold parIx at h
    split at h
    · rename_i h0; cases h0
    · rename_i x p es' he
      cases he
      split at h
      · rename_i hs
        obtain ⟨i, e1, e2⟩ := Option.bind_eq_some_iff.mp h
        obtain ⟨is, e3, rfl⟩ := Option.map_eq_some_iff.mp e2
        obtain ⟨q1, q2, q3, q4⟩ := par_gs g _ _ e3
        obtain ⟨s1, s2⟩ := g.st x hs
        refine ⟨gs_cons (by rw [g.nn]; exact g.nd) (by rw [g.nn]; exact ixOf_get e1) s1 s2 q1, by simp [q2], ?_, ?_⟩
        · show (assignEach es X.env).length + 1 = _
          rw [q3]; rfl
        · show ((false, assign _ X.env) :: assignEach es X.env).findIdx? (·.1) = none
          rw [List.findIdx?_cons, q4]; rfl
      · cases h
    · cases h
theorem par_ix2 {x y : Str} {p q : Pos} {k l : Nat} (h : parIx c [.Name x p, .Name y q] = some [k, l]) : c.N[k]? = some x ∧ c.N[l]? = some y := by
  unfold parIx at h
  split at h
  · obtain ⟨i, e1, e2⟩ := Option.bind_eq_some_iff.mp h
    obtain ⟨is, e3, e4⟩ := Option.map_eq_some_iff.mp e2
    unfold parIx at e3
    split at e3
    · obtain ⟨j, e5, e6⟩ := Option.bind_eq_some_iff.mp e3
      obtain ⟨js, e7, e8⟩ := Option.map_eq_some_iff.mp e6
      subst e8
      cases e4
      exact ⟨ixOf_get e1, ixOf_get e5⟩
    · cases e3
  · cases h
theorem par_ix3 {x y z : Str} {p q r : Pos} {k l n : Nat} (h : parIx c [.Name x p, .Name y q, .Name z r] = some [k, l, n]) : c.N[k]? = some x ∧ c.N[l]? = some y ∧ c.N[n]? = some z := by
  unfold parIx at h
  split at h
  · obtain ⟨i, e1, e2⟩ := Option.bind_eq_some_iff.mp h
    obtain ⟨is, e3, e4⟩ := Option.map_eq_some_iff.mp e2
    subst_vars
    match is, e3, e4 with
    | [l', n'], e3, e4 =>
      cases e4
      obtain ⟨h1, h2⟩ := par_ix2 e3
      exact ⟨ixOf_get e1, h1, h2⟩
  · cases h
theorem len2 {α : Type} {l : List α} (h : l.length = 2) : ∃ a b, l = [a, b] := by
  match l, h with
  | [a, b], _ => exact ⟨a, b, rfl⟩
theorem len3 {α : Type} {l : List α} (h : l.length = 3) : ∃ a b d, l = [a, b, d] := by
  match l, h with
  | [a, b, d], _ => exact ⟨a, b, d, rfl⟩
theorem bk_of (hk : X.env.scope.kind = .function) : X.env.blockKind = .function := by
  unfold Env.blockKind
  rw [hk]; rfl
theorem tr_par {f : Tr} (ok : Ok cf k f) (g : Good cf X c) (hk : X.env.scope.kind = .function) (ts vs : List Expr) (k1 k2 : Nat) (p1 p2 pos : Pos) : PS X (.Assign [.Tuple ts k1 p1] (.Tuple vs k2 p2) pos) (tSt X (evS cf k (trPar f c ts vs))) := by
  unfold trPar
  split
  · exact ps_stk
  · rename_i is ei
    split
    · rename_i h
      simp only [Bool.and_eq_true, Bool.not_eq_true', decide_eq_true_eq] at h
      obtain ⟨h1, h2, h3⟩ := h
      obtain ⟨q1, q2, q3, q4⟩ := par_gs g ts is ei
      have kd : (fun x => c.sc.names.lookup x) = X.env.kindOf := by
        funext x
        show _ = X.env.scope.names.lookup x
        rw [g.sc]
      split
      · exact ps_stk
      · rename_i es
        rw [kd] at es
        have hw := swF_ok (bk_of hk) (k1 := k1) (k2 := k2) (p1 := p1) (p2 := p2) es
        exact s_parN g.calm (by rw [q2]; exact Nat.le_trans h3 (by decide)) (tr_Ab (W := Wf) ok g _ vs) q1 (by rw [q3, q2]) q4 rfl hw
      · rename_i r es
        rw [kd] at es
        have hw := swF_ok (bk_of hk) (k1 := k1) (k2 := k2) (p1 := p1) (p2 := p2) es
        split
        · split
          · rename_i hc
            obtain ⟨rfl, rfl, hkl, hx, hy⟩ := hc
            obtain ⟨n1, n2⟩ := par_ix2 ei
            obtain ⟨a, b, rfl⟩ := len2 h2
            exact s_par2 g.calm (by rw [g.nn]; exact g.nd) (by rw [g.nn]; exact n1) (by rw [g.nn]; exact n2) hkl (by rw [g.sc]; exact hx) (by rw [g.sc]; exact hy) (tr_Ab (W := Wf) ok g _ [a, b]) hw rfl
          · exact ps_stk
        · split
          · rename_i hc
            obtain ⟨rfl, rfl, rfl, h4, h5, h6, hx, hy, hz⟩ := hc
            obtain ⟨n1, n2, n3⟩ := par_ix3 ei
            obtain ⟨a, b, d, rfl⟩ := len3 h2
            exact s_par3 g.calm (by rw [g.nn]; exact g.nd) (by rw [g.nn]; exact n1) (by rw [g.nn]; exact n2) (by rw [g.nn]; exact n3) h4 h5 h6 (by rw [g.sc]; exact hx) (by rw [g.sc]; exact hy) (by rw [g.sc]; exact hz) (tr_Ab (W := Wf) ok g _ [a, b, d]) hw rfl
          · exact ps_stk
        · exact ps_stk
    · exact ps_stk
theorem sw_false {e : Expr} (h : isCompE e = false) (t : Option Expr) (l : Nat) (env : Env) : swapsWith e t l env = pure false := by
  cases e <;> first | rfl | cases h
theorem s_setC {mt : Bool} {i : Nat} {y : Str} {py : Pos} {elt tg iter : Expr} {ifs : List Expr} {scope : Scope} {own : List (Str × Nat)} {pos spos : Pos} {t : Tg} {I : Sg → Hs → R Iw.It} {C : Sg → Hs → R Bool} {L : Sg → Hs → R PV} (hc : X.calm = true) (hN : X.N.Nodup) (hy : X.N[i]? = some y) (hyl : X.env.scope.names.lookup y = some .local)
    (hsw : swapsWith (.ListComp elt [⟨tg, iter, ifs, 0⟩] scope pos) (some (.Name y py)) spos.line X.env = pure true) (hi : PI X tg iter (tI X Wf I)) (ok : BlkOk X.N X.env.scope scope own) (ht0 : ∀ i ∈ tgs t, i ∈ own.map (·.2))
    (hg : ∀ (s : Shared) (H : Hp) (C : Addr) (cl : List (Str × Addr)) (fp : List Addr), PG (X.blk s H scope (compEnvC scope cl C X.env) fp) tg (tG X t)) (ht : ∀ (s : Shared) (H : Hp) (C' : Addr) (cl : List (Str × Addr)) (fp : List Addr), PTs (X.blk s H scope (compEnvC scope cl C' X.env) fp) ifs (tT X Wf C))
    (he : ∀ (s : Shared) (H : Hp) (C : Addr) (cl : List (Str × Addr)) (fp : List Addr), PE (X.blk s H scope (compEnvC scope cl C X.env) fp) elt (tE X Wf L)) (hs : ∀ x, foldedSetIterable iter X.env x = pure x) :
    PS X (.Assign [.Name y py] (.ListComp elt [⟨tg, iter, ifs, 0⟩] scope pos) spos) (tSt X (asgS (.nm i) (compE mt (own.map (·.2)) t I C L))) :=
  (ps_setLc hc hN hy hyl hsw hi ok hg ht he hs).imp fun D σ H ⟨m, p, h, rs, rh, hs⟩ =>
    comp_read (W' := Wf) ht0 ((tE_st rs rh hs).mono fun x H1 ⟨m1, a, h1, _, rs1, rh1, ra, s1⟩ => by
      have s1 : satR X.K D m1 H1 (.ok (.nx, p.set i (some a)) h1) := s1
      exact satR.nx (p := p.set i (some a)) s1 (rs1.set ra) rh1)
theorem tr_asg (n : Nat) (g : Good cf X c) (hk : X.env.scope.kind = .function) (tg e : Expr) (pos : Pos) : PS X (.Assign [tg] e pos) (tSt X (evS cf k (trAsg n c tg e))) := by
  have ok := ok_trE (cf := cf) (k := k) n
  unfold trAsg
  split
  · rename_i x px
    split
    · rename_i hs
      obtain ⟨q1, q2⟩ := g.st x hs
      split
      · exact ps_stk
      · rename_i i ei
        have hi : X.N[i]? = some x := by rw [g.nn]; exact ixOf_get ei
        have hN : X.N.Nodup := by rw [g.nn]; exact g.nd
        split
        · rename_i elt tg2 it ifs scope p2
          have hv := tr_comp (W := Wf) ok g (decide (x ∈ c.mn)) elt tg2 it ifs scope p2
          generalize hb : ((X.env.blockKind == .function && X.env.kindOf x == some .local && px.line == p2.line && !(scope.names.any fun (n, k) => n == x && (k == .local || k == .cell))) : Bool) = b
          have hsw : swapsWith (.ListComp elt [⟨tg2, it, ifs, 0⟩] scope p2) (some (.Name x px)) pos.line X.env = pure b := by rw [← hb]; rfl
          cases b with
          | false => exact s_set hN hi q1 hv hsw q2
          | true =>
            have hl : X.env.scope.names.lookup x = some .local := by
              simp only [Bool.and_eq_true, beq_iff_eq] at hb
              exact hb.1.1.2
            unfold trComp
            split
            · exact ⟨fun pins s σ H D I ⟨m, p, hh, rs, rh, hs⟩ => hs.elim⟩
            · rename_i t et
              split
              · rename_i h
                obtain ⟨h, hl2⟩ := h
                simp only [Bool.and_eq_true, List.all_eq_true, decide_eq_true_eq] at h
                by_cases hz : isSetE it = true
                · rw [it_set tg2 it hz]
                  exact ⟨fun pins s σ H D I ⟨m, p, hh, rs, rh, hs⟩ => hs.elim⟩
                · exact s_setC g.calm hN hi hl hsw (tr_it (W := Wf) ok g tg2 it) (blkOk_by (by rw [g.nn, g.sc]; exact h.1)) h.2 (fun s H C cl fp => tr_tg (g.blk s H scope C cl fp) _ _ _ et) (fun s H C cl fp => tr_ifs ok (g.blk s H scope C cl fp) ifs hl2) (fun s H C cl fp => ok.e _ _ (g.blk s H scope C cl fp) Wf false elt) (set_false (by simpa using hz))
              · exact ⟨fun pins s σ H D I ⟨m, p, hh, rs, rh, hs⟩ => hs.elim⟩
        · split
          · exact ps_stk
          · rename_i hz
            exact s_set hN hi q1 (ok.e c X g Wf _ e) (sw_false (by simpa using hz) _ _ _) q2
    · exact ps_stk
  · rename_i ts k1 p1
    split
    · exact tr_par ok g hk ts _ k1 _ p1 _ pos
    · rename_i hne
      split
      · exact ps_stk
      · rename_i hz
        split
        · exact ps_stk
        · rename_i t et
          refine s_asg (ok.e c X g Wf false e) (tr_tg g _ _ _ et) (by rw [swapsWithSole]; exact sw_false (by simpa using hz) _ _ _) ?_ rfl
          cases e <;> first | rfl | exact (hne _ _ _ rfl).elim
  · rename_i o i p1
    split
    · exact ps_stk
    · rename_i hz
      have hz : (isCompE e || isSlE i) = false := by simpa using hz
      rw [Bool.or_eq_false_iff] at hz
      refine s_sub g.un k (ok.e c X g Wf false o) (ok.e c X g Wf false i) (ok.e c X g Wf false e) (by rw [swapsWithSole]; exact sw_false hz.1 _ _ _) (by cases e <;> rfl) ?_
      have h2 := hz.2
      intro v
      cases i <;> first | rfl | cases h2
  · exact ps_stk
mutual
theorem tr_st (g : Good cf X c) (hk : X.env.scope.kind = .function) (hp : PassesOwn (model X.prog X.w) X.A X.env X.xe) (kp : Bool) : ∀ (n : Nat) (st : Stmt), PS X st (tSt X (evS cf k (trSt c kp n st)))
  | 0, st => ps_stk
  | n + 1, st => by
    have ok := ok_trE (cf := cf) (k := k) n
    unfold trSt
    split
    · exact tr_asg n g hk _ _ _
    · split
      · rename_i x px e pos hs
        obtain ⟨q1, q2⟩ := g.st x hs
        split
        · exact ps_stk
        · rename_i i ei
          exact s_aug (by rw [g.nn]; exact g.nd) (by rw [g.nn]; exact ixOf_get ei) q1 (ok.e c X g Wf false _) q2
      · exact ps_stk
    · split
      · exact ps_stk
      · rename_i hz
        exact s_ex (ok.e c X g Wf false _) (sw_false (by simpa using hz) _ _ _)
    · exact s_ret (ok.e c X g Wf kp _)
    · exact ps_retN.imp fun D σ H ⟨m, p, h, rs, rh, hs⟩ => hs σ H m .refl rh rs _ (.d .non)
    · exact s_if (ok.t c X g Wf _) (tr_ss g hk hp kp n _) (tr_ss g hk hp kp n _)
    · split
      · exact ps_stk
      · rename_i hz
        split
        · exact ps_stk
        · rename_i t et
          exact s_for hp g.calm (tr_it (W := Wf) ok g _ _) (tr_tg g _ _ _ et) (tr_ss g hk hp kp n _) (set_false (by simpa using hz))
    · exact s_whl hp (ok.t c X g Wf _) (tr_ss g hk hp kp n _)
    · exact s_pass
    · exact s_brk
    · exact s_cont
    · exact ps_stk
theorem tr_ss (g : Good cf X c) (hk : X.env.scope.kind = .function) (hp : PassesOwn (model X.prog X.w) X.A X.env X.xe) (kp : Bool) : ∀ (n : Nat) (ss : List Stmt), PSs X ss (tSt X (evS cf k (trSs c kp n ss)))
  | 0, ss => ss_never
  | n + 1, ss => by
    unfold trSs
    split
    · exact ss_nil
    · exact ss_cons (tr_st g hk hp kp n _) (tr_ss g hk hp kp n _)
end
end
end Iw
end

section
set_option Elab.async false
set_option linter.all false
set_option maxRecDepth 100000
/-! a whole program of plain functions -/
namespace Iw
open PySem PySem.Spec PyProof.Rows L2
def rsK (K : PySem.W.Frag) (mg : Str → Option Value) (f : List PV → Hs → R PV) : Spg := fun xs H Q => ∃ (E : Value → Hp → Prop) (m : Mp) (h : Hs) (ps : List PV), RH K m h H ∧ RVs K m H xs ps ∧ satG mg K E m H (RV K) (f ps h) Q
/-- what a function's text is put into -/
def csF (lits : List (Str × PyData)) (fns free mn : List Str) (dt : Bool) (N : List Str) (scope : Scope) : Cs := ⟨scope, scope, true, N, lits, fns, free, mn, dt⟩
def fuel : Nat := 60
structure FnIn (K : PySem.W.Frag) (mg : Str → Option Value) (lits : List (Str × PyData)) (fns free : List Str) (P : Pg) (x : Str) : Prop where
  ex : ∃ (as : List Arg) (kd : List (Option Expr)) (ds : List Expr) (body : List Stmt) (scope : Scope) (kws : List (Str × V)) (f : Addr) (fd : FuncData) (N mn : List Str) (kp dt : Bool),
    FunD K x x ⟨[], as, none, [], kd, none, ds⟩ body scope [] kws f fd ∧ mg x = some (.ref f) ∧ FnScope N (as.map (·.arg)) scope ∧ (as.map (·.arg)).Nodup ∧ P.lookup x = some ⟨as.length, N.length, kp, trSs (csF lits fns free mn dt N scope) kp fuel body⟩
theorem funD_binds {K : PySem.W.Frag} {x qual : Str} {as : List Arg} {kd : List (Option Expr)} {ds : List Expr} {body : List Stmt} {scope : Scope} {kws : List (Str × V)} {f : Addr} {fd : FuncData} (F : FunD K x qual ⟨[], as, none, [], kd, none, ds⟩ body scope [] kws f fd) (hn : (as.map (·.arg)).Nodup) : Binds K fd (as.map (·.arg)) [] := by
  obtain ⟨oc, od, dV, kV, doc, pm, an, cdv, ct, osl, rfl, lk, hcd, hD, hK⟩ := F.ex
  rcases hD with ⟨_, rfl⟩ | ⟨e, _⟩
  · exact .all fun us hl => bind_plain hn (by rw [hl, List.length_map])
  · exact absurd rfl e
section
variable {P : Program} {w : World} {K : PySem.W.Frag} {mg : Str → Option Value} {base : Heap} {lits : List (Str × PyData)} {fns free : List Str} {Q : Pg}
def Lvl (P : Program) (w : World) (K : PySem.W.Frag) (mg : Str → Option Value) (base : Heap) (fns : List Str) (Q : Pg) (n : Nat) : Prop := ∀ x, x ∈ fns → ∃ (f : Addr) (fd : FuncData) (ps : List Str), FnG P w K mg base n f fd ps (rsK K mg (callN Q n x)) ∧ Binds K fd ps [] ∧ PySem.W.keepIn K (.ref f) = true ∧ mg x = some (.ref f)
theorem fn_one (hfree : ∀ x ∈ free, mg x = none) (hl : ∀ x d, lits.lookup x = some d → ∃ u v, mg x = some u ∧ RelV v u ∧ ∀ m H, Rp m H v d) {n : Nat} (ih : Lvl P w K mg base fns Q n) {x : Str} {as : List Arg} {kd : List (Option Expr)} {ds : List Expr} {body : List Stmt} {scope : Scope} {kws : List (Str × V)} {f : Addr} {fd : FuncData} {N mn : List Str} {kp dt : Bool}
    (F : FunD K x x ⟨[], as, none, [], kd, none, ds⟩ body scope [] kws f fd) (S : FnScope N (as.map (·.arg)) scope) (hq : Q.lookup x = some ⟨as.length, N.length, kp, trSs (csF lits fns free mn dt N scope) kp fuel body⟩) : FnG P w K mg base (n + 1) f fd (as.map (·.arg)) (rsK K mg (callN Q (n + 1) x)) := by
  have hc : ∀ vs h, callN Q (n + 1) x vs h = if vs.length = as.length then fin kp h.length (evS (callN Q n) h.length (trSs (csF lits fns free mn dt N scope) kp fuel body) (vs.map some ++ List.replicate (N.length - vs.length) none) h) else .bad := fun vs h => by
    show (match Q.lookup x with
      | none => (R.bad : R PV)
      | some fd => if vs.length = fd.np then fin fd.kp h.length (evS (callN Q n) h.length fd.body (vs.map some ++ List.replicate (fd.ns - vs.length) none) h) else .bad) = _
    rw [hq]
  refine fnG_of F S (fun vs H q ⟨E, m, h, ps, rh, rv, hs⟩ => ?_) (fun cdv A outer s H vs q hr hg ⟨E, m, h, ps, rh, rv, hs⟩ => ?_)
  · rw [hc] at hs
    obtain ⟨hl, _⟩ := satG_if hs
    rw [rv.len, hl, List.length_map]
  · rw [hc] at hs
    obtain ⟨_, hs⟩ := satG_if hs
    have g : Good (callN Q n) (cxOf CXn P w K mg base N x scope f cdv A outer s H En).nox (csF lits fns free mn dt N scope) :=
      { sc := rfl
        nn := rfl
        nd := S.nd
        calm := rfl
        gd := hg
        un := hr.units
        un2 := by have h := hr.un; exact (show (A.deeper (envOfC x scope s.heap.objs.size f cdv)).units + 70 < cLine by omega)
        st := fun y hy => by
          refine ⟨?_, .inl rfl⟩
          have hy : (match scope.names.lookup y with
            | some .local => true
            | some .cell => true
            | _ => false) = true := hy
          show scope.names.lookup y = some .local ∨ scope.names.lookup y = some .cell
          split at hy
          · rename_i e; exact .inl e
          · rename_i e; exact .inr e
          · cases hy
        free := hfree
        lits := hl
        fns := fun y hy => by
          obtain ⟨f', fd', ps', G, b, kk, mm⟩ := ih y hy
          exact ⟨n, f', fd', ps', G, hr, b, kk, mm⟩ }
    refine ⟨_, tr_ss (k := h.length) g S.kind PassesOwn.never kp fuel body, m, _, h, rs_start rv, rh, ?_⟩
    exact fin_sat rh (ev_evS (cf_ok Q n) _ _ h (Nat.le_refl _)) hs
theorem fns_ok (hf : ∀ x ∈ fns, FnIn K mg lits fns free Q x) (hfree : ∀ x ∈ free, mg x = none) (hl : ∀ x d, lits.lookup x = some d → ∃ u v, mg x = some u ∧ RelV v u ∧ ∀ m H, Rp m H v d) : ∀ n, Lvl P w K mg base fns Q n
  | 0, x, hx => by
    obtain ⟨as, kd, ds, body, scope, kws, f, fd, N, mn, kp, dt, F, hm, S, hn, hq⟩ := (hf x hx).ex
    exact ⟨f, fd, _, ⟨fun vs H q ⟨E, m, h, ps, rh, rv, hs⟩ => hs.elim, fun A outer s H args us vs q hr hg he hb hv ⟨E, m, h, ps, rh, rv, hs⟩ => hs.elim⟩, funD_binds F hn, F.kp, hm⟩
  | n + 1, x, hx => by
    obtain ⟨as, kd, ds, body, scope, kws, f, fd, N, mn, kp, dt, F, hm, S, hn, hq⟩ := (hf x hx).ex
    exact ⟨f, fd, _, fn_one hfree hl (fns_ok hf hfree hl n) F S hq, funD_binds F hn, F.kp, hm⟩
end
end Iw
end

section
set_option Elab.async false
set_option linter.all false
set_option maxRecDepth 100000
set_option maxHeartbeats 1000000
/-! a law's end, for promises that hold where nothing is guarded -/
namespace Iw
open PySem PySem.Spec PyProof.Rows L2
section
variable {P : Program} {w : World} {K : PySem.W.Frag} {mg mb : Str → Option Value} {k : Nat} {fa a : Addr} {fd : FuncData} {x : Str} {sp : Spg} {s₁ : Shared} {vs : List Value} {ns : List Int}
/-- the call, over an abstract heap that tracks the script at most -/
theorem law_core (KX : K.In s₁.heap) (hns : s₁.heap.Ns mainGlobals mg) (hb : s₁.heap.Ns builtinsNs mb) (hbb : ∀ x : Str, x ≠ "__name__" → mb x = bootBuiltins x) (hlim : s₁.heap.NoLimit) (hg : s₁.gens = #[])
    (ha : s₁.heap.get? a = some { cls := .type "list", data := .seq vs.toArray }) (hr : Room k callerA)
    (F : ∀ base : Heap, K.In base → base.Ns mainGlobals mg → FnG P w K mg base k fa fd [x] sp) (hbind : ∀ (s : Shared) (u : Value), BindsTo s fd ⟨[u], []⟩ [(x, u)])
    {H : Hp} (hO : Only H) (hsp : sp [.ref a] H fun v _ => v = .bl true) (hok : HOk P w H s₁.heap) (hA : ∀ b, H b ≠ none → b = a) (hK : H a ≠ none → K.lookup a = none) :
    codeAny (model P w) callerA (.call (.ref fa) ⟨[.ref a], []⟩) (fun r s' => r = .ok (.ret (.bool true)) ∧ OldK s₁.heap s'.heap ∧ s'.os = s₁.os ∧ AllBare s'.gens) s₁ := by
  have free : ∀ {b : Addr} {o : Obj}, s₁.heap.get? b = some o → (b = a → H a = none) → (hidT s₁.heap H).get? b = some o := fun {b o} e n => hidT_get e (by
    by_cases z : b = a
    · rw [z]; exact n z
    · cases q : H b with
      | none => rfl
      | some u => exact absurd (hA b (by rw [q]; simp)) z)
  have space : ∀ {b : Addr} {m : Str → Option Value}, s₁.heap.Ns b m → (hidT s₁.heap H).Ns b m := fun {b m} ⟨o, es, ep, e, d, r⟩ => ⟨o, es, ep, free e (fun z => by
    rw [z, ha] at e; cases e
    cases d), d, r⟩
  have KB : K.In (hidT s₁.heap H) := fun b o e => free (KX b o e) fun z => by
    cases q : H a with
    | none => rfl
    | some u =>
      rw [z, hK (by rw [q]; simp)] at e; cases e
  obtain ⟨ml, l1, l2⟩ := hlim
  have e0 : Env0 P w K mg (hidT s₁.heap H) callerA [] s₁ H :=
    { frames := rfl, mod := ⟨KB, space hns, ⟨mb, space hb, hbb⟩, ⟨ml, space l1, l2⟩⟩, bs := fun b o e => of_hidT e, bsz := Nat.le_of_eq (hidT_size _ _), funs := trivial, frf := (fun b z => nomatch z), hok := hok, bare := .of_eq hg }
  refine codeAny_mono ((F _ KB (space hns)).run callerA [] s₁ H ⟨[.ref a], []⟩ [.ref a] [.ref a] _ hr rfl e0 (hbind s₁ (.ref a)) (.cons rfl .nil) hsp) fun r s' h => ?_
  match r, h with
  | .error e, h => exact False.elim h
  | .ok .next, h => exact False.elim h
  | .ok .brk, h => exact False.elim h
  | .ok .cont, h => exact False.elim h
  | .ok (.ret u), ⟨v, H', os, bare, un, hok', r', q⟩ =>
    have q : v = .bl true := q
    subst q
    obtain rfl : u = Value.bool true := r'
    refine ⟨rfl, OldK.of_keep fun b o e => ?_, os, bare⟩
    rcases hO b with z | ⟨ob, xs, z⟩
    · exact un.keep b o e z (fun z => nomatch z) (by simp)
    · obtain ⟨e1, _⟩ := hok b _ z
      obtain ⟨e2, _⟩ := hok' b _ (un.frzs b ob _ z)
      rw [e] at e1; cases e1
      exact e2
/-- the object that the script is -/
theorem law_G (KX : K.In s₁.heap) (hns : s₁.heap.Ns mainGlobals mg) (hb : s₁.heap.Ns builtinsNs mb) (hbb : ∀ x : Str, x ≠ "__name__" → mb x = bootBuiltins x) (hlim : s₁.heap.NoLimit) (hg : s₁.gens = #[])
    (ha : s₁.heap.get? a = some { cls := .type "list", data := .seq vs.toArray }) (hi : IntsAre vs ns) (hl : ns.length ≤ sizeLine) (hr : Room k callerA)
    (F : ∀ base : Heap, K.In base → base.Ns mainGlobals mg → FnG P w K mg base k fa fd [x] sp) (hbind : ∀ (s : Shared) (u : Value), BindsTo s fd ⟨[u], []⟩ [(x, u)])
    (hsp : ∀ H : Hp, SqL K H a (ns.map V.int) → sp [.ref a] H fun v _ => v = .bl true) :
    codeAny (model P w) callerA (.call (.ref fa) ⟨[.ref a], []⟩) (fun r s' => r = .ok (.ret (.bool true)) ∧ OldK s₁.heap s'.heap ∧ s'.os = s₁.os ∧ AllBare s'.gens) s₁ := by
  have rv := vals_ints hi
  have lv := hi.length
  cases hk : K.lookup a with
  | some o =>
    have e := KX a o hk
    rw [ha] at e
    cases e
    have hS : SqL K (fun _ => none) a (ns.map V.int) := .inr ⟨_, vs.toArray, _, hk, rfl, rfl, rfl, by rw [List.size_toArray, lv]; exact hl, by simpa using rv⟩
    exact law_core KX hns hb hbb hlim hg ha hr F hbind (fun _ => .inl rfl) (hsp _ hS) (fun b u z => nomatch (show (none : Option HO) = some u from z)) (fun b z => absurd rfl z) fun z => absurd rfl z
  | none =>
    let u : HO := .frz { cls := .type "list", data := .seq vs.toArray } (.lst (ns.map V.int))
    have ne : ∀ {b : Addr}, b ≠ a → upd (fun _ => none) a u b = none := fun z => by rw [upd_ne z]
    refine law_core KX hns hb hbb hlim hg ha hr F hbind (H := upd (fun _ => none) a u) (fun b => ?_) (hsp _ (.inl (.inr ⟨_, upd_same⟩))) (fun b o z => ?_) (fun b z => ?_) fun _ => hk
    · by_cases z : b = a
      · rw [z]; exact .inr ⟨_, _, upd_same⟩
      · exact .inl (ne z)
    · by_cases q : b = a
      · subst q
        rw [upd_same] at z
        cases z
        exact ⟨ha, by rw [List.length_map]; exact hl, vs, _, rv, ha⟩
      · rw [ne q] at z; cases z
    · by_cases q : b = a
      · exact q
      · exact absurd (ne q) z
end
theorem walk_G {l : PySem.W.OpenLaw} {n k : Nat} {q : Program} {loose : List Str} {XP : (Str → Option Value) → Heap → Prop} {YP : World → Heap → Prop} {d : DefRec} {x : Str}
    (hn : l.most = some n) (hn2 : n ≤ sizeLine) (hdf : d.params.defaults = []) (hr : Room k callerA)
    (F : ∀ (w : World) (mg : Str → Option Value) (fa : Addr) (h : Heap), YP w h → h.Ns mainGlobals mg → mg d.name = some (.ref fa) →
      ∃ (K : PySem.W.Frag) (fd : FuncData) (sp : Spg), K.In h ∧ (∀ (s : Shared) (u : Value), BindsTo s fd ⟨[u], []⟩ [(x, u)]) ∧
        (∀ (H : Hp) (a : Addr) (ns : List Int), ns.length ≤ n → SqL K H a (ns.map V.int) → sp [.ref a] H fun v _ => v = .bl true) ∧
        ∀ base : Heap, K.In base → base.Ns mainGlobals mg → FnG l.prog w K mg base k fa fd [x] sp) :
    PySem.W.WalkO q loose XP YP l.row.toRowW d [] (fun f vs => PySem.call f vs) := by
  refine Att.attach_call hn hdf fun w s₀ s₁ mg mb fa o pm cd doc a vs ns G Y ho hd hcd hmg hobj hints hlen hg => ?_
  obtain ⟨K, fd, sp, KX, hb, hsp, hF⟩ := F w mg fa _ Y G.T.g hmg
  exact law_G KX G.T.g G.T.b G.T.builtins G.T.nolimit hg hobj hints (Nat.le_trans hlen hn2) hr hF hb fun H hS => hsp H a ns hlen hS
/-- the script's call, in the interpreter -/
theorem law_sp {K : PySem.W.Frag} {mg : Str → Option Value} {f : List PV → Hs → R PV} {H : Hp} {a : Addr} {ns : List Int} (h : f [.scr ns] [] = .ok (bool true) []) (hS : SqL K H a (ns.map V.int)) : rsK K mg f [.ref a] H fun v _ => v = .bl true := by
  have sc : Scr K ⟨[], []⟩ H a (ns.map V.int) := hS.imp (fun z => ⟨z, fun q => q.elim (fun q => nomatch q) fun q => nomatch q⟩) id
  refine ⟨fun _ _ => False, ⟨[], []⟩, [], [.scr ns], ⟨rfl, .nil, (fun b hb => nomatch hb), fun n o e => by simp at e⟩, .cons (.scr sc) .nil, ?_⟩
  rw [h]
  exact fun b H' m' _ _ r => rv_bool r
end Iw
end

section
set_option Elab.async false
set_option linter.all false
set_option maxRecDepth 100000
/-! a law's tables, the facts of its head -/
namespace Iw
open PySem PySem.Spec PyProof.Rows L2
structure Rec where
  x : Str
  i : Nat
  N : List Str
  mn : List Str
  kp : Bool
  dt : Bool
def plainArgs (a : Arguments) : Bool := a.posonlyargs.isEmpty && (a.vararg.isNone && (a.kwonlyargs.isEmpty && a.kwarg.isNone))
theorem plain_eq {a : Arguments} (h : plainArgs a = true) : a = ⟨[], a.args, none, [], a.kw_defaults, none, a.defaults⟩ := by
  obtain ⟨p, as, va, ko, kd, kw, ds⟩ := a
  unfold plainArgs at h
  simp only [Bool.and_eq_true, List.isEmpty_iff, Option.isNone_iff_eq_none] at h
  obtain ⟨rfl, rfl, rfl, rfl⟩ := h
  rfl
def scOk (N P : List Str) (sc : Scope) : Bool :=
  decide (sc.kind = .function) && (!sc.isCoroutine && (!sc.isGenerator && (decide N.Nodup && (decide (N.take P.length = P) && ((P.all fun x => decide (sc.names.lookup x = some .local) || decide (sc.names.lookup x = some .cell)) && sc.names.all fun y => !decide (y.2 = .free))))))
theorem scOk_by {N P : List Str} {sc : Scope} (h : scOk N P sc = true) : FnScope N P sc := by
  unfold scOk at h
  simp only [Bool.and_eq_true, Bool.not_eq_true', decide_eq_true_eq, List.all_eq_true, Bool.or_eq_true, decide_eq_false_iff_not] at h
  obtain ⟨h1, h2, h3, h4, h5, h6, h7⟩ := h
  exact ⟨h1, h2, h3, h4, h5, h6, h7⟩
section
variable (top : Nat → Stmt) (recs : List Rec) (free : List Str) (lits : List (Str × PyData))
def fnsOf : List Str := recs.map (·.x)
def irOf (r : Rec) : S := trSs (csF lits (fnsOf recs) free r.mn r.dt r.N (defScope (top r.i))) r.kp fuel (defBody (top r.i))
def mkD (r : Rec) : He.DefD := ⟨(r.x, none), r.x, r.x, defArgs (top r.i), defBody (top r.i), defScope (top r.i), [], []⟩
def fnOf : List He.DefD := recs.map (mkD top)
def litF : Str × PyData → He.Fa
  | (x, .int i) => .int x i
  | (x, .str z) => .str x z
  | (x, _) => .glo x
def faOf : List He.Fa := (fnsOf recs).map .glo ++ (free.map .free ++ lits.map litF)
def litOk : PyData → Bool
  | .int _ => true
  | .str _ => true
  | _ => false
def pgOf (fs : List S) : Pg := List.zipWith (fun (r : Rec) (f : S) => (r.x, (⟨(defArgs (top r.i)).args.length, r.N.length, r.kp, f⟩ : Fd))) recs fs
def okR (r : Rec) : Bool := plainArgs (defArgs (top r.i)) && (scOk r.N ((defArgs (top r.i)).args.map (·.arg)) (defScope (top r.i)) && decide ((defArgs (top r.i)).args.map (·.arg)).Nodup)
end
section
variable {top : Nat → Stmt} {recs : List Rec} {free : List Str} {lits : List (Str × PyData)} {Q : Pg} {K : PySem.W.Frag} {h : Heap} {mg : Str → Option Value}
theorem fact_of (c : He.SaysD (faOf recs free lits) (fnOf top recs) K) {f : He.Fa} (hf : f ∈ faOf recs free lits) : f.ok K = true := by
  obtain ⟨i, e⟩ := List.getElem?_of_mem hf
  exact c.fact i e
theorem def_of (c : He.SaysD (faOf recs free lits) (fnOf top recs) K) {r : Rec} (hr : r ∈ recs) : ∃ fd, FunD K r.x r.x (defArgs (top r.i)) (defBody (top r.i)) (defScope (top r.i)) [] [] (He.fAd K (r.x, none)) fd := by
  obtain ⟨i, e⟩ := List.getElem?_of_mem (List.mem_map.mpr ⟨r, hr, rfl⟩ : mkD top r ∈ fnOf top recs)
  exact c.def_ i e
theorem free_of (X : K.In h) (G : h.Ns mainGlobals mg) (c : He.SaysD (faOf recs free lits) (fnOf top recs) K) : ∀ x ∈ free, mg x = none := fun x hx =>
  He.free_ok X G (fact_of c (List.mem_append_right _ (List.mem_append_left _ (List.mem_map.mpr ⟨x, hx, rfl⟩))))
theorem glo_of (X : K.In h) (G : h.Ns mainGlobals mg) (c : He.SaysD (faOf recs free lits) (fnOf top recs) K) {r : Rec} (hr : r ∈ recs) : mg r.x = some (.ref (He.fAd K (r.x, none))) :=
  He.glo_ok X G (fact_of c (List.mem_append_left _ (List.mem_map.mpr ⟨r.x, List.mem_map.mpr ⟨r, hr, rfl⟩, rfl⟩)))
theorem lits_of (X : K.In h) (G : h.Ns mainGlobals mg) (c : He.SaysD (faOf recs free lits) (fnOf top recs) K) (ok : lits.all (fun p => litOk p.2) = true) : ∀ x d, lits.lookup x = some d → ∃ u v, mg x = some u ∧ RelV v u ∧ ∀ m H, Rp m H v d := fun x d e => by
  have hm := PySem.mem_of_lookup e
  have hk := List.all_eq_true.mp ok _ hm
  have hf := fact_of c (List.mem_append_right _ (List.mem_append_right _ (List.mem_map.mpr ⟨(x, d), hm, rfl⟩)))
  cases d with
  | int i =>
    obtain ⟨t, e1⟩ := He.int_ok X G (x := x) (i := i) hf
    exact ⟨_, .int i, e1, ⟨t, rfl⟩, fun _ _ => .int i⟩
  | str z =>
    obtain ⟨t, e1⟩ := He.str_ok X G (x := x) (z := z) hf
    exact ⟨_, .str z, e1, ⟨t, rfl⟩, fun _ _ => .str z⟩
  | _ => cases hk
theorem lookup_zip_rec {g : Rec → S → Fd} : ∀ {recs : List Rec} {f : Rec → S}, (recs.map (·.x)).Nodup → ∀ {r : Rec}, r ∈ recs → (List.zipWith (fun (r : Rec) (s : S) => (r.x, g r s)) recs (recs.map f)).lookup r.x = some (g r (f r))
  | r0 :: recs, f, hn, r, hr => by
    rw [List.map_cons, List.nodup_cons] at hn
    rw [List.map_cons, List.zipWith_cons_cons, List.lookup_cons]
    rcases List.mem_cons.mp hr with e | hr
    · subst e; simp
    · have ne : r.x ≠ r0.x := fun e => hn.1 (e ▸ List.mem_map.mpr ⟨r, hr, rfl⟩)
      have e2 : (r.x == r0.x) = false := by simpa using ne
      rw [e2]
      exact lookup_zip_rec hn.2 hr
theorem q_of {fs : List S} {ex : Pg} (hq : Q = pgOf top recs fs ++ ex) (hc : recs.map (irOf top recs free lits) = fs) (hn : (recs.map (·.x)).Nodup) {r : Rec} (hr : r ∈ recs) : Q.lookup r.x = some ⟨(defArgs (top r.i)).args.length, r.N.length, r.kp, irOf top recs free lits r⟩ := by
  subst hq hc
  have e := lookup_zip_rec (g := fun r f => (⟨(defArgs (top r.i)).args.length, r.N.length, r.kp, f⟩ : Fd)) (f := irOf top recs free lits) hn hr
  rw [List.lookup_append, show (pgOf top recs (recs.map (irOf top recs free lits))).lookup r.x = _ from e]
  rfl
theorem fnIn_of {fs : List S} {ex : Pg} (X : K.In h) (G : h.Ns mainGlobals mg) (c : He.SaysD (faOf recs free lits) (fnOf top recs) K) (hq : Q = pgOf top recs fs ++ ex) (hc : recs.map (irOf top recs free lits) = fs) (hn : (recs.map (·.x)).Nodup) (hr : recs.all (okR top) = true) : ∀ x ∈ fnsOf recs, FnIn K mg lits (fnsOf recs) free Q x := fun x hx => by
  obtain ⟨r, h1, rfl⟩ := List.mem_map.mp hx
  obtain ⟨fd, F⟩ := def_of c h1
  have ok := List.all_eq_true.mp hr r h1
  unfold okR at ok
  simp only [Bool.and_eq_true, decide_eq_true_eq] at ok
  obtain ⟨o1, o2, o3⟩ := ok
  have q := q_of hq hc hn h1
  unfold irOf at q
  rw [plain_eq o1] at F
  exact ⟨_, _, _, _, _, _, _, fd, r.N, r.mn, r.kp, r.dt, F, glo_of X G c h1, scOk_by o2, o3, q⟩
/-- a law, from its run in the interpreter -/
theorem law_of {l : PySem.W.OpenLaw} {n : Nat} {fs : List S} {ex : Pg} {w : World} {fa : Addr} {x : Str} {rl : Rec} (X : K.In h) (G : h.Ns mainGlobals mg) (c : He.SaysD (faOf recs free lits) (fnOf top recs) K) (hq : Q = pgOf top recs fs ++ ex) (hc : recs.map (irOf top recs free lits) = fs) (hn : (recs.map (·.x)).Nodup) (hr : recs.all (okR top) = true) (hl : lits.all (fun p => litOk p.2) = true)
    (hrl : rl ∈ recs) (hx : rl.x = "law") (hp : (defArgs (top rl.i)).args.map (·.arg) = [x]) (hfa : mg "law" = some (.ref fa)) (pure : ∀ ns : List Int, ns.length ≤ 63 → callN Q (n + 1) "law" [.scr ns] [] = .ok (bool true) []) :
    ∃ (fd : FuncData) (sp : Spg), (∀ (s : Shared) (u : Value), BindsTo s fd ⟨[u], []⟩ [(x, u)]) ∧ (∀ (H : Hp) (a : Addr) (ns : List Int), ns.length ≤ 63 → SqL K H a (ns.map V.int) → sp [.ref a] H fun v _ => v = .bl true) ∧ ∀ base : Heap, K.In base → base.Ns mainGlobals mg → FnG l.prog w K mg base (n + 1) fa fd [x] sp := by
  obtain ⟨fd, F⟩ := def_of c hrl
  have ok := List.all_eq_true.mp hr rl hrl
  unfold okR at ok
  simp only [Bool.and_eq_true, decide_eq_true_eq] at ok
  obtain ⟨o1, o2, o3⟩ := ok
  have q := q_of hq hc hn hrl
  unfold irOf at q
  have g := glo_of X G c hrl
  rw [hx] at g q
  have ea : fa = He.fAd K (rl.x, none) := by
    rw [hfa] at g; cases g; rw [hx]
  rw [plain_eq o1] at F
  have hlen : (defArgs (top rl.i)).args.length = 1 := by rw [← List.length_map (f := fun a : Arg => a.arg), hp]; rfl
  rw [← ea, hx] at F
  have b := FunD.bindsA (ps := [x]) F fun kV doc pm an cdv ct us hl => by
    rw [bind_plain o3 (by rw [hlen]; exact hl), hp]
  refine ⟨fd, rsK K mg (callN Q (n + 1) "law"), fun s u => b s [u] rfl, fun H a ns hl hS => law_sp (pure ns hl) hS, fun base hKb hGb => ?_⟩
  have all := fns_ok (P := l.prog) (w := w) (base := base) (fnIn_of X G c hq hc hn hr) (free_of X G c) (lits_of X G c hl)
  have one := fn_one (free_of X G c) (lits_of X G c hl) (all n) F (scOk_by o2) q
  rw [hp] at one
  exact one
end
end Iw
end

section
set_option Elab.async false
set_option linter.all false
set_option maxRecDepth 100000
/-! the plain side: what a term does, by rules for its result -/
namespace Iw
open PySem L2
def Sat {α : Type} (r : R α) (Q : α → Hs → Prop) : Prop := ∃ a h, r = .ok a h ∧ Q a h
section
variable {α β : Type} {Q Q' : α → Hs → Prop} {h : Hs}
theorem Sat.mono {r : R α} (s : Sat r Q) (i : ∀ a h, Q a h → Q' a h) : Sat r Q' := let ⟨a, h, e, q⟩ := s; ⟨a, h, e, i a h q⟩
@[simp] theorem sat_ok {a : α} : Sat (.ok a h) Q ↔ Q a h := ⟨fun ⟨_, _, e, q⟩ => by cases e; exact q, fun q => ⟨_, _, rfl, q⟩⟩
@[simp] theorem sat_bad : Sat (.bad : R α) Q ↔ False := ⟨(fun ⟨_, _, e, _⟩ => nomatch e), False.elim⟩
theorem sat_bind {r : R β} {f : β → Hs → R α} : Sat (r.bind f) Q ↔ Sat r fun b h => Sat (f b h) Q := by
  constructor
  · intro ⟨a, h, e, q⟩
    cases r with
    | ok b h1 => exact ⟨b, h1, rfl, a, h, e, q⟩
    | exc _ _ => cases e
    | bad => cases e
  · intro ⟨b, h1, e, a, h, e2, q⟩
    subst e
    exact ⟨a, h, e2, q⟩
theorem sat_if {c : Prop} [Decidable c] {r : R α} : Sat (if c then r else .bad) Q ↔ c ∧ Sat r Q := by
  by_cases e : c
  · rw [if_pos e]; exact ⟨fun s => ⟨e, s⟩, fun s => s.2⟩
  · rw [if_neg e]; exact ⟨fun s => (sat_bad.mp s).elim, fun s => absurd s.1 e⟩
theorem sat_of {o : Option α} : Sat (R.of o h) Q ↔ ∃ a, o = some a ∧ Q a h := by
  cases o with
  | none => exact ⟨fun s => (sat_bad.mp s).elim, fun ⟨_, e, _⟩ => nomatch e⟩
  | some a => exact ⟨fun s => ⟨a, rfl, sat_ok.mp s⟩, fun ⟨b, e, q⟩ => by cases e; exact sat_ok.mpr q⟩
@[simp] theorem sat_some {a : α} : Sat (R.of (some a) h) Q ↔ Q a h := sat_ok
theorem Sat.eq {r : R α} {a : α} {h : Hs} (s : Sat r fun b h' => b = a ∧ h' = h) : r = .ok a h := by
  obtain ⟨_, _, e, rfl, rfl⟩ := s; exact e
end
section
variable {cf : Str → List PV → Hs → R PV} {k : Nat} {σ : Sg} {h : Hs} {Q : PV → Hs → Prop} {Qs : List PV → Hs → Prop} {Qb : Bool → Hs → Prop} {Qi : It → Hs → Prop} {Qo : Option Int → Hs → Prop} {Qf : Fl × Sg → Hs → Prop}
@[simp] theorem v_loc {i : Nat} : Sat ((den cf k (.loc i)).e σ h) Q ↔ ∃ v, σ[i]? = some (some v) ∧ Q v h := by
  show Sat (match σ[i]? with
    | some (some v) => .ok v h
    | _ => .bad) Q ↔ _
  cases e : σ[i]? with
  | none => exact ⟨fun s => (sat_bad.mp s).elim, fun ⟨v, e2, _⟩ => by cases e2⟩
  | some o =>
    cases o with
    | none => exact ⟨fun s => (sat_bad.mp s).elim, fun ⟨v, e2, _⟩ => by cases e2⟩
    | some v => exact ⟨fun s => ⟨v, rfl, sat_ok.mp s⟩, fun ⟨w, e2, q⟩ => by cases e2; exact sat_ok.mpr q⟩
@[simp] theorem v_lit {x : PyData} : Sat ((den cf k (.lit x)).e σ h) Q ↔ Q (.d x) h := sat_ok
@[simp] theorem v_bin {o : BO} {a b : E} : Sat ((den cf k (.bin o a b)).e σ h) Q ↔ Sat ((den cf k a).e σ h) fun x h1 => Sat ((den cf k b).e σ h1) fun y h2 => Sat (binop o x y h2) Q := by
  show Sat (R.bind _ _) Q ↔ _
  simp only [sat_bind]
@[simp] theorem v_neg {a : E} : Sat ((den cf k (.neg a)).e σ h) Q ↔ Sat ((den cf k a).e σ h) fun x h1 => Sat (negv x h1) Q := by
  show Sat (R.bind _ _) Q ↔ _
  simp only [sat_bind]
@[simp] theorem v_tOf {a : E} {Qb : Bool → Hs → Prop} : Sat (tOf (den cf k a).e σ h) Qb ↔ Sat ((den cf k a).e σ h) fun x h1 => ∃ b, tru h1 x = some b ∧ Qb b h1 := by
  show Sat (R.bind _ _) Qb ↔ _
  simp only [sat_bind, sat_of]
@[simp] theorem v_not {a : E} : Sat ((den cf k (.not a)).e σ h) Q ↔ Sat (tOf (den cf k a).e σ h) fun b h1 => Q (.d (.bool (!b))) h1 := by
  show Sat (R.bind _ _) Q ↔ _
  simp only [sat_bind, sat_ok]
@[simp] theorem v_and {a b : E} : Sat ((den cf k (.and a b)).e σ h) Q ↔ Sat ((den cf k a).e σ h) fun x h1 => ∃ c, tru h1 x = some c ∧ (match c with
    | true => Sat ((den cf k b).e σ h1) Q
    | false => Q x h1) := by
  show Sat (R.bind _ _) Q ↔ _
  simp only [sat_bind, sat_of]
  constructor <;> refine fun s => s.mono fun x h1 ⟨c, e, q⟩ => ⟨c, e, ?_⟩ <;> cases c
  · exact sat_ok.mp q
  · exact q
  · exact sat_ok.mpr q
  · exact q
@[simp] theorem v_or {a b : E} : Sat ((den cf k (.or a b)).e σ h) Q ↔ Sat ((den cf k a).e σ h) fun x h1 => ∃ c, tru h1 x = some c ∧ (match c with
    | true => Q x h1
    | false => Sat ((den cf k b).e σ h1) Q) := by
  show Sat (R.bind _ _) Q ↔ _
  simp only [sat_bind, sat_of]
  constructor <;> refine fun s => s.mono fun x h1 ⟨c, e, q⟩ => ⟨c, e, ?_⟩ <;> cases c
  · exact q
  · exact sat_ok.mp q
  · exact q
  · exact sat_ok.mpr q
@[simp] theorem v_cmp {o : CO} {a b : E} : Sat ((den cf k (.cmp o a b)).e σ h) Q ↔ Sat ((den cf k a).e σ h) fun x h1 => Sat ((den cf k b).e σ h1) fun y h2 => ∃ c, cmpop o x y h2 = some c ∧ Q (.d (.bool c)) h2 := by
  show Sat (R.bind _ _) Q ↔ _
  simp only [sat_bind, sat_of, Option.map_eq_some_iff]
  constructor <;> refine fun s => s.mono fun x h1 s => s.mono fun y h2 q => ?_
  · obtain ⟨_, ⟨c, e, rfl⟩, q⟩ := q
    exact ⟨c, e, q⟩
  · obtain ⟨c, e, q⟩ := q
    exact ⟨_, ⟨c, e, rfl⟩, q⟩
@[simp] theorem v_chain {o p : CO} {a b c : E} : Sat ((den cf k (.chain o p a b c)).e σ h) Q ↔ Sat ((den cf k a).e σ h) fun x h1 => Sat ((den cf k b).e σ h1) fun y h2 => ∃ t, cmpop o x y h2 = some t ∧ (match t with
    | true => Sat ((den cf k c).e σ h2) fun z h4 => ∃ t, cmpop p y z h4 = some t ∧ Q (.d (.bool t)) h4
    | false => Q (.d (.bool false)) h2) := by
  show Sat (R.bind _ _) Q ↔ _
  simp only [sat_bind, sat_of]
  constructor <;> refine fun s => s.mono fun x h1 s => s.mono fun y h2 ⟨t, e, q⟩ => ⟨t, e, ?_⟩ <;> cases t
  · exact sat_ok.mp q
  · refine (sat_bind.mp q).mono fun z h4 s => ?_
    obtain ⟨_, e, q⟩ := sat_of.mp s
    obtain ⟨t, e2, rfl⟩ := Option.map_eq_some_iff.mp e
    exact ⟨t, e2, q⟩
  · exact sat_ok.mpr q
  · exact sat_bind.mpr (Sat.mono q fun z h4 ⟨t, e, q⟩ => sat_of.mpr ⟨_, Option.map_eq_some_iff.mpr ⟨t, e, rfl⟩, q⟩)
@[simp] theorem v_isNon {a : E} : Sat ((den cf k (.isNon a)).e σ h) Q ↔ Sat ((den cf k a).e σ h) fun x h1 => Q (.d (.bool (isNonV x))) h1 := by
  show Sat (R.bind _ _) Q ↔ _
  simp only [sat_bind, sat_ok]
@[simp] theorem v_notNon {a : E} : Sat ((den cf k (.notNon a)).e σ h) Q ↔ Sat ((den cf k a).e σ h) fun x h1 => Q (.d (.bool (!isNonV x))) h1 := by
  show Sat (R.bind _ _) Q ↔ _
  simp only [sat_bind, sat_ok]
@[simp] theorem v_ite {c a b : E} : Sat ((den cf k (.ite c a b)).e σ h) Q ↔ Sat (tOf (den cf k c).e σ h) fun t h1 => match t with
    | true => Sat ((den cf k a).e σ h1) Q
    | false => Sat ((den cf k b).e σ h1) Q := by
  show Sat (R.bind _ _) Q ↔ _
  simp only [sat_bind]
  constructor <;> refine fun s => s.mono fun t h1 q => ?_ <;> cases t <;> exact q
@[simp] theorem a_nil' : Sat ((den cf k .nil).a σ h) Qs ↔ Qs [] h := sat_ok
@[simp] theorem a_cons' {a b : E} : Sat ((den cf k (.cons a b)).a σ h) Qs ↔ Sat ((den cf k a).e σ h) fun x h1 => Sat ((den cf k b).a σ h1) fun xs h2 => Qs (x :: xs) h2 := by
  show Sat (R.bind _ _) Qs ↔ _
  simp only [sat_bind, sat_ok]
@[simp] theorem v_tup {as : E} : Sat ((den cf k (.tup as)).e σ h) Q ↔ Sat ((den cf k as).a σ h) fun xs h1 => Sat (tupOf xs h1) Q := by
  show Sat (R.bind _ _) Q ↔ _
  simp only [sat_bind]
@[simp] theorem v_lst {mt : Bool} {as : E} : Sat ((den cf k (.lst mt as)).e σ h) Q ↔ Sat ((den cf k as).a σ h) fun xs h1 => Sat (lstOf mt xs h1) Q := by
  show Sat (R.bind _ _) Q ↔ _
  simp only [sat_bind]
@[simp] theorem v_isi {a : E} {T : String} : Sat ((den cf k (.isi a T)).e σ h) Q ↔ Sat ((den cf k a).e σ h) fun x h1 => ∃ b, isiT h1 T x = some b ∧ Q (.d (.bool b)) h1 := by
  show Sat (R.bind _ _) Q ↔ _
  simp only [sat_bind, sat_of, Option.map_eq_some_iff]
  constructor <;> refine fun s => s.mono fun x h1 q => ?_
  · obtain ⟨_, ⟨c, e, rfl⟩, q⟩ := q
    exact ⟨c, e, q⟩
  · obtain ⟨c, e, q⟩ := q
    exact ⟨_, ⟨c, e, rfl⟩, q⟩
@[simp] theorem v_call {f : Str} {as : E} : Sat ((den cf k (.call f as)).e σ h) Q ↔ Sat ((den cf k as).a σ h) fun xs h1 => Sat (cf f xs h1) Q := by
  show Sat (R.bind _ _) Q ↔ _
  simp only [sat_bind]
@[simp] theorem v_bi {b : Bi} {as : E} : Sat ((den cf k (.bi b as)).e σ h) Q ↔ Sat ((den cf k as).a σ h) fun xs h1 => Sat (biop b xs h1) Q := by
  show Sat (R.bind _ _) Q ↔ _
  simp only [sat_bind]
@[simp] theorem v_ix {a i : E} : Sat ((den cf k (.ix a i)).e σ h) Q ↔ Sat ((den cf k a).e σ h) fun x h1 => Sat ((den cf k i).e σ h1) fun y h2 => Sat (ixv x y h2) Q := by
  show Sat (R.bind _ _) Q ↔ _
  simp only [sat_bind]
@[simp] theorem v_lsR {tp mt : Bool} {a b : E} : Sat ((den cf k (.lsR tp mt a b)).e σ h) Q ↔ Sat ((den cf k a).e σ h) fun x h1 => Sat ((den cf k b).e σ h1) fun y h2 => Sat (rngv tp mt x y h2) Q := by
  show Sat (R.bind _ _) Q ↔ _
  simp only [sat_bind]
@[simp] theorem v_rev {a : E} : Sat ((den cf k (.rev a)).e σ h) Q ↔ Sat ((den cf k a).e σ h) fun x h1 => Sat (revv x h1) Q := by
  show Sat (R.bind _ _) Q ↔ _
  simp only [sat_bind]
@[simp] theorem v_idx {o x : E} : Sat ((den cf k (.idx o x)).e σ h) Q ↔ Sat ((den cf k o).e σ h) fun l h1 => isFz l = true ∧ Sat ((den cf k x).e σ h1) fun y h2 => Sat (idxv l y h2) Q := by
  show Sat (R.bind _ _) Q ↔ _
  simp only [sat_bind, sat_if]
@[simp] theorem o_nop' : Sat ((den cf k .nop).o σ h) Qo ↔ Qo none h := sat_ok
@[simp] theorem o_prt {a : E} : Sat ((den cf k (.prt a)).o σ h) Qo ↔ Sat ((den cf k a).e σ h) fun x h1 => ∃ i, optI x = some i ∧ Qo i h1 := by
  show Sat (R.bind _ _) Qo ↔ _
  simp only [sat_bind, sat_of]
@[simp] theorem t_nop : Sat ((den cf k .nop).t σ h) Qb ↔ Qb true h := sat_ok
@[simp] theorem t_cnd {a : E} : Sat ((den cf k (.cnd a)).t σ h) Qb ↔ Sat (tOf (den cf k a).e σ h) Qb := Iff.rfl
@[simp] theorem v_sl {a lo hi : E} : Sat ((den cf k (.sl a lo hi)).e σ h) Q ↔ Sat ((den cf k a).e σ h) fun x h1 => Sat ((den cf k lo).o σ h1) fun l h2 => Sat ((den cf k hi).o σ h2) fun u h3 => Sat (slice x l u h3) Q := by
  show Sat (R.bind _ _) Q ↔ _
  simp only [sat_bind]
@[simp] theorem v_app {o x : E} : Sat ((den cf k (.app o x)).e σ h) Q ↔ Sat ((den cf k o).e σ h) fun l h1 => lstAt h1 l = true ∧ Sat ((den cf k x).e σ h1) fun y h2 => Sat (appv k l y h2) Q := by
  show Sat (R.bind _ _) Q ↔ _
  simp only [sat_bind, sat_if]
@[simp] theorem v_ext {o x : E} : Sat ((den cf k (.ext o x)).e σ h) Q ↔ Sat ((den cf k o).e σ h) fun l h1 => lstAt h1 l = true ∧ Sat ((den cf k x).e σ h1) fun y h2 => Sat (extv k l y h2) Q := by
  show Sat (R.bind _ _) Q ↔ _
  simp only [sat_bind, sat_if]
@[simp] theorem v_dnew {t : Bool} : Sat ((den cf k (.dnew t)).e σ h) Q ↔ Q (.ref h.length) (h ++ [cond t (.dT []) (.dK [])]) := sat_ok
@[simp] theorem v_comp {mt : Bool} {own : List Nat} {tg : Tg} {it cnd elt : E} : Sat ((den cf k (.comp mt own tg it cnd elt)).e σ h) Q ↔ Sat ((den cf k it).i σ h) fun J h1 => Sat (compGo (compSt own tg (den cf k cnd).t (den cf k elt).e σ) J h1) fun xs h2 => Sat (lstOf mt xs h2) Q := by
  show Sat (R.bind _ _) Q ↔ _
  simp only [sat_bind]
@[simp] theorem i_iVal {e : E} : Sat ((den cf k (.iVal e)).i σ h) Qi ↔ Sat ((den cf k e).e σ h) fun x h1 => Sat (itVal x h1) Qi := by
  show Sat (R.bind _ _) Qi ↔ _
  simp only [sat_bind]
@[simp] theorem i_iR1 {e : E} : Sat ((den cf k (.iR1 e)).i σ h) Qi ↔ Sat ((den cf k e).e σ h) fun x h1 => Sat (itR1 x h1) Qi := by
  show Sat (R.bind _ _) Qi ↔ _
  simp only [sat_bind]
@[simp] theorem i_iR2 {a b : E} : Sat ((den cf k (.iR2 a b)).i σ h) Qi ↔ Sat ((den cf k a).e σ h) fun x h1 => Sat ((den cf k b).e σ h1) fun y h2 => Sat (itR2 x y h2) Qi := by
  show Sat (R.bind _ _) Qi ↔ _
  simp only [sat_bind]
@[simp] theorem i_iZip {a b : E} : Sat ((den cf k (.iZip a b)).i σ h) Qi ↔ Sat ((den cf k a).e σ h) fun x h1 => Sat ((den cf k b).e σ h1) fun y h2 => Sat (itZip x y h2) Qi := by
  show Sat (R.bind _ _) Qi ↔ _
  simp only [sat_bind]
@[simp] theorem i_iEnu {e : E} : Sat ((den cf k (.iEnu e)).i σ h) Qi ↔ Sat ((den cf k e).e σ h) fun x h1 => Sat (itEnu x h1) Qi := by
  show Sat (R.bind _ _) Qi ↔ _
  simp only [sat_bind]
/-! statements -/
@[simp] theorem s_skip : Sat (evS cf k .skip σ h) Qf ↔ Qf (.nx, σ) h := sat_ok
@[simp] theorem s_seq {a b : S} : Sat (evS cf k (.seq a b) σ h) Qf ↔ Sat (evS cf k a σ h) fun p h1 => match p.1 with
    | .nx => Sat (evS cf k b p.2 h1) Qf
    | f => Qf (f, p.2) h1 := by
  show Sat (R.bind _ _) Qf ↔ _
  simp only [sat_bind]
  constructor <;> refine fun s => s.mono fun p h1 q => ?_ <;> obtain ⟨f, σ'⟩ := p <;> cases f
  · exact q
  · exact sat_ok.mp q
  · exact sat_ok.mp q
  · exact sat_ok.mp q
  · exact q
  · exact sat_ok.mpr q
  · exact sat_ok.mpr q
  · exact sat_ok.mpr q
@[simp] theorem s_asg' {t : Tg} {e : E} : Sat (evS cf k (.asg t e) σ h) Qf ↔ Sat ((den cf k e).e σ h) fun v h1 => ∃ σ1, asg t v σ = some σ1 ∧ Qf (.nx, σ1) h1 := by
  show Sat (R.bind _ _) Qf ↔ _
  simp only [sat_bind, sat_of, Option.map_eq_some_iff]
  constructor <;> refine fun s => s.mono fun x h1 q => ?_
  · obtain ⟨_, ⟨c, e, rfl⟩, q⟩ := q
    exact ⟨c, e, q⟩
  · obtain ⟨c, e, q⟩ := q
    exact ⟨_, ⟨c, e, rfl⟩, q⟩
@[simp] theorem s_par {is : List Nat} {as : E} : Sat (evS cf k (.par is as) σ h) Qf ↔ Sat ((den cf k as).a σ h) fun vs h1 => ∃ σ1, setAll σ is vs = some σ1 ∧ Qf (.nx, σ1) h1 := by
  show Sat (R.bind _ _) Qf ↔ _
  simp only [sat_bind, sat_of, Option.map_eq_some_iff]
  constructor <;> refine fun s => s.mono fun x h1 q => ?_
  · obtain ⟨_, ⟨c, e, rfl⟩, q⟩ := q
    exact ⟨c, e, q⟩
  · obtain ⟨c, e, q⟩ := q
    exact ⟨_, ⟨c, e, rfl⟩, q⟩
@[simp] theorem s_sub' {o i v : E} : Sat (evS cf k (.sub o i v) σ h) Qf ↔ Sat ((den cf k v).e σ h) fun z h1 => Sat ((den cf k o).e σ h1) fun x h2 => Sat ((den cf k i).e σ h2) fun y h3 => Sat (setv k x y z h3) fun _ h4 => Qf (.nx, σ) h4 := by
  show Sat (R.bind _ _) Qf ↔ _
  simp only [sat_bind, sat_ok]
@[simp] theorem s_ex' {e : E} : Sat (evS cf k (.ex e) σ h) Qf ↔ Sat ((den cf k e).e σ h) fun _ h1 => Qf (.nx, σ) h1 := by
  show Sat (R.bind _ _) Qf ↔ _
  simp only [sat_bind, sat_ok]
@[simp] theorem s_ret' {e : E} : Sat (evS cf k (.ret e) σ h) Qf ↔ Sat ((den cf k e).e σ h) fun v h1 => Qf (.rt v, σ) h1 := by
  show Sat (R.bind _ _) Qf ↔ _
  simp only [sat_bind, sat_ok]
@[simp] theorem s_ife {c : E} {a b : S} : Sat (evS cf k (.ife c a b) σ h) Qf ↔ Sat (tOf (den cf k c).e σ h) fun t h1 => match t with
    | true => Sat (evS cf k a σ h1) Qf
    | false => Sat (evS cf k b σ h1) Qf := by
  show Sat (R.bind _ _) Qf ↔ _
  simp only [sat_bind]
  constructor <;> refine fun s => s.mono fun t h1 q => ?_ <;> cases t <;> exact q
@[simp] theorem s_for' {t : Tg} {it : E} {b : S} : Sat (evS cf k (.for_ t it b) σ h) Qf ↔ Sat ((den cf k it).i σ h) fun J h1 => match J with
    | .fx xs => Sat (forF t (evS cf k b) xs σ h1) Qf
    | .lv n => Sat (forV t (evS cf k b) n big 0 σ h1) Qf := by
  show Sat (R.bind _ _) Qf ↔ _
  simp only [sat_bind]
  constructor <;> refine fun s => s.mono fun t h1 q => ?_ <;> cases t <;> exact q
end
end Iw
end

section
set_option Elab.async false
set_option linter.all false
set_option maxRecDepth 100000
/-! the plain side: calls, loops, primitive operations -/
namespace Iw
open PySem L2
section
variable {P : Pg} {h : Hs} {Q : PV → Hs → Prop}
/-- what a body's end is worth, of a call that freezes what it hands back -/
def endQ (k : Nat) (Q : PV → Hs → Prop) (p : Fl × Sg) (h' : Hs) : Prop := match p.1 with
  | .rt v => ∃ w, handed h' k v = some w ∧ Q w (h'.take k)
  | .nx => Q (.d .none) (h'.take k)
  | _ => False
theorem call0 {f : Str} {a b n : Nat} {s : S} {vs : List PV} (hl : P.lookup f = some ⟨a, b, false, s⟩) (hn : vs.length = a) : Sat (callN P (n + 1) f vs h) Q ↔ Sat (evS (callN P n) h.length s (vs.map some ++ List.replicate (b - vs.length) none) h) (endQ h.length Q) := by
  have e : callN P (n + 1) f vs h = fin false h.length (evS (callN P n) h.length s (vs.map some ++ List.replicate (b - vs.length) none) h) := by
    show (match P.lookup f with
      | none => (R.bad : R PV)
      | some fd => if vs.length = fd.np then fin fd.kp h.length (evS (callN P n) h.length fd.body (vs.map some ++ List.replicate (fd.ns - vs.length) none) h) else .bad) = _
    rw [hl]
    exact if_pos hn
  rw [e]
  generalize evS (callN P n) h.length s (vs.map some ++ List.replicate (b - vs.length) none) h = r
  cases r with
  | ok p h' =>
    obtain ⟨fl, σ⟩ := p
    cases fl with
    | rt v =>
      show Sat (R.of (handed h' h.length v) (h'.take h.length)) Q ↔ _
      rw [sat_of, sat_ok]
      rfl
    | nx => rw [sat_ok]; exact sat_ok
    | bk => rw [sat_ok]; exact sat_bad
    | ct => rw [sat_ok]; exact sat_bad
  | exc _ _ => exact ⟨fun ⟨_, _, e, _⟩ => (nomatch e), fun ⟨_, _, e, _⟩ => (nomatch e)⟩
  | bad => exact ⟨fun ⟨_, _, e, _⟩ => (nomatch e), fun ⟨_, _, e, _⟩ => (nomatch e)⟩
@[simp] theorem endQ_rt {k : Nat} {v : PV} {σ : Sg} : endQ k Q (.rt v, σ) h ↔ ∃ w, handed h k v = some w ∧ Q w (h.take k) := Iff.rfl
@[simp] theorem endQ_nx {k : Nat} {σ : Sg} : endQ k Q (.nx, σ) h ↔ Q (.d .none) (h.take k) := Iff.rfl
@[simp] theorem handed_d {k : Nat} {x : PyData} : handed h k (.d x) = some (.d x) := rfl
@[simp] theorem tru_bool {b : Bool} : tru h (.d (.bool b)) = some b := rfl
@[simp] theorem tru_int {i : Int} : tru h (.d (.int i)) = some (i != 0) := rfl
@[simp] theorem b_add {i j : Int} : binop .add (.d (.int i)) (.d (.int j)) h = .ok (.d (.int (i + j))) h := rfl
@[simp] theorem b_sub {i j : Int} : binop .sub (.d (.int i)) (.d (.int j)) h = .ok (.d (.int (i - j))) h := rfl
@[simp] theorem b_mul {i j : Int} : Sat (binop .mul (.d (.int i)) (.d (.int j)) h) Q ↔ mulOk i j = true ∧ Q (.d (.int (i * j))) h := by
  show Sat (if mulOk i j = true then _ else _) Q ↔ _
  rw [sat_if, sat_ok]
@[simp] theorem b_fdv {i j : Int} : Sat (binop .fdv (.d (.int i)) (.d (.int j)) h) Q ↔ (j ≠ 0 ∧ j.natAbs < 18446744073709551616) ∧ Q (.d (.int (i.fdiv j))) h := by
  show Sat (if j ≠ 0 ∧ j.natAbs < 18446744073709551616 then _ else _) Q ↔ _
  rw [sat_if, sat_ok]
@[simp] theorem b_mod {i j : Int} : Sat (binop .mod (.d (.int i)) (.d (.int j)) h) Q ↔ j ≠ 0 ∧ Q (.d (.int (i.fmod j))) h := by
  show Sat (if j ≠ 0 then _ else _) Q ↔ _
  rw [sat_if, sat_ok]
@[simp] theorem b_pow {i j : Int} : Sat (binop .pow (.d (.int i)) (.d (.int j)) h) Q ↔ (0 ≤ j ∧ j ≤ 1000000 ∧ i.natAbs < 2 ^ 64) ∧ Q (.d (.int (i ^ j.toNat))) h := by
  show Sat (if 0 ≤ j ∧ j ≤ 1000000 ∧ i.natAbs < 2 ^ 64 then _ else _) Q ↔ _
  rw [sat_if, sat_ok]
@[simp] theorem b_addT {xs ys : List PyData} : Sat (binop .add (.d (.tuple xs)) (.d (.tuple ys)) h) Q ↔ xs.length + ys.length ≤ line ∧ Q (.d (.tuple (xs ++ ys))) h := by
  show Sat (if xs.length + ys.length ≤ line then _ else _) Q ↔ _
  rw [sat_if, sat_ok]
@[simp] theorem eqOk_int {i j : Int} : eqOk (.int i) (.int j) = true := rfl
@[simp] theorem eqOk_str {i j : Str} : eqOk (.str i) (.str j) = true := rfl
theorem toks_int (i : Int) : PySem.W.keyToks (.int i) = [.inl i] := rfl
theorem lt_int' (i j : Int) : PySem.W.dataLt (.int i) (.int j) = decide (i < j) := by
  exact PySem.W.dataLt_int i j
theorem ltOk_int {i j : Int} : ltOk (.int i) (.int j) = true := rfl
theorem cmp_d {o : CO} {x y : PyData} (ho : o ≠ .isin ∧ o ≠ .nin) : cmpop o (.d x) (.d y) h = (match o with
      | .eq => if eqOk x y = true then some (PyData.eqv x y) else none
      | .ne => if eqOk x y = true then some (!PyData.eqv x y) else none
      | .lt => if ltOk x y = true then some (PySem.W.dataLt x y) else none
      | .gt => if ltOk x y = true then some (PySem.W.dataLt y x) else none
      | .le => if ltOk x y = true then some (!PySem.W.dataLt y x) else none
      | .ge => if ltOk x y = true then some (!PySem.W.dataLt x y) else none
      | _ => none) := by
  cases o <;> first | rfl | exact absurd rfl ho.1 | exact absurd rfl ho.2
@[simp] theorem c_lt {i j : Int} : cmpop .lt (.d (.int i)) (.d (.int j)) h = some (decide (i < j)) := by rw [cmp_d (by decide)]; simp only [ltOk_int, if_true, lt_int']
@[simp] theorem c_gt {i j : Int} : cmpop .gt (.d (.int i)) (.d (.int j)) h = some (decide (j < i)) := by rw [cmp_d (by decide)]; simp only [ltOk_int, if_true, lt_int']
@[simp] theorem c_le {i j : Int} : cmpop .le (.d (.int i)) (.d (.int j)) h = some (decide (i ≤ j)) := by
  rw [cmp_d (by decide)]; simp only [ltOk_int, if_true, lt_int']
  rw [← decide_not]; congr 2; exact propext Int.not_lt
@[simp] theorem c_ge {i j : Int} : cmpop .ge (.d (.int i)) (.d (.int j)) h = some (decide (j ≤ i)) := by
  rw [cmp_d (by decide)]; simp only [ltOk_int, if_true, lt_int']
  rw [← decide_not]; congr 2; exact propext Int.not_lt
@[simp] theorem c_eq {i j : Int} : cmpop .eq (.d (.int i)) (.d (.int j)) h = some (decide (i = j)) := by
  rw [cmp_d (by decide)]; simp only [eqOk_int, if_true]; rfl
@[simp] theorem c_eqS {i j : Str} : cmpop .eq (.d (.str i)) (.d (.str j)) h = some (i == j) := by
  rw [cmp_d (by decide)]; simp only [eqOk_str, if_true]; rfl
@[simp] theorem c_ne {i j : Int} : cmpop .ne (.d (.int i)) (.d (.int j)) h = some (!decide (i = j)) := by
  rw [cmp_d (by decide)]; simp only [eqOk_int, if_true]; rfl
@[simp] theorem isi_int {x : PyData} : isiT h "int" (.d x) = some x.isInt := rfl
@[simp] theorem isi_bool {x : PyData} : isiT h "bool" (.d x) = some x.isBool := rfl
@[simp] theorem isi_str {x : PyData} : isiT h "str" (.d x) = some x.isStr := rfl
@[simp] theorem isi_tuple {x : PyData} : isiT h "tuple" (.d x) = some x.isTuple := rfl
@[simp] theorem isi_list {x : PyData} : isiT h "list" (.d x) = some x.isList := rfl
@[simp] theorem bi_len {v : PV} : Sat (biop .len [v] h) Q ↔ ∃ n : Nat, lenOf h v = some n ∧ Q (.d (.int n)) h := by
  show Sat (R.of ((lenOf h v).map fun n : Nat => int n) h) Q ↔ _
  simp only [sat_of, Option.map_eq_some_iff]
  exact ⟨fun ⟨_, ⟨n, e, e2⟩, q⟩ => by subst e2; exact ⟨n, e, q⟩, fun ⟨n, e, q⟩ => ⟨_, ⟨n, e, rfl⟩, q⟩⟩
@[simp] theorem len_tuple {xs : List PyData} : lenOf h (.d (.tuple xs)) = some xs.length := rfl
@[simp] theorem len_scr {xs : List Int} : lenOf h (.scr xs) = some xs.length := rfl
@[simp] theorem bi_all {v : PV} : Sat (biop .all [v] h) Q ↔ ∃ bs, (getL h v).bind bools = some bs ∧ Q (.d (.bool (bs.all id))) h := by
  show Sat (R.of (((getL h v).bind bools).map fun bs => bool (bs.all id)) h) Q ↔ _
  simp only [sat_of, Option.map_eq_some_iff]
  exact ⟨fun ⟨_, ⟨n, e, e2⟩, q⟩ => by subst e2; exact ⟨n, e, q⟩, fun ⟨n, e, q⟩ => ⟨_, ⟨n, e, rfl⟩, q⟩⟩
@[simp] theorem bi_max2 {i j : Int} : biop .max2 [.d (.int i), .d (.int j)] h = .ok (.d (.int (if j > i then j else i))) h := rfl
@[simp] theorem bi_min2 {i j : Int} : biop .min2 [.d (.int i), .d (.int j)] h = .ok (.d (.int (if j < i then j else i))) h := rfl
@[simp] theorem bi_int1b {b : Bool} : biop .int1 [.d (.bool b)] h = .ok (.d (.int (cond b 1 0))) h := rfl
end
end Iw
end

section
set_option Elab.async false
set_option linter.all false
set_option maxRecDepth 100000
/-! the plain side: comprehensions, loops, lists -/
namespace Iw
open PySem L2
section
variable {α : Type} {h : Hs} {Q : PV → Hs → Prop} {Ql : List PV → Hs → Prop} {Qo : Option PV → Hs → Prop} {Qf : Fl × Sg → Hs → Prop} {Qi : It → Hs → Prop}
@[simp] theorem sat_compSt {own : List Nat} {t : Tg} {C : Sg → Hs → R Bool} {L : Sg → Hs → R PV} {σ : Sg} {x : PV} : Sat (compSt own t C L σ x h) Qo ↔ ∃ σ1, asg t x (wipe σ own) = some σ1 ∧ Sat (C σ1 h) fun b h3 => match b with
    | true => Sat (L σ1 h3) fun y h4 => Qo (some y) h4
    | false => Qo none h3 := by
  unfold compSt
  cases e : asg t x (wipe σ own) with
  | none => exact ⟨fun s => (sat_bad.mp s).elim, fun ⟨_, e, _⟩ => nomatch e⟩
  | some σ1 =>
    dsimp only
    rw [sat_bind]
    constructor
    · intro s
      refine ⟨σ1, rfl, s.mono fun b h3 q => ?_⟩
      cases b with
      | true => exact (sat_bind.mp q).mono fun y h4 q => sat_ok.mp q
      | false => exact sat_ok.mp q
    · intro ⟨_, e, s⟩
      cases e
      refine s.mono fun b h3 q => ?_
      cases b with
      | true => exact sat_bind.mpr (Sat.mono q fun y h4 q => sat_ok.mpr q)
      | false => exact sat_ok.mpr q
theorem compF_eq {st : PV → Hs → R (Option PV)} {g : PV → Option PV} : ∀ {xs : List PV}, (∀ x ∈ xs, Sat (st x h) fun o h' => o = g x ∧ h' = h) → compF st xs h = .ok (xs.filterMap g) h
  | [], _ => rfl
  | x :: xs, hs => by
    obtain ⟨o, h', e, eo, eh⟩ := hs x List.mem_cons_self
    rw [eo, eh] at e
    unfold compF
    rw [e]
    show R.bind (compF st xs h) _ = _
    rw [compF_eq (xs := xs) fun y hy => hs y (List.mem_cons_of_mem _ hy)]
    rw [List.filterMap_cons]
    cases g x <;> rfl
/-- a comprehension that leaves the store as it is -/
theorem sat_filt {st : PV → Hs → R (Option PV)} (g : PV → Option PV) {xs : List PV} (hs : ∀ x ∈ xs, Sat (st x h) fun o h' => o = g x ∧ h' = h) (q : Ql (xs.filterMap g) h) : Sat (compGo st (.fx xs) h) Ql := by
  refine ⟨_, h, ?_, q⟩
  show noExc (compF st xs h) = _
  rw [compF_eq hs]
  rfl
theorem sat_map {st : PV → Hs → R (Option PV)} (g : PV → PV) {xs : List PV} (hs : ∀ x ∈ xs, Sat (st x h) fun o h' => o = some (g x) ∧ h' = h) (q : Ql (xs.map g) h) : Sat (compGo st (.fx xs) h) Ql :=
  sat_filt (fun x => some (g x)) hs (by rw [List.filterMap_eq_map']; exact q)
@[simp] theorem datas_map' : ∀ ds : List PyData, datas (ds.map PV.d) = some ds
  | [] => rfl
  | d :: ds => by show (datas (ds.map PV.d)).map _ = _; rw [datas_map' ds]; rfl
theorem sat_lstF {ds : List PyData} {xs : List PV} (e : xs = ds.map PV.d) : Sat (lstOf false xs h) Q ↔ ds.length ≤ line ∧ Q (.d (.list ds)) h := by
  subst e
  show Sat (if (ds.map PV.d).length ≤ line then mkL false (ds.map PV.d) h else .bad) Q ↔ _
  rw [sat_if, List.length_map]
  show (_ ∧ Sat (R.of ((datas (ds.map PV.d)).map fun ds => PV.d (.list ds)) h) Q) ↔ _
  rw [datas_map']
  exact and_congr_right fun _ => sat_ok
@[simp] theorem sat_lstT {xs : List PV} : Sat (lstOf true xs h) Q ↔ xs.length ≤ line ∧ Q (.ref h.length) (h ++ [.lst xs]) := by
  show Sat (if xs.length ≤ line then mkL true xs h else .bad) Q ↔ _
  rw [sat_if]
  exact and_congr_right fun _ => sat_ok
@[simp] theorem getL_d {ds : List PyData} : getL h (.d (.list ds)) = some (ds.map .d) := rfl
theorem bools_all {α : Type} {xs : List α} : bools ((xs.map fun _ => PyData.bool true).map PV.d) = some (xs.map fun _ => true) := by
  induction xs with
  | nil => rfl
  | cons x xs ih => show (bools ((xs.map fun _ => PyData.bool true).map PV.d)).map _ = _; rw [ih]; rfl
/-- all of a comprehension, each of which is true -/
theorem sat_all {st : PV → Hs → R (Option PV)} {xs : List PV} {F : List Bool → Hs → Prop} (hl : xs.length ≤ line) (hs : ∀ x ∈ xs, Sat (st x h) fun o h' => o = some (.d (.bool true)) ∧ h' = h) (q : ∀ bs, bs.all id = true → false ∉ bs → F bs h) :
    Sat (compGo st (.fx xs) h) fun ys h2 => Sat (lstOf false ys h2) fun v h3 => ∃ bs, (getL h3 v).bind bools = some bs ∧ F bs h3 := by
  refine sat_map (fun _ => .d (.bool true)) hs ?_
  rw [sat_lstF (ds := xs.map fun _ => PyData.bool true) (by rw [List.map_map]; rfl), List.length_map]
  refine ⟨hl, xs.map fun _ => true, ?_, q _ ?_ (by simp)⟩
  · rw [getL_d]; exact bools_all
  · induction xs <;> simp_all
@[simp] theorem it_tuple {ds : List PyData} : itVal (.d (.tuple ds)) h = .ok (.fx (ds.map .d)) h := rfl
@[simp] theorem it_list {ds : List PyData} : itVal (.d (.list ds)) h = .ok (.fx (ds.map .d)) h := rfl
@[simp] theorem it_r1 {j : Int} : Sat (itR1 (.d (.int j)) h) Qi ↔ (-line ≤ j ∧ j ≤ line) ∧ Qi (.fx (rngL 0 j.toNat)) h := by
  show Sat (if -line ≤ j ∧ j ≤ line then _ else _) Qi ↔ _
  rw [sat_if, sat_ok]
@[simp] theorem it_r2 {i j : Int} : Sat (itR2 (.d (.int i)) (.d (.int j)) h) Qi ↔ (-line ≤ i ∧ i ≤ line ∧ -line ≤ j ∧ j ≤ line) ∧ Qi (.fx (rngL i (j - i).toNat)) h := by
  show Sat (if -line ≤ i ∧ i ≤ line ∧ -line ≤ j ∧ j ≤ line then _ else _) Qi ↔ _
  rw [sat_if, sat_ok]
@[simp] theorem it_zipT {xs ys : List PyData} : itZip (.d (.tuple xs)) (.d (.tuple ys)) h = .ok (.fx (pairs xs ys)) h := rfl
@[simp] theorem it_zipL {xs ys : List PyData} : itZip (.d (.list xs)) (.d (.list ys)) h = .ok (.fx (pairs xs ys)) h := rfl
@[simp] theorem it_enT {xs : List PyData} : itEnu (.d (.tuple xs)) h = .ok (.fx (enums 0 xs)) h := rfl
@[simp] theorem ix_d {x y : PyData} : ixv (.d x) (.d y) h = ixv1 (.d x) (.d y) h := rfl
@[simp] theorem ix1_tup {xs : List PyData} {i : Int} : Sat (ixv1 (.d (.tuple xs)) (.d (.int i)) h) Q ↔ ∃ d, atI xs i = some d ∧ Q (.d d) h := by
  show Sat (R.of ((atI xs i).map PV.d) h) Q ↔ _
  rw [sat_of]
  simp only [Option.map_eq_some_iff]
  exact ⟨fun ⟨_, ⟨d, e, e2⟩, q⟩ => by subst e2; exact ⟨d, e, q⟩, fun ⟨d, e, q⟩ => ⟨_, ⟨d, e, rfl⟩, q⟩⟩
@[simp] theorem ix1_lst {xs : List PyData} {i : Int} : Sat (ixv1 (.d (.list xs)) (.d (.int i)) h) Q ↔ ∃ d, atI xs i = some d ∧ Q (.d d) h := by
  show Sat (R.of ((some (xs.map PV.d)).bind fun xs => atI xs i) h) Q ↔ _
  rw [sat_of]
  have e : ((some (xs.map PV.d)).bind fun xs => atI xs i) = (atI xs i).map PV.d := by
    show atI (xs.map PV.d) i = _
    unfold atI
    rw [List.length_map]
    cases ixN xs.length i <;> simp
  rw [e]
  simp only [Option.map_eq_some_iff]
  exact ⟨fun ⟨_, ⟨d, e, e2⟩, q⟩ => by subst e2; exact ⟨d, e, q⟩, fun ⟨d, e, q⟩ => ⟨_, ⟨d, e, rfl⟩, q⟩⟩
@[simp] theorem ix_scr {xs : List Int} {i : Int} : Sat (ixv (.scr xs) (.d (.int i)) h) Q ↔ ∃ d, atI xs i = some d ∧ Q (.d (.int d)) h := by
  show Sat (R.of ((atI xs i).map int) h) Q ↔ _
  rw [sat_of]
  simp only [Option.map_eq_some_iff]
  exact ⟨fun ⟨_, ⟨d, e, e2⟩, q⟩ => by subst e2; exact ⟨d, e, q⟩, fun ⟨d, e, q⟩ => ⟨_, ⟨d, e, rfl⟩, q⟩⟩
theorem ix_ref {n : Nat} {xs : List PV} {i : Int} (e : h[n]? = some (.lst xs)) : Sat (ixv (.ref n) (.d (.int i)) h) Q ↔ ∃ v, atI xs i = some v ∧ Q v h := by
  have e1 : ixv (.ref n) (.d (.int i)) h = R.of (atI xs i) h := by
    show (match (match h[n]? with
      | some o => dgetO o (.int i)
      | none => none) with
      | some o => R.of o h
      | none => ixv1 (.ref n) (.d (.int i)) h) = _
    rw [e]
    show R.of ((match h[n]? with
      | some (.lst xs) => some xs
      | _ => none).bind fun xs => atI xs i) h = _
    rw [e]
    rfl
  rw [e1, sat_of]
@[simp] theorem sl_tup {xs : List PyData} {lo hi : Option Int} : slice (.d (.tuple xs)) lo hi h = .ok (.d (.tuple (cut xs lo hi))) h := rfl
theorem setv_ref {k n m : Nat} {xs : List PV} {i : Int} {z : PyData} {Qu : Unit → Hs → Prop} (e : h[n]? = some (.lst xs)) (hm : ixN xs.length i = some m) : Sat (setv k (.ref n) (.d (.int i)) (.d z) h) Qu ↔ Qu () (h.set n (.lst (xs.set m (.d z)))) := by
  have e1 : setv k (.ref n) (.d (.int i)) (.d z) h = .ok () (h.set n (.lst (xs.set m (.d z)))) := by
    unfold setv
    dsimp only
    rw [e]
    dsimp only
    rw [hm]
    rfl
  rw [e1, sat_ok]
theorem sat_tup {ds : List PyData} {xs : List PV} (e : xs = ds.map PV.d) : Sat (tupOf xs h) Q ↔ ds.length ≤ line ∧ Q (.d (.tuple ds)) h := by
  subst e
  unfold tupOf
  rw [datas_map']
  dsimp only
  rw [sat_if, sat_ok]
@[simp] theorem tup2 {a b : PyData} : Sat (tupOf [.d a, .d b] h) Q ↔ Q (.d (.tuple [a, b])) h :=
  (sat_tup (ds := [a, b]) rfl).trans ⟨fun q => q.2, fun q => ⟨(by decide : 2 ≤ line), q⟩⟩
@[simp] theorem tup1 {a : PyData} : Sat (tupOf [.d a] h) Q ↔ Q (.d (.tuple [a])) h :=
  (sat_tup (ds := [a]) rfl).trans ⟨fun q => q.2, fun q => ⟨(by decide : 1 ≤ line), q⟩⟩
@[simp] theorem tup3 {a b c : PyData} : Sat (tupOf [.d a, .d b, .d c] h) Q ↔ Q (.d (.tuple [a, b, c])) h :=
  (sat_tup (ds := [a, b, c]) rfl).trans ⟨fun q => q.2, fun q => ⟨(by decide : 3 ≤ line), q⟩⟩
@[simp] theorem tup6 {a b c d e f : PyData} : Sat (tupOf [.d a, .d b, .d c, .d d, .d e, .d f] h) Q ↔ Q (.d (.tuple [a, b, c, d, e, f])) h :=
  (sat_tup (ds := [a, b, c, d, e, f]) rfl).trans ⟨fun q => q.2, fun q => ⟨(by decide : 6 ≤ line), q⟩⟩
@[simp] theorem bi_tupL {ds : List PyData} : Sat (biop .tuple1 [.d (.list ds)] h) Q ↔ ds.length ≤ line ∧ Q (.d (.tuple ds)) h := by
  show Sat (match (some (ds.map PV.d)).bind datas with
    | some ds => if ds.length ≤ line then .ok (.d (.tuple ds)) h else .bad
    | none => .bad) Q ↔ _
  show Sat (match datas (ds.map PV.d) with
    | some ds => if ds.length ≤ line then .ok (.d (.tuple ds)) h else .bad
    | none => .bad) Q ↔ _
  rw [datas_map']
  dsimp only
  rw [sat_if, sat_ok]
@[simp] theorem sl_lst {xs : List PyData} {lo hi : Option Int} : slice (.d (.list xs)) lo hi h = .ok (.d (.list (cut xs lo hi))) h := by
  show mkL false (cut (xs.map PV.d) lo hi) h = _
  have e : cut (xs.map PV.d) lo hi = (cut xs lo hi).map PV.d := by
    unfold cut
    rw [List.length_map, ← List.map_drop, ← List.map_take]
  rw [e]
  show R.of ((datas ((cut xs lo hi).map PV.d)).map _) h = _
  rw [datas_map']
  rfl
@[simp] theorem cut_1 {α : Type} {xs : List α} : cut xs (some 1) none = xs.tail := by
  unfold cut HT.sIx
  simp
  cases xs with
  | nil => rfl
  | cons x xs =>
    have : min 1 ((x :: xs).length) = 1 := by simp
    simp
/-- each is less than the next -/
def RisesD : List PyData → Prop
  | [] => True
  | [_] => True
  | x :: y :: r => (ltOk x y = true ∧ PySem.W.dataLt x y = true) ∧ RisesD (y :: r)
theorem rises_pairs : ∀ {ds : List PyData}, RisesD ds → ∀ p ∈ pairs ds ds.tail, ∃ x y, p = .d (.tuple [x, y]) ∧ ltOk x y = true ∧ PySem.W.dataLt x y = true
  | [], _, p, hp => by simp [pairs] at hp
  | [_], _, p, hp => by simp [pairs] at hp
  | x :: y :: r, hr, p, hp => by
    have hp : p ∈ .d (.tuple [x, y]) :: pairs (y :: r) (y :: r).tail := hp
    rcases List.mem_cons.mp hp with e | hp
    · exact ⟨x, y, e, hr.1.1, hr.1.2⟩
    · exact rises_pairs hr.2 p hp
theorem pairs_le : ∀ (xs ys : List PyData), (pairs xs ys).length ≤ xs.length
  | [], _ => by simp [pairs]
  | _ :: _, [] => by simp [pairs]
  | x :: xs, y :: ys => by simp only [pairs, List.length_cons]; have := pairs_le xs ys; omega
theorem c_ltD {x y : PyData} (e : ltOk x y = true) : cmpop .lt (.d x) (.d y) h = some (PySem.W.dataLt x y) := by
  rw [cmp_d (by decide)]
  simp [e]
/-! loops -/
theorem forF_nil {t : Tg} {F : Sg → Hs → R (Fl × Sg)} {σ : Sg} : Sat (forF t F [] σ h) Qf ↔ Qf (.nx, σ) h := sat_ok
theorem forF_cons {t : Tg} {F : Sg → Hs → R (Fl × Sg)} {x : PV} {xs : List PV} {σ : Sg} : Sat (forF t F (x :: xs) σ h) Qf ↔ ∃ σ1, asg t x σ = some σ1 ∧ Sat (F σ1 h) fun p h2 => match p.1 with
    | .nx => Sat (forF t F xs p.2 h2) Qf
    | .ct => Sat (forF t F xs p.2 h2) Qf
    | .bk => Qf (.nx, p.2) h2
    | .rt v => Qf (.rt v, p.2) h2 := by
  show Sat (match asg t x σ with
    | none => .bad
    | some σ1 => (F σ1 h).bind fun p h2 => match p.1 with
      | .nx => forF t F xs p.2 h2
      | .ct => forF t F xs p.2 h2
      | .bk => .ok (.nx, p.2) h2
      | .rt v => .ok (.rt v, p.2) h2) Qf ↔ _
  cases e : asg t x σ with
  | none => exact ⟨fun s => (sat_bad.mp s).elim, fun ⟨_, e, _⟩ => nomatch e⟩
  | some σ1 =>
    dsimp only
    rw [sat_bind]
    constructor
    · intro s
      refine ⟨σ1, rfl, s.mono fun p h2 q => ?_⟩
      obtain ⟨f, σ'⟩ := p
      cases f with
      | nx => exact q
      | ct => exact q
      | bk => exact sat_ok.mp q
      | rt v => exact sat_ok.mp q
    · intro ⟨_, e, s⟩
      cases e
      refine s.mono fun p h2 q => ?_
      obtain ⟨f, σ'⟩ := p
      cases f with
      | nx => exact q
      | ct => exact q
      | bk => exact sat_ok.mpr q
      | rt v => exact sat_ok.mpr q
/-- a loop that always goes to its end: I by the items that are left -/
theorem forF_all {t : Tg} {F : Sg → Hs → R (Fl × Sg)} (I : List PV → Sg → Hs → Prop) (step : ∀ x xs σ h, I (x :: xs) σ h → ∃ σ1, asg t x σ = some σ1 ∧ Sat (F σ1 h) fun p h2 => (p.1 = .nx ∨ p.1 = .ct) ∧ I xs p.2 h2) :
    ∀ (xs : List PV) (σ : Sg) (h : Hs), I xs σ h → (∀ σ' h', I [] σ' h' → Qf (.nx, σ') h') → Sat (forF t F xs σ h) Qf
  | [], σ, h, i, q => forF_nil.mpr (q σ h i)
  | x :: xs, σ, h, i, q => by
    obtain ⟨σ1, e, s⟩ := step x xs σ h i
    refine forF_cons.mpr ⟨σ1, e, s.mono fun p h2 ⟨hp, i2⟩ => ?_⟩
    obtain ⟨f, σ'⟩ := p
    rcases hp with hp | hp <;> (have hp : f = _ := hp; subst hp; exact forF_all I step xs _ h2 i2 q)
end
end Iw
end

section
set_option Elab.async false
set_option linter.all false
set_option maxRecDepth 100000
namespace Hf
open PySem Iw
def f_is_whole : S := (.seq (.ret (.and (.isi (.loc 0) "int") (.not (.isi (.loc 0) "bool")))) .skip)
def f_is_among : S := (.seq (.ret (.and (.call "is_whole" (.cons (.loc 0) .nil)) (.chain .le .le (.loc 1) (.loc 0) (.loc 2)))) .skip)
def f_are_some : S := (.seq (.ret (.and (.isi (.loc 0) "tuple") (.chain .le .le (.loc 1) (.bi .len (.cons (.loc 0) .nil)) (.loc 2)))) .skip)
def f_rises : S := (.seq (.ret (.bi .all (.cons (.comp false [1, 2] (.cons (.nm 1) (.cons (.nm 2) .nil)) (.iZip (.loc 0) (.sl (.loc 0) (.prt (.lit (.int 1))) .nop)) .nop (.cmp .lt (.loc 1) (.loc 2))) .nil))) .skip)
def f_is_height : S := (.seq (.ret (.call "is_among" (.cons (.loc 0) (.cons (.lit (.int 0)) (.cons (.lit (.int 6)) .nil))))) .skip)
def f_is_gap : S := (.seq (.ret (.and (.call "are_some" (.cons (.loc 0) (.cons (.lit (.int 2)) (.cons (.lit (.int 2)) .nil)))) (.and (.bi .all (.cons (.comp false [1] (.nm 1) (.iVal (.loc 0)) .nop (.call "is_height" (.cons (.loc 1) .nil))) .nil)) (.cmp .le (.ix (.loc 0) (.lit (.int 0))) (.ix (.loc 0) (.lit (.int 1))))))) .skip)
def f_is_box_by : S := (.seq (.ret (.and (.call "are_some" (.cons (.loc 1) (.cons (.loc 0) (.cons (.loc 0) .nil)))) (.bi .all (.cons (.comp false [2] (.nm 2) (.iVal (.loc 1)) .nop (.call "is_gap" (.cons (.loc 2) .nil))) .nil)))) .skip)
def f_is_wear : S := (.seq (.ret (.and (.call "are_some" (.cons (.loc 1) (.cons (.loc 0) (.cons (.loc 0) .nil)))) (.bi .all (.cons (.comp false [2] (.nm 2) (.iVal (.loc 1)) .nop (.call "is_among" (.cons (.loc 2) (.cons (.lit (.int 0)) (.cons (.lit (.int 3)) .nil))))) .nil)))) .skip)
def f_is_door : S := (.seq (.ife (.or (.not (.call "are_some" (.cons (.loc 3) (.cons (.lit (.int 4)) (.cons (.lit (.int 4)) .nil))))) (.not (.bi .all (.cons (.comp false [4] (.nm 4) (.iVal (.tup (.cons (.ix (.loc 3) (.lit (.int 0))) (.cons (.ix (.loc 3) (.lit (.int 2))) .nil)))) .nop (.call "is_among" (.cons (.loc 4) (.cons (.lit (.int 0)) (.cons (.bin .sub (.loc 1) (.lit (.int 1))) .nil))))) .nil)))) (.seq (.ret (.lit (.bool false))) .skip) .skip) (.seq (.ret (.and (.call "is_among" (.cons (.ix (.loc 3) (.lit (.int 1))) (.cons (.lit (.int 0)) (.cons (.bin .sub (.loc 2) (.lit (.int 1))) .nil)))) (.call "is_box_by" (.cons (.loc 0) (.cons (.ix (.loc 3) (.lit (.int 3))) .nil))))) .skip))
def f_are_doors : S := (.seq (.ife (.or (.not (.call "are_some" (.cons (.loc 3) (.cons (.lit (.int 0)) (.cons (.lit (.int 10)) .nil))))) (.not (.bi .all (.cons (.comp false [5] (.nm 5) (.iVal (.loc 3)) .nop (.call "is_door" (.cons (.loc 0) (.cons (.loc 1) (.cons (.loc 2) (.cons (.loc 5) .nil)))))) .nil)))) (.seq (.ret (.lit (.bool false))) .skip) .skip) (.seq (.ret (.call "rises" (.cons (.comp false [4] (.nm 4) (.iVal (.loc 3)) .nop (.sl (.loc 4) .nop (.prt (.lit (.int 2))))) .nil))) .skip))
def f_is_smith : S := (.seq (.ife (.or (.not (.call "are_some" (.cons (.loc 1) (.cons (.lit (.int 3)) (.cons (.lit (.int 3)) .nil))))) (.not (.call "is_among" (.cons (.ix (.loc 1) (.lit (.int 0))) (.cons (.lit (.int 0)) (.cons (.bin .sub (.loc 0) (.lit (.int 1))) .nil)))))) (.seq (.ret (.lit (.bool false))) .skip) .skip) (.seq (.ret (.and (.call "is_among" (.cons (.ix (.loc 1) (.lit (.int 1))) (.cons (.lit (.int 1)) (.cons (.lit (.int 6)) .nil)))) (.call "is_among" (.cons (.ix (.loc 1) (.lit (.int 2))) (.cons (.lit (.int 1)) (.cons (.lit (.int 9)) .nil)))))) .skip))
def f_are_benches : S := (.seq (.ret (.and (.isi (.loc 1) "tuple") (.and (.bi .all (.cons (.comp false [2] (.nm 2) (.iVal (.loc 1)) .nop (.call "is_among" (.cons (.loc 2) (.cons (.lit (.int 0)) (.cons (.bin .sub (.loc 0) (.lit (.int 1))) .nil))))) .nil)) (.call "rises" (.cons (.loc 1) .nil))))) .skip)
def f_are_smiths : S := (.seq (.ife (.or (.not (.isi (.loc 1) "tuple")) (.not (.bi .all (.cons (.comp false [2] (.nm 2) (.iVal (.loc 1)) .nop (.call "is_smith" (.cons (.loc 0) (.cons (.loc 2) .nil)))) .nil)))) (.seq (.ret (.lit (.bool false))) .skip) .skip) (.seq (.ret (.call "rises" (.cons (.comp false [2] (.nm 2) (.iVal (.loc 1)) .nop (.ix (.loc 2) (.lit (.int 0)))) .nil))) .skip))
def f_is_house : S := (.seq (.ife (.or (.not (.call "are_some" (.cons (.loc 0) (.cons (.lit (.int 6)) (.cons (.lit (.int 6)) .nil))))) (.or (.not (.call "is_among" (.cons (.ix (.loc 0) (.lit (.int 0))) (.cons (.lit (.int 1)) (.cons (.lit (.int 3)) .nil))))) (.not (.call "is_among" (.cons (.ix (.loc 0) (.lit (.int 1))) (.cons (.lit (.int 1)) (.cons (.lit (.int 6)) .nil))))))) (.seq (.ret (.lit (.bool false))) .skip) .skip) (.seq (.asg (.cons (.nm 1) (.cons (.nm 2) (.cons (.nm 3) (.cons (.nm 4) (.cons (.nm 5) (.cons (.nm 6) .nil)))))) (.loc 0)) (.seq (.ife (.or (.not (.call "are_some" (.cons (.loc 3) (.cons (.lit (.int 1)) (.cons (.lit (.int 6)) .nil))))) (.not (.bi .all (.cons (.comp false [7] (.nm 7) (.iVal (.loc 3)) .nop (.call "is_wear" (.cons (.loc 1) (.cons (.loc 7) .nil)))) .nil)))) (.seq (.ret (.lit (.bool false))) .skip) .skip) (.seq (.ife (.not (.call "are_doors" (.cons (.loc 1) (.cons (.loc 2) (.cons (.bi .len (.cons (.loc 3) .nil)) (.cons (.loc 4) .nil)))))) (.seq (.ret (.lit (.bool false))) .skip) .skip) (.seq (.ret (.and (.call "are_benches" (.cons (.loc 2) (.cons (.loc 5) .nil))) (.call "are_smiths" (.cons (.loc 2) (.cons (.loc 6) .nil))))) .skip)))))
def f_need_house : S := (.seq (.ife (.not (.call "is_house" (.cons (.loc 0) .nil))) (.seq .stk .skip) .skip) .skip)
def f_is_hall : S := (.seq (.ret (.call "is_among" (.cons (.loc 1) (.cons (.lit (.int 0)) (.cons (.bin .sub (.ix (.loc 0) (.lit (.int 1))) (.lit (.int 1))) .nil))))) .skip)
def f_need_hall : S := (.seq (.ex (.call "need_house" (.cons (.loc 0) .nil))) (.seq (.ife (.not (.call "is_hall" (.cons (.loc 0) (.cons (.loc 1) .nil)))) (.seq .stk .skip) .skip) .skip))
def f_is_deed : S := (.seq (.ife (.or (.not (.call "are_some" (.cons (.loc 1) (.cons (.lit (.int 2)) (.cons (.lit (.int 2)) .nil))))) (.or (.not (.isi (.ix (.loc 1) (.lit (.int 0))) "str")) (.cmp .nin (.ix (.loc 1) (.lit (.int 0))) (.tup (.cons (.lit (.str "go")) (.cons (.lit (.str "file")) (.cons (.lit (.str "lift")) .nil))))))) (.seq (.ret (.lit (.bool false))) .skip) .skip) (.seq (.ret (.call "is_among" (.cons (.ix (.loc 1) (.lit (.int 1))) (.cons (.lit (.int 0)) (.cons (.bin .sub (.ite (.cmp .eq (.ix (.loc 1) (.lit (.int 0))) (.lit (.str "go"))) (.bi .len (.cons (.ix (.loc 0) (.lit (.int 2))) .nil)) (.ix (.loc 0) (.lit (.int 0)))) (.lit (.int 1))) .nil))))) .skip))
def f_door_at : S := (.seq (.for_ (.cons (.nm 3) (.cons (.nm 4) .nil)) (.iEnu (.ix (.loc 0) (.lit (.int 3)))) (.seq (.ife (.cmp .eq (.sl (.loc 4) .nop (.prt (.lit (.int 2)))) (.tup (.cons (.loc 1) (.cons (.loc 2) .nil)))) (.seq (.ret (.loc 3)) .skip) .skip) .skip)) (.seq (.ret (.lit .none)) .skip))
def f_smith_at : S := (.seq (.for_ (.nm 2) (.iVal (.ix (.loc 0) (.lit (.int 5)))) (.seq (.ife (.cmp .eq (.ix (.loc 2) (.lit (.int 0))) (.loc 1)) (.seq (.ret (.loc 2)) .skip) .skip) .skip)) (.seq (.ret (.lit .none)) .skip))
def f_is_away : S := (.seq (.ife (.cmp .eq (.ix (.loc 2) (.lit (.int 0))) (.lit (.str "go"))) (.seq (.ret (.isNon (.call "door_at" (.cons (.loc 0) (.cons (.loc 1) (.cons (.ix (.loc 2) (.lit (.int 1))) .nil)))))) .skip) .skip) (.seq (.ret (.ite (.cmp .eq (.ix (.loc 2) (.lit (.int 0))) (.lit (.str "file"))) (.cmp .nin (.loc 1) (.ix (.loc 0) (.lit (.int 4)))) (.isNon (.call "smith_at" (.cons (.loc 0) (.cons (.loc 1) .nil)))))) .skip))
def f_hall_behind : S := (.seq (.ret (.ite (.cmp .eq (.ix (.loc 2) (.lit (.int 0))) (.lit (.str "go"))) (.ix (.ix (.ix (.loc 0) (.lit (.int 3))) (.call "door_at" (.cons (.loc 0) (.cons (.loc 1) (.cons (.ix (.loc 2) (.lit (.int 1))) .nil))))) (.lit (.int 2))) (.loc 1))) .skip)
def f_wear_of : S := (.seq (.ife (.cmp .eq (.ix (.loc 1) (.lit (.int 0))) (.lit (.str "go"))) (.seq (.ret (.ix (.ix (.ix (.loc 0) (.lit (.int 2))) (.ix (.loc 1) (.lit (.int 1)))) (.loc 2))) .skip) .skip) (.seq (.ret (.ite (.cmp .eq (.ix (.loc 1) (.lit (.int 0))) (.lit (.str "file"))) (.bi .int1 (.cons (.cmp .eq (.ix (.loc 1) (.lit (.int 1))) (.loc 2)) .nil)) (.bin .sub (.lit (.int 0)) (.bi .int1 (.cons (.cmp .eq (.ix (.loc 1) (.lit (.int 1))) (.loc 2)) .nil))))) .skip))
def f_gap_of : S := (.seq (.ife (.cmp .eq (.ix (.loc 2) (.lit (.int 0))) (.lit (.str "go"))) (.seq (.ret (.ix (.ix (.ix (.ix (.loc 0) (.lit (.int 3))) (.call "door_at" (.cons (.loc 0) (.cons (.loc 1) (.cons (.ix (.loc 2) (.lit (.int 1))) .nil))))) (.lit (.int 3))) (.loc 3))) .skip) .skip) (.seq (.ife (.cmp .ne (.ix (.loc 2) (.lit (.int 1))) (.loc 3)) (.seq (.ret (.tup (.cons (.lit (.int 0)) (.cons (.lit (.int 6)) .nil)))) .skip) .skip) (.seq (.ret (.ite (.cmp .eq (.ix (.loc 2) (.lit (.int 0))) (.lit (.str "file"))) (.tup (.cons (.lit (.int 1)) (.cons (.lit (.int 6)) .nil))) (.tup (.cons (.lit (.int 0)) (.cons (.bin .sub (.ix (.call "smith_at" (.cons (.loc 0) (.cons (.loc 1) .nil))) (.lit (.int 1))) (.lit (.int 1))) .nil))))) .skip)))
def f_need_row : S := (.seq (.ife (.or (.not (.isi (.loc 1) "tuple")) (.not (.bi .all (.cons (.comp false [2] (.nm 2) (.iVal (.loc 1)) .nop (.call "is_deed" (.cons (.loc 0) (.cons (.loc 2) .nil)))) .nil)))) (.seq .stk .skip) .skip) .skip)
def f_away_at : S := (.seq (.for_ (.cons (.nm 3) (.cons (.nm 4) .nil)) (.iEnu (.loc 2)) (.seq (.ife (.call "is_away" (.cons (.loc 0) (.cons (.loc 1) (.cons (.loc 4) .nil)))) (.seq (.ret (.loc 3)) .skip) .skip) (.seq (.asg (.nm 1) (.call "hall_behind" (.cons (.loc 0) (.cons (.loc 1) (.cons (.loc 4) .nil))))) .skip))) (.seq (.ret (.lit .none)) .skip))
def f_first_away : S := (.seq (.ex (.call "need_hall" (.cons (.loc 0) (.cons (.loc 1) .nil)))) (.seq (.ex (.call "need_row" (.cons (.loc 0) (.cons (.loc 2) .nil)))) (.seq (.ret (.call "away_at" (.cons (.loc 0) (.cons (.loc 1) (.cons (.loc 2) .nil))))) .skip)))
def f_need_laid : S := (.seq (.ife (.notNon (.call "first_away" (.cons (.loc 0) (.cons (.loc 1) (.cons (.loc 2) .nil))))) (.seq .stk .skip) .skip) .skip)
def f_height_behind : S := (.seq (.for_ (.nm 5) (.iVal (.loc 2)) (.seq (.asg (.cons (.nm 6) (.cons (.nm 7) .nil)) (.call "gap_of" (.cons (.loc 0) (.cons (.loc 1) (.cons (.loc 5) (.cons (.loc 3) .nil)))))) (.seq (.ife (.not (.chain .le .le (.loc 6) (.loc 4) (.loc 7))) (.seq (.ret (.lit .none)) .skip) .skip) (.seq (.par [4, 1] (.cons (.bi .max2 (.cons (.lit (.int 0)) (.cons (.bin .sub (.loc 4) (.call "wear_of" (.cons (.loc 0) (.cons (.loc 5) (.cons (.loc 3) .nil))))) .nil))) (.cons (.call "hall_behind" (.cons (.loc 0) (.cons (.loc 1) (.cons (.loc 5) .nil)))) .nil))) .skip)))) (.seq (.ret (.loc 4)) .skip))
def f_does_by : S := (.seq (.asg (.nm 3) (.lst true .nil)) (.seq (.for_ (.nm 4) (.iR1 (.ix (.loc 0) (.lit (.int 0)))) (.seq (.ex (.app (.loc 3) (.bi .tuple1 (.cons (.comp false [5] (.nm 5) (.iR1 (.bin .add (.lit (.int 6)) (.lit (.int 1)))) .nop (.call "height_behind" (.cons (.loc 0) (.cons (.loc 1) (.cons (.loc 2) (.cons (.loc 4) (.cons (.loc 5) .nil))))))) .nil)))) .skip)) (.seq (.ret (.bi .tuple1 (.cons (.loc 3) .nil))) .skip)))
def f_does : S := (.seq (.ex (.call "need_laid" (.cons (.loc 0) (.cons (.loc 1) (.cons (.loc 2) .nil))))) (.seq (.ret (.call "does_by" (.cons (.loc 0) (.cons (.loc 1) (.cons (.loc 2) .nil))))) .skip))
def f_box_by : S := (.seq (.asg (.nm 1) (.comp false [2] (.nm 2) (.iVal (.loc 0)) .nop (.comp false [3, 4] (.cons (.nm 3) (.cons (.nm 4) .nil)) (.iEnu (.loc 2)) (.cnd (.notNon (.loc 4))) (.loc 3)))) (.seq (.ret (.ite (.cmp .isin (.lst false .nil) (.loc 1)) (.lit .none) (.bi .tuple1 (.cons (.comp false [5] (.nm 5) (.iVal (.loc 1)) .nop (.tup (.cons (.ix (.loc 5) (.lit (.int 0))) (.cons (.ix (.loc 5) (.neg (.lit (.int 1)))) .nil)))) .nil)))) .skip))
def f_box_of : S := (.seq (.ret (.call "box_by" (.cons (.call "does" (.cons (.loc 0) (.cons (.loc 1) (.cons (.loc 2) .nil)))) .nil))) .skip)
def f_box_behind : S := (.seq (.asg (.nm 3) (.call "does" (.cons (.loc 0) (.cons (.loc 1) (.cons (.loc 2) .nil))))) (.seq (.asg (.nm 4) (.call "box_by" (.cons (.loc 3) .nil))) (.seq (.ife (.isNon (.loc 4)) (.seq (.ret (.lit .none)) .skip) .skip) (.seq (.ret (.bi .tuple1 (.cons (.comp false [5, 6, 7] (.cons (.nm 5) (.cons (.cons (.nm 6) (.cons (.nm 7) .nil)) .nil)) (.iZip (.loc 3) (.loc 4)) .nop (.tup (.cons (.ix (.loc 5) (.loc 6)) (.cons (.ix (.loc 5) (.loc 7)) .nil)))) .nil))) .skip))))
def f_need_teeth : S := (.seq (.ife (.not (.call "is_among" (.cons (.loc 0) (.cons (.lit (.int 1)) (.cons (.lit (.int 3)) .nil))))) (.seq .stk .skip) .skip) .skip)
def f_is_key_by : S := (.seq (.ret (.and (.call "are_some" (.cons (.loc 1) (.cons (.loc 0) (.cons (.loc 0) .nil)))) (.bi .all (.cons (.comp false [2] (.nm 2) (.iVal (.loc 1)) .nop (.call "is_height" (.cons (.loc 2) .nil))) .nil)))) .skip)
def f_is_key : S := (.seq (.ex (.call "need_teeth" (.cons (.loc 0) .nil))) (.seq (.ret (.call "is_key_by" (.cons (.loc 0) (.cons (.loc 1) .nil)))) .skip))
def f_is_box : S := (.seq (.ex (.call "need_teeth" (.cons (.loc 0) .nil))) (.seq (.ret (.call "is_box_by" (.cons (.loc 0) (.cons (.loc 1) .nil)))) .skip))
def f_need_box : S := (.seq (.ife (.not (.call "is_box_by" (.cons (.loc 0) (.cons (.loc 1) .nil)))) (.seq .stk .skip) .skip) .skip)
def f_common_by : S := (.seq (.asg (.nm 2) (.bi .tuple1 (.cons (.comp false [3, 4] (.cons (.nm 3) (.cons (.nm 4) .nil)) (.iZip (.loc 0) (.loc 1)) .nop (.tup (.cons (.bi .max2 (.cons (.ix (.loc 3) (.lit (.int 0))) (.cons (.ix (.loc 4) (.lit (.int 0))) .nil))) (.cons (.bi .min2 (.cons (.ix (.loc 3) (.lit (.int 1))) (.cons (.ix (.loc 4) (.lit (.int 1))) .nil))) .nil)))) .nil))) (.seq (.ret (.ite (.bi .all (.cons (.comp false [5, 6] (.cons (.nm 5) (.cons (.nm 6) .nil)) (.iVal (.loc 2)) .nop (.cmp .le (.loc 5) (.loc 6))) .nil)) (.loc 2) (.lit .none))) .skip))
def f_common : S := (.seq (.ex (.call "need_teeth" (.cons (.loc 0) .nil))) (.seq (.ex (.call "need_box" (.cons (.loc 0) (.cons (.loc 1) .nil)))) (.seq (.ex (.call "need_box" (.cons (.loc 0) (.cons (.loc 2) .nil)))) (.seq (.ret (.call "common_by" (.cons (.loc 1) (.cons (.loc 2) .nil)))) .skip))))
def f_has_key : S := (.seq (.ret (.bi .all (.cons (.comp false [2, 3, 4] (.cons (.cons (.nm 3) (.cons (.nm 4) .nil)) (.cons (.nm 2) .nil)) (.iZip (.loc 0) (.loc 1)) .nop (.chain .le .le (.loc 3) (.loc 2) (.loc 4))) .nil))) .skip)
def f_keys_in : S := (.seq (.asg (.nm 1) (.lst false (.cons (.tup .nil) .nil))) (.seq (.for_ (.cons (.nm 2) (.cons (.nm 3) .nil)) (.iVal (.loc 0)) (.seq (.asg (.nm 4) (.lst true .nil)) (.seq (.for_ (.nm 5) (.iVal (.loc 1)) (.seq (.ex (.ext (.loc 4) (.comp false [6] (.nm 6) (.iR2 (.loc 2) (.bin .add (.loc 3) (.lit (.int 1)))) .nop (.bin .add (.loc 5) (.tup (.cons (.loc 6) .nil)))))) .skip)) (.seq (.asg (.nm 1) (.loc 4)) .skip)))) (.seq (.ret (.loc 1)) .skip)))
def f_left_out : S := (.seq (.ex (.call "need_teeth" (.cons (.loc 0) .nil))) (.seq (.ife (.or (.not (.isi (.loc 1) "tuple")) (.not (.bi .all (.cons (.comp false [4] (.nm 4) (.iVal (.loc 1)) .nop (.call "is_box_by" (.cons (.loc 0) (.cons (.loc 4) .nil)))) .nil)))) (.seq .stk .skip) .skip) (.seq (.ex (.call "need_box" (.cons (.loc 0) (.cons (.loc 2) .nil)))) (.seq (.for_ (.nm 3) (.iVal (.call "keys_in" (.cons (.loc 2) .nil))) (.seq (.ife (.not (.bi .any (.cons (.comp false [4] (.nm 4) (.iVal (.loc 1)) .nop (.call "has_key" (.cons (.loc 4) (.cons (.loc 3) .nil)))) .nil))) (.seq (.ret (.loc 3)) .skip) .skip) .skip)) (.seq (.ret (.lit .none)) .skip)))))
def f_moved_end : S := (.seq (.ret (.bin .add (.bin .add (.sl (.loc 0) .nop (.prt (.loc 1))) (.tup (.cons (.bin .add (.ix (.loc 0) (.loc 1)) (.loc 2)) .nil))) (.sl (.loc 0) (.prt (.bin .add (.loc 1) (.lit (.int 1)))) .nop))) .skip)
def f_filled_from : S := (.seq (.asg (.nm 2) (.dnew true)) (.seq (.for_ (.nm 3) (.iVal (.bi (.srt1 false) (.cons (.loc 0) .nil))) (.seq (.ife (.bi .all (.cons (.comp false [6, 7] (.cons (.nm 6) (.cons (.nm 7) .nil)) (.iZip (.loc 3) (.loc 1)) .nop (.cmp .ge (.loc 6) (.loc 7))) .nil)) (.seq (.asg (.nm 4) (.comp false [5] (.nm 5) (.iR1 (.bi .len (.cons (.loc 1) .nil))) (.cnd (.cmp .gt (.ix (.loc 3) (.loc 5)) (.ix (.loc 1) (.loc 5)))) (.loc 5))) (.seq (.ife (.bi .all (.cons (.comp false [5] (.nm 5) (.iVal (.loc 4)) .nop (.cmp .isin (.call "moved_end" (.cons (.loc 3) (.cons (.loc 5) (.cons (.neg (.lit (.int 1))) .nil)))) (.loc 2))) .nil)) (.seq (.sub (.loc 2) (.loc 3) (.lit (.bool true))) .skip) .skip) .skip)) .skip) .skip)) (.seq (.ret (.loc 2)) .skip)))
def f_is_greatest : S := (.seq (.for_ (.nm 3) (.iR1 (.bi .len (.cons (.loc 1) .nil))) (.seq (.ife (.cmp .isin (.call "moved_end" (.cons (.loc 2) (.cons (.loc 3) (.cons (.lit (.int 1)) .nil)))) (.ix (.loc 0) (.loc 1))) (.seq (.ret (.lit (.bool false))) .skip) .skip) (.seq (.ife (.cmp .isin (.loc 2) (.dget (.loc 0) (.call "moved_end" (.cons (.loc 1) (.cons (.loc 3) (.cons (.neg (.lit (.int 1))) .nil)))) (.dnew true))) (.seq (.ret (.lit (.bool false))) .skip) .skip) .skip))) (.seq (.ret (.lit (.bool true))) .skip))
def f_greatest_by : S := (.seq (.asg (.nm 1) (.bi .dict1 (.cons (.comp false [3] (.nm 3) (.iVal (.loc 0)) .nop (.tup (.cons (.loc 3) (.cons (.call "filled_from" (.cons (.loc 0) (.cons (.loc 3) .nil))) .nil)))) .nil))) (.seq (.asg (.nm 2) (.lst true .nil)) (.seq (.for_ (.nm 3) (.iVal (.loc 1)) (.seq (.ex (.ext (.loc 2) (.comp false [4] (.nm 4) (.iVal (.ix (.loc 1) (.loc 3))) (.cnd (.call "is_greatest" (.cons (.loc 1) (.cons (.loc 3) (.cons (.loc 4) .nil))))) (.bi .tuple1 (.cons (.bi (.list1 false) (.cons .stk .nil)) .nil))))) .skip)) (.seq (.ret (.bi .tuple1 (.cons (.bi (.srt1 false) (.cons (.loc 2) .nil)) .nil))) .skip))))
def f_greatest : S := (.seq (.ex (.call "need_teeth" (.cons (.loc 0) .nil))) (.seq (.ife (.or (.not (.isi (.loc 1) "tuple")) (.or (.not (.bi .all (.cons (.comp false [2] (.nm 2) (.iVal (.loc 1)) .nop (.call "is_key_by" (.cons (.loc 0) (.cons (.loc 2) .nil)))) .nil))) (.not (.call "rises" (.cons (.loc 1) .nil))))) (.seq .stk .skip) .skip) (.seq (.ret (.call "greatest_by" (.cons (.bi .dict1 (.cons (.comp false [2] (.nm 2) (.iVal (.loc 1)) .nop (.tup (.cons (.loc 2) (.cons (.lit (.bool true)) .nil)))) .nil)) .nil))) .skip)))
def f_is_stand : S := (.seq (.ret (.and (.call "are_some" (.cons (.loc 1) (.cons (.lit (.int 2)) (.cons (.lit (.int 2)) .nil)))) (.and (.call "is_hall" (.cons (.loc 0) (.cons (.ix (.loc 1) (.lit (.int 0))) .nil))) (.call "is_key_by" (.cons (.ix (.loc 0) (.lit (.int 0))) (.cons (.ix (.loc 1) (.lit (.int 1))) .nil)))))) .skip)
def f_need_stand : S := (.seq (.ex (.call "need_house" (.cons (.loc 0) .nil))) (.seq (.ife (.not (.call "is_stand" (.cons (.loc 0) (.cons (.loc 1) .nil)))) (.seq .stk .skip) .skip) .skip))
def f_bar_of : S := (.seq (.asg (.cons (.nm 3) (.cons (.nm 4) .nil)) (.loc 1)) (.seq (.ife (.call "is_away" (.cons (.loc 0) (.cons (.loc 3) (.cons (.loc 2) .nil)))) (.seq (.ret (.tup (.cons (.lit (.str "away")) (.cons (.lit .none) .nil)))) .skip) .skip) (.seq (.for_ (.cons (.nm 5) (.cons (.nm 6) .nil)) (.iEnu (.loc 4)) (.seq (.asg (.cons (.nm 7) (.cons (.nm 8) .nil)) (.call "gap_of" (.cons (.loc 0) (.cons (.loc 3) (.cons (.loc 2) (.cons (.loc 5) .nil)))))) (.seq (.ife (.cmp .lt (.loc 6) (.loc 7)) (.seq (.ret (.tup (.cons (.lit (.str "low")) (.cons (.loc 5) .nil)))) .skip) .skip) (.seq (.ife (.cmp .gt (.loc 6) (.loc 8)) (.seq (.ret (.tup (.cons (.lit (.str "high")) (.cons (.loc 5) .nil)))) .skip) .skip) .skip)))) (.seq (.ret (.lit .none)) .skip))))
def f_done_by : S := (.seq (.asg (.cons (.nm 4) (.cons (.nm 5) .nil)) (.loc 1)) (.seq (.asg (.nm 3) (.bi .tuple1 (.cons (.comp false [6, 7] (.cons (.nm 6) (.cons (.nm 7) .nil)) (.iEnu (.loc 5)) .nop (.bi .max2 (.cons (.lit (.int 0)) (.cons (.bin .sub (.loc 7) (.call "wear_of" (.cons (.loc 0) (.cons (.loc 2) (.cons (.loc 6) .nil))))) .nil)))) .nil))) (.seq (.ret (.tup (.cons (.call "hall_behind" (.cons (.loc 0) (.cons (.loc 4) (.cons (.loc 2) .nil)))) (.cons (.loc 3) .nil)))) .skip)))
def f_bar_at : S := (.seq (.for_ (.cons (.nm 3) (.cons (.nm 4) .nil)) (.iEnu (.loc 2)) (.seq (.asg (.nm 5) (.call "bar_of" (.cons (.loc 0) (.cons (.loc 1) (.cons (.loc 4) .nil))))) (.seq (.ife (.notNon (.loc 5)) (.seq (.ret (.bin .add (.tup (.cons (.loc 3) .nil)) (.loc 5))) .skip) .skip) (.seq (.asg (.nm 1) (.call "done_by" (.cons (.loc 0) (.cons (.loc 1) (.cons (.loc 4) .nil))))) .skip)))) (.seq (.ret (.lit .none)) .skip))
def f_first_barred : S := (.seq (.ex (.call "need_stand" (.cons (.loc 0) (.cons (.loc 1) .nil)))) (.seq (.ex (.call "need_row" (.cons (.loc 0) (.cons (.loc 2) .nil)))) (.seq (.ret (.call "bar_at" (.cons (.loc 0) (.cons (.loc 1) (.cons (.loc 2) .nil))))) .skip)))
def f_behind_by : S := (.seq (.for_ (.nm 3) (.iVal (.loc 2)) (.seq (.asg (.nm 1) (.call "done_by" (.cons (.loc 0) (.cons (.loc 1) (.cons (.loc 3) .nil))))) .skip)) (.seq (.ret (.loc 1)) .skip))
def f_behind : S := (.seq (.ife (.notNon (.call "first_barred" (.cons (.loc 0) (.cons (.loc 1) (.cons (.loc 2) .nil))))) (.seq .stk .skip) .skip) (.seq (.ret (.call "behind_by" (.cons (.loc 0) (.cons (.loc 1) (.cons (.loc 2) .nil))))) .skip))
def f_halls_of : S := (.seq (.asg (.nm 3) (.lst true (.cons (.loc 1) .nil))) (.seq (.for_ (.nm 4) (.iVal (.loc 2)) (.seq (.ex (.app (.loc 3) (.call "hall_behind" (.cons (.loc 0) (.cons (.ix (.loc 3) (.neg (.lit (.int 1)))) (.cons (.loc 4) .nil)))))) .skip)) (.seq (.ret (.loc 3)) .skip)))
def f_ends_in : S := (.seq (.ex (.call "need_laid" (.cons (.loc 0) (.cons (.loc 1) (.cons (.loc 2) .nil))))) (.seq (.ret (.ix (.call "halls_of" (.cons (.loc 0) (.cons (.loc 1) (.cons (.loc 2) .nil)))) (.neg (.lit (.int 1))))) .skip))
def f_coins_by : S := (.seq (.asg (.nm 3) (.lit (.int 0))) (.seq (.for_ (.nm 4) (.iVal (.loc 2)) (.seq (.aug 3 (.ite (.cmp .eq (.ix (.loc 4) (.lit (.int 0))) (.lit (.str "lift"))) (.ix (.call "smith_at" (.cons (.loc 0) (.cons (.loc 1) .nil))) (.lit (.int 2))) (.lit (.int 0)))) (.seq (.asg (.nm 1) (.call "hall_behind" (.cons (.loc 0) (.cons (.loc 1) (.cons (.loc 4) .nil))))) .skip))) (.seq (.ret (.loc 3)) .skip)))
def f_coins_of : S := (.seq (.ex (.call "need_laid" (.cons (.loc 0) (.cons (.loc 1) (.cons (.loc 2) .nil))))) (.seq (.ret (.call "coins_by" (.cons (.loc 0) (.cons (.loc 1) (.cons (.loc 2) .nil))))) .skip))
def f_whole_box : S := (.seq (.ret (.bin .mul (.tup (.cons (.tup (.cons (.lit (.int 0)) (.cons (.lit (.int 6)) .nil))) .nil)) (.loc 0))) .skip)
def f_led : S := (.seq (.ret (.bi .tuple1 (.cons (.comp false [2, 3] (.cons (.nm 2) (.cons (.nm 3) .nil)) (.iZip (.loc 0) (.loc 1)) .nop (.ix (.loc 2) (.loc 3))) .nil))) .skip)
def f_parts : S := (.seq (.ex (.call "need_hall" (.cons (.loc 0) (.cons (.loc 1) .nil)))) (.seq (.ex (.call "need_row" (.cons (.loc 0) (.cons (.loc 2) .nil)))) (.seq (.ex (.call "need_row" (.cons (.loc 0) (.cons (.loc 3) .nil)))) (.seq (.for_ (.cons (.nm 5) (.cons (.nm 6) .nil)) (.iEnu (.tup (.cons (.loc 2) (.cons (.loc 3) .nil)))) (.seq (.ife (.notNon (.call "away_at" (.cons (.loc 0) (.cons (.loc 1) (.cons (.loc 6) .nil))))) (.seq (.ret (.tup (.cons (.lit (.str "laid")) (.cons (.loc 5) .nil)))) .skip) .skip) .skip)) (.seq (.par [7, 8] (.cons (.ix (.call "halls_of" (.cons (.loc 0) (.cons (.loc 1) (.cons (.loc 2) .nil)))) (.neg (.lit (.int 1)))) (.cons (.ix (.call "halls_of" (.cons (.loc 0) (.cons (.loc 1) (.cons (.loc 3) .nil)))) (.neg (.lit (.int 1)))) .nil))) (.seq (.ife (.cmp .ne (.loc 7) (.loc 8)) (.seq (.ret (.tup (.cons (.lit (.str "halls")) (.cons (.loc 7) (.cons (.loc 8) .nil))))) .skip) .skip) (.seq (.par [9, 10] (.cons (.call "does_by" (.cons (.loc 0) (.cons (.loc 1) (.cons (.loc 2) .nil)))) (.cons (.call "does_by" (.cons (.loc 0) (.cons (.loc 1) (.cons (.loc 3) .nil)))) .nil))) (.seq (.for_ (.nm 4) (.iVal (.call "keys_in" (.cons (.call "whole_box" (.cons (.ix (.loc 0) (.lit (.int 0))) .nil)) .nil))) (.seq (.asg (.nm 11) (.lst false (.cons (.call "led" (.cons (.loc 9) (.cons (.loc 4) .nil))) (.cons (.call "led" (.cons (.loc 10) (.cons (.loc 4) .nil))) .nil)))) (.seq (.asg (.nm 12) (.comp false [13] (.nm 13) (.iVal (.loc 11)) .nop (.ite (.cmp .isin (.lit .none) (.loc 13)) (.lit .none) (.loc 13)))) (.seq (.ife (.cmp .ne (.ix (.loc 12) (.lit (.int 0))) (.ix (.loc 12) (.lit (.int 1)))) (.seq (.ret (.tup (.cons (.lit (.str "key")) (.cons (.loc 4) .nil)))) .skip) .skip) .skip)))) (.seq (.ret (.tup (.cons (.lit (.str "same")) .nil))) .skip)))))))))
def f_need_key : S := (.seq (.ife (.not (.call "is_key_by" (.cons (.loc 0) (.cons (.loc 1) .nil)))) (.seq .stk .skip) .skip) .skip)
def f_need_round : S := (.seq (.ex (.call "need_laid" (.cons (.loc 0) (.cons (.loc 1) (.cons (.loc 2) .nil))))) (.seq (.ife (.cmp .ne (.ix (.call "halls_of" (.cons (.loc 0) (.cons (.loc 1) (.cons (.loc 2) .nil)))) (.neg (.lit (.int 1)))) (.loc 1)) (.seq .stk .skip) .skip) .skip))
def f_need_times : S := (.seq (.ife (.not (.call "is_among" (.cons (.loc 0) (.cons (.lit (.int 0)) (.cons (.lit (.int 1000000000000)) .nil))))) (.seq .stk .skip) .skip) .skip)
def f_often_by : S := (.seq (.for_ (.nm 2) (.iR1 (.lit (.int 7))) (.seq (.asg (.nm 1) (.call "led" (.cons (.loc 0) (.cons (.loc 1) .nil)))) (.seq (.ife (.cmp .isin (.lit .none) (.loc 1)) (.seq (.ret (.loc 2)) .skip) .skip) .skip))) (.seq (.ret (.lit .none)) .skip))
def f_how_often : S := (.seq (.ex (.call "need_round" (.cons (.loc 0) (.cons (.loc 1) (.cons (.loc 2) .nil))))) (.seq (.ex (.call "need_key" (.cons (.ix (.loc 0) (.lit (.int 0))) (.cons (.loc 3) .nil)))) (.seq (.ret (.call "often_by" (.cons (.call "does_by" (.cons (.loc 0) (.cons (.loc 1) (.cons (.loc 2) .nil)))) (.cons (.loc 3) .nil)))) .skip)))
def f_key_far : S := (.seq (.asg (.nm 5) (.call "how_often" (.cons (.loc 0) (.cons (.loc 1) (.cons (.loc 2) (.cons (.loc 3) .nil)))))) (.seq (.ex (.call "need_times" (.cons (.loc 4) .nil))) (.seq (.ife (.and (.notNon (.loc 5)) (.cmp .lt (.loc 5) (.loc 4))) (.seq .stk .skip) .skip) (.seq (.asg (.nm 6) (.call "does_by" (.cons (.loc 0) (.cons (.loc 1) (.cons (.loc 2) .nil))))) (.seq (.for_ (.nm 7) (.iR1 (.bi .min2 (.cons (.loc 4) (.cons (.lit (.int 7)) .nil)))) (.seq (.asg (.nm 3) (.call "led" (.cons (.loc 6) (.cons (.loc 3) .nil)))) .skip)) (.seq (.ret (.loc 3)) .skip))))))
def f_put_behind : S := (.seq (.asg (.nm 2) (.lst true .nil)) (.seq (.for_ (.cons (.nm 3) (.cons (.nm 4) .nil)) (.iZip (.loc 0) (.loc 1)) (.seq (.ex (.app (.loc 2) (.bi .tuple1 (.cons (.comp false [5] (.nm 5) (.iVal (.loc 3)) .nop (.ite (.isNon (.loc 5)) (.lit .none) (.ix (.loc 4) (.loc 5)))) .nil)))) .skip)) (.seq (.ret (.bi .tuple1 (.cons (.loc 2) .nil))) .skip)))
def f_box_far : S := (.seq (.ex (.call "need_round" (.cons (.loc 0) (.cons (.loc 1) (.cons (.loc 2) .nil))))) (.seq (.ex (.call "need_times" (.cons (.loc 3) .nil))) (.seq (.par [5, 6] (.cons (.call "does_by" (.cons (.loc 0) (.cons (.loc 1) (.cons (.loc 2) .nil)))) (.cons (.bin .mul (.tup (.cons (.lsR true false (.lit (.int 0)) (.bin .add (.lit (.int 6)) (.lit (.int 1)))) .nil)) (.ix (.loc 0) (.lit (.int 0)))) .nil))) (.seq (.for_ (.nm 4) (.iR1 (.bi .min2 (.cons (.loc 3) (.cons (.lit (.int 7)) .nil)))) (.seq (.asg (.nm 6) (.call "put_behind" (.cons (.loc 6) (.cons (.loc 5) .nil)))) .skip)) (.seq (.ret (.call "box_by" (.cons (.loc 6) .nil))) .skip)))))
def fD_law_cell_at : S := (.seq (.ife (.cmp .lt (.loc 1) (.bi .len (.cons (.loc 0) .nil))) (.seq (.ret (.ix (.loc 0) (.loc 1))) .skip) .skip) (.seq (.ret (.lit (.int 0))) .skip))
def fD_law_pen : S := (.seq (.ret (.lst true (.cons (.bi .max2 (.cons (.lit (.int 0)) (.cons (.bin .sub (.loc 0) (.bin .pow (.lit (.int 10)) (.lit (.int 18)))) .nil))) (.cons (.bin .mod (.loc 0) (.lit (.int 1000000007))) (.cons (.lit (.int 0)) .nil))))) .skip)
def fD_law_draw : S := (.seq (.ife (.cmp .gt (.ix (.loc 0) (.lit (.int 0))) (.lit (.int 0))) (.seq (.asg (.nm 3) (.bin .mod (.ix (.loc 0) (.lit (.int 0))) (.loc 1))) (.seq (.sub (.loc 0) (.lit (.int 0)) (.bin .fdv (.ix (.loc 0) (.lit (.int 0))) (.loc 1))) (.seq (.ret (.loc 3)) .skip))) .skip) (.seq (.sub (.loc 0) (.lit (.int 2)) (.bin .add (.ix (.loc 0) (.lit (.int 2))) (.lit (.int 1)))) (.seq (.asg (.nm 2) (.bin .mod (.bin .mul (.bin .add (.ix (.loc 0) (.lit (.int 1))) (.bin .mul (.lit (.int 17)) (.ix (.loc 0) (.lit (.int 2))))) (.bin .add (.lit (.int 69621)) (.bin .mul (.lit (.int 2)) (.ix (.loc 0) (.lit (.int 2)))))) (.lit (.int 2147483647)))) (.seq (.asg (.nm 2) (.bin .mod (.bin .add (.bin .add (.bin .mul (.loc 2) (.loc 2)) (.bin .mul (.lit (.int 40503)) (.ix (.loc 0) (.lit (.int 2))))) (.lit (.int 5))) (.lit (.int 2147483629)))) (.seq (.ret (.bin .mod (.bin .fdv (.bin .mod (.bin .mul (.loc 2) (.lit (.int 48271))) (.lit (.int 2147483647))) (.lit (.int 32))) (.loc 1))) .skip)))))
def fK_law_key : S := (.seq (.ret (.bi .tuple1 (.cons (.comp false [2] (.nm 2) (.iR1 (.loc 1)) .nop (.call "_law_draw" (.cons (.loc 0) (.cons (.lit (.int 7)) .nil)))) .nil))) .skip)
def fB_law_pick : S := (.seq (.ret (.ix (.loc 1) (.call "_law_draw" (.cons (.loc 0) (.cons (.bi .len (.cons (.loc 1) .nil)) .nil))))) .skip)
def fB_law_gaps : S := (.seq (.asg (.nm 2) (.lst true .nil)) (.seq (.for_ (.nm 3) (.iR1 (.loc 1)) (.seq (.asg (.nm 4) (.ix (.lst false (.cons (.lit (.int 0)) (.cons (.call "_law_draw" (.cons (.loc 0) (.cons (.lit (.int 4)) .nil))) .nil))) (.call "_law_draw" (.cons (.loc 0) (.cons (.lit (.int 2)) .nil))))) (.seq (.ex (.app (.loc 2) (.tup (.cons (.loc 4) (.cons (.ix (.lst false (.cons (.lit (.int 6)) (.cons (.bin .add (.loc 4) (.call "_law_draw" (.cons (.loc 0) (.cons (.bin .sub (.lit (.int 7)) (.loc 4)) .nil)))) .nil))) (.call "_law_draw" (.cons (.loc 0) (.cons (.lit (.int 2)) .nil)))) .nil))))) .skip))) (.seq (.ret (.bi .tuple1 (.cons (.loc 2) .nil))) .skip)))
def fB_law_drawn_house : S := (.seq (.par [7, 8, 9, 10] (.cons (.bin .add (.lit (.int 1)) (.call "_law_draw" (.cons (.loc 0) (.cons (.loc 2) .nil)))) (.cons (.bin .add (.lit (.int 1)) (.call "_law_draw" (.cons (.loc 0) (.cons (.lit (.int 3)) .nil)))) (.cons (.lst true .nil) (.cons (.lst true .nil) .nil))))) (.seq (.for_ (.nm 3) (.iR1 (.loc 8)) (.seq (.ex (.app (.loc 9) (.bi .tuple1 (.cons (.comp false [12] (.nm 12) (.iR1 (.loc 1)) .nop (.ix (.lst false (.cons (.lit (.int 0)) (.cons (.lit (.int 0)) (.cons (.lit (.int 1)) (.cons (.call "_law_draw" (.cons (.loc 0) (.cons (.lit (.int 4)) .nil))) .nil))))) (.call "_law_draw" (.cons (.loc 0) (.cons (.lit (.int 4)) .nil))))) .nil)))) .skip)) (.seq (.for_ (.nm 4) (.iR1 (.loc 7)) (.seq (.for_ (.nm 3) (.iR1 (.loc 8)) (.seq (.ife (.and (.cmp .lt (.bi .len (.cons (.loc 10) .nil)) (.lit (.int 10))) (.cmp .gt (.call "_law_draw" (.cons (.loc 0) (.cons (.lit (.int 4)) .nil))) (.lit (.int 0)))) (.seq (.ex (.app (.loc 10) (.tup (.cons (.loc 4) (.cons (.loc 3) (.cons (.call "_law_draw" (.cons (.loc 0) (.cons (.loc 7) .nil))) (.cons (.call "_law_gaps" (.cons (.loc 0) (.cons (.loc 1) .nil))) .nil))))))) .skip) .skip) .skip)) .skip)) (.seq (.asg (.nm 5) (.bi .tuple1 (.cons (.comp false [4] (.nm 4) (.iR1 (.loc 7)) (.cnd (.cmp .eq (.call "_law_draw" (.cons (.loc 0) (.cons (.lit (.int 2)) .nil))) (.lit (.int 0)))) (.loc 4)) .nil))) (.seq (.asg (.nm 6) (.comp false [4] (.nm 4) (.iR1 (.loc 7)) .nop (.tup (.cons (.loc 4) (.cons (.bin .add (.lit (.int 1)) (.call "_law_draw" (.cons (.loc 0) (.cons (.lit (.int 6)) .nil)))) (.cons (.bin .add (.lit (.int 1)) (.call "_law_draw" (.cons (.loc 0) (.cons (.lit (.int 9)) .nil)))) .nil)))))) (.seq (.asg (.nm 6) (.bi .tuple1 (.cons (.comp false [11] (.nm 11) (.iVal (.loc 6)) (.cnd (.cmp .eq (.call "_law_draw" (.cons (.loc 0) (.cons (.lit (.int 2)) .nil))) (.lit (.int 0)))) (.loc 11)) .nil))) (.seq (.ret (.tup (.cons (.loc 1) (.cons (.loc 7) (.cons (.bi .tuple1 (.cons (.loc 9) .nil)) (.cons (.bi .tuple1 (.cons (.loc 10) .nil)) (.cons (.loc 5) (.cons (.loc 6) .nil)))))))) .skip)))))))
def fB_law_doors : S := (.seq (.ret (.bi .dict1 (.cons (.comp false [2, 3, 4, 5] (.cons (.nm 2) (.cons (.nm 3) (.cons (.nm 4) (.cons (.nm 5) .nil)))) (.iVal (.ix (.loc 0) (.lit (.int 3)))) (.cnd (.cmp .eq (.loc 2) (.loc 1))) (.tup (.cons (.loc 3) (.cons (.tup (.cons (.loc 4) (.cons (.loc 5) .nil))) .nil)))) .nil))) .skip)
def fB_law_deeds : S := (.seq (.asg (.nm 2) (.comp false [4] (.nm 4) (.iVal (.bi (.srt1 false) (.cons (.call "_law_doors" (.cons (.loc 0) (.cons (.loc 1) .nil))) .nil))) .nop (.tup (.cons (.lit (.str "go")) (.cons (.loc 4) .nil))))) (.seq (.asg (.nm 3) (.lsR false false (.lit (.int 0)) (.ix (.loc 0) (.lit (.int 0))))) (.seq (.asg (.nm 2) (.bin .add (.loc 2) (.comp false [5] (.nm 5) (.iVal (.loc 3)) (.cnd (.cmp .isin (.loc 1) (.ix (.loc 0) (.lit (.int 4))))) (.tup (.cons (.lit (.str "file")) (.cons (.loc 5) .nil)))))) (.seq (.ret (.bin .add (.loc 2) (.comp false [5] (.nm 5) (.iVal (.loc 3)) (.cnd (.cmp .isin (.loc 1) (.comp false [6] (.nm 6) (.iVal (.ix (.loc 0) (.lit (.int 5)))) .nop (.ix (.loc 6) (.lit (.int 0)))))) (.tup (.cons (.lit (.str "lift")) (.cons (.loc 5) .nil)))))) .skip))))
def fB_law_to : S := (.seq (.ret (.ite (.cmp .eq (.ix (.loc 2) (.lit (.int 0))) (.lit (.str "go"))) (.ix (.ix (.call "_law_doors" (.cons (.loc 0) (.cons (.loc 1) .nil))) (.ix (.loc 2) (.lit (.int 1)))) (.lit (.int 0))) (.loc 1))) .skip)
def fB_law_laid_row : S := (.seq (.asg (.nm 4) (.tup .nil)) (.seq (.for_ (.nm 5) (.iR1 (.call "_law_draw" (.cons (.loc 0) (.cons (.bin .add (.loc 3) (.lit (.int 1))) .nil)))) (.seq (.asg (.nm 6) (.call "_law_deeds" (.cons (.loc 1) (.cons (.loc 2) .nil)))) (.seq (.ife (.cmp .ne (.loc 6) (.lst false .nil)) (.seq (.asg (.nm 4) (.bin .add (.loc 4) (.tup (.cons (.call "_law_pick" (.cons (.loc 0) (.cons (.loc 6) .nil))) .nil)))) (.seq (.asg (.nm 2) (.call "_law_to" (.cons (.loc 1) (.cons (.loc 2) (.cons (.ix (.loc 4) (.neg (.lit (.int 1)))) .nil))))) .skip)) .skip) .skip))) (.seq (.ret (.loc 4)) .skip)))
def fB_law_round_row : S := (.seq (.par [4, 5, 6] (.cons (.call "_law_laid_row" (.cons (.loc 0) (.cons (.loc 1) (.cons (.loc 2) (.cons (.loc 3) .nil))))) (.cons (.loc 2) (.cons (.tup .nil) .nil)))) (.seq (.for_ (.cons (.nm 7) (.cons (.nm 8) .nil)) (.iEnu (.loc 4)) (.seq (.asg (.nm 5) (.call "_law_to" (.cons (.loc 1) (.cons (.loc 5) (.cons (.loc 8) .nil))))) (.seq (.ife (.cmp .eq (.loc 5) (.loc 2)) (.seq (.asg (.nm 6) (.sl (.loc 4) .nop (.prt (.bin .add (.loc 7) (.lit (.int 1)))))) .skip) .skip) .skip))) (.seq (.ret (.loc 6)) .skip)))
end Hf
end

section
set_option Elab.async false
set_option linter.all false
set_option maxRecDepth 100000
namespace Hf
open PySem Iw
structure Lk (P : Pg) : Prop where
  is_whole : P.lookup ("is_whole" : Str) = some ⟨1, 1, false, f_is_whole⟩
  is_among : P.lookup ("is_among" : Str) = some ⟨3, 3, false, f_is_among⟩
  are_some : P.lookup ("are_some" : Str) = some ⟨3, 3, false, f_are_some⟩
  rises : P.lookup ("rises" : Str) = some ⟨1, 3, false, f_rises⟩
  is_height : P.lookup ("is_height" : Str) = some ⟨1, 1, false, f_is_height⟩
  is_gap : P.lookup ("is_gap" : Str) = some ⟨1, 2, false, f_is_gap⟩
  is_box_by : P.lookup ("is_box_by" : Str) = some ⟨2, 3, false, f_is_box_by⟩
  is_wear : P.lookup ("is_wear" : Str) = some ⟨2, 3, false, f_is_wear⟩
  is_door : P.lookup ("is_door" : Str) = some ⟨4, 5, false, f_is_door⟩
  are_doors : P.lookup ("are_doors" : Str) = some ⟨4, 6, false, f_are_doors⟩
  is_smith : P.lookup ("is_smith" : Str) = some ⟨2, 2, false, f_is_smith⟩
  are_benches : P.lookup ("are_benches" : Str) = some ⟨2, 3, false, f_are_benches⟩
  are_smiths : P.lookup ("are_smiths" : Str) = some ⟨2, 3, false, f_are_smiths⟩
  is_house : P.lookup ("is_house" : Str) = some ⟨1, 8, false, f_is_house⟩
  need_house : P.lookup ("need_house" : Str) = some ⟨1, 1, false, f_need_house⟩
  is_hall : P.lookup ("is_hall" : Str) = some ⟨2, 2, false, f_is_hall⟩
  need_hall : P.lookup ("need_hall" : Str) = some ⟨2, 2, false, f_need_hall⟩
  is_deed : P.lookup ("is_deed" : Str) = some ⟨2, 2, false, f_is_deed⟩
  door_at : P.lookup ("door_at" : Str) = some ⟨3, 5, false, f_door_at⟩
  smith_at : P.lookup ("smith_at" : Str) = some ⟨2, 3, false, f_smith_at⟩
  is_away : P.lookup ("is_away" : Str) = some ⟨3, 3, false, f_is_away⟩
  hall_behind : P.lookup ("hall_behind" : Str) = some ⟨3, 3, false, f_hall_behind⟩
  wear_of : P.lookup ("wear_of" : Str) = some ⟨3, 3, false, f_wear_of⟩
  gap_of : P.lookup ("gap_of" : Str) = some ⟨4, 4, false, f_gap_of⟩
  need_row : P.lookup ("need_row" : Str) = some ⟨2, 3, false, f_need_row⟩
  away_at : P.lookup ("away_at" : Str) = some ⟨3, 5, false, f_away_at⟩
  first_away : P.lookup ("first_away" : Str) = some ⟨3, 3, false, f_first_away⟩
  need_laid : P.lookup ("need_laid" : Str) = some ⟨3, 3, false, f_need_laid⟩
  height_behind : P.lookup ("height_behind" : Str) = some ⟨5, 8, false, f_height_behind⟩
  does_by : P.lookup ("does_by" : Str) = some ⟨3, 6, false, f_does_by⟩
  does : P.lookup ("does" : Str) = some ⟨3, 3, false, f_does⟩
  box_by : P.lookup ("box_by" : Str) = some ⟨1, 6, false, f_box_by⟩
  box_of : P.lookup ("box_of" : Str) = some ⟨3, 3, false, f_box_of⟩
  box_behind : P.lookup ("box_behind" : Str) = some ⟨3, 8, false, f_box_behind⟩
  need_teeth : P.lookup ("need_teeth" : Str) = some ⟨1, 1, false, f_need_teeth⟩
  is_key_by : P.lookup ("is_key_by" : Str) = some ⟨2, 3, false, f_is_key_by⟩
  is_key : P.lookup ("is_key" : Str) = some ⟨2, 2, false, f_is_key⟩
  is_box : P.lookup ("is_box" : Str) = some ⟨2, 2, false, f_is_box⟩
  need_box : P.lookup ("need_box" : Str) = some ⟨2, 2, false, f_need_box⟩
  common_by : P.lookup ("common_by" : Str) = some ⟨2, 7, false, f_common_by⟩
  common : P.lookup ("common" : Str) = some ⟨3, 3, false, f_common⟩
  has_key : P.lookup ("has_key" : Str) = some ⟨2, 5, false, f_has_key⟩
  keys_in : P.lookup ("keys_in" : Str) = some ⟨1, 7, false, f_keys_in⟩
  left_out : P.lookup ("left_out" : Str) = some ⟨3, 5, false, f_left_out⟩
  moved_end : P.lookup ("moved_end" : Str) = some ⟨3, 3, false, f_moved_end⟩
  filled_from : P.lookup ("filled_from" : Str) = some ⟨2, 8, true, f_filled_from⟩
  is_greatest : P.lookup ("is_greatest" : Str) = some ⟨3, 4, false, f_is_greatest⟩
  greatest_by : P.lookup ("greatest_by" : Str) = some ⟨1, 5, false, f_greatest_by⟩
  greatest : P.lookup ("greatest" : Str) = some ⟨2, 3, false, f_greatest⟩
  is_stand : P.lookup ("is_stand" : Str) = some ⟨2, 2, false, f_is_stand⟩
  need_stand : P.lookup ("need_stand" : Str) = some ⟨2, 2, false, f_need_stand⟩
  bar_of : P.lookup ("bar_of" : Str) = some ⟨3, 9, false, f_bar_of⟩
  done_by : P.lookup ("done_by" : Str) = some ⟨3, 8, false, f_done_by⟩
  bar_at : P.lookup ("bar_at" : Str) = some ⟨3, 6, false, f_bar_at⟩
  first_barred : P.lookup ("first_barred" : Str) = some ⟨3, 3, false, f_first_barred⟩
  behind_by : P.lookup ("behind_by" : Str) = some ⟨3, 4, false, f_behind_by⟩
  behind : P.lookup ("behind" : Str) = some ⟨3, 3, false, f_behind⟩
  halls_of : P.lookup ("halls_of" : Str) = some ⟨3, 5, false, f_halls_of⟩
  ends_in : P.lookup ("ends_in" : Str) = some ⟨3, 3, false, f_ends_in⟩
  coins_by : P.lookup ("coins_by" : Str) = some ⟨3, 5, false, f_coins_by⟩
  coins_of : P.lookup ("coins_of" : Str) = some ⟨3, 3, false, f_coins_of⟩
  whole_box : P.lookup ("whole_box" : Str) = some ⟨1, 1, false, f_whole_box⟩
  led : P.lookup ("led" : Str) = some ⟨2, 4, false, f_led⟩
  parts : P.lookup ("parts" : Str) = some ⟨4, 14, false, f_parts⟩
  need_key : P.lookup ("need_key" : Str) = some ⟨2, 2, false, f_need_key⟩
  need_round : P.lookup ("need_round" : Str) = some ⟨3, 3, false, f_need_round⟩
  need_times : P.lookup ("need_times" : Str) = some ⟨1, 1, false, f_need_times⟩
  often_by : P.lookup ("often_by" : Str) = some ⟨2, 3, false, f_often_by⟩
  how_often : P.lookup ("how_often" : Str) = some ⟨4, 4, false, f_how_often⟩
  key_far : P.lookup ("key_far" : Str) = some ⟨5, 8, false, f_key_far⟩
  put_behind : P.lookup ("put_behind" : Str) = some ⟨2, 6, false, f_put_behind⟩
  box_far : P.lookup ("box_far" : Str) = some ⟨4, 7, false, f_box_far⟩
structure LkD (P : Pg) : Prop where
  law_cell_at : P.lookup ("_law_cell_at" : Str) = some ⟨2, 2, false, fD_law_cell_at⟩
  law_pen : P.lookup ("_law_pen" : Str) = some ⟨1, 1, true, fD_law_pen⟩
  law_draw : P.lookup ("_law_draw" : Str) = some ⟨2, 4, false, fD_law_draw⟩
structure LkK (P : Pg) : Prop where
  law_key : P.lookup ("_law_key" : Str) = some ⟨2, 3, false, fK_law_key⟩
structure LkB (P : Pg) : Prop where
  law_pick : P.lookup ("_law_pick" : Str) = some ⟨2, 2, false, fB_law_pick⟩
  law_gaps : P.lookup ("_law_gaps" : Str) = some ⟨2, 5, false, fB_law_gaps⟩
  law_drawn_house : P.lookup ("_law_drawn_house" : Str) = some ⟨3, 13, false, fB_law_drawn_house⟩
  law_doors : P.lookup ("_law_doors" : Str) = some ⟨2, 6, true, fB_law_doors⟩
  law_deeds : P.lookup ("_law_deeds" : Str) = some ⟨2, 7, false, fB_law_deeds⟩
  law_to : P.lookup ("_law_to" : Str) = some ⟨3, 3, false, fB_law_to⟩
  law_laid_row : P.lookup ("_law_laid_row" : Str) = some ⟨4, 7, false, fB_law_laid_row⟩
  law_round_row : P.lookup ("_law_round_row" : Str) = some ⟨4, 9, false, fB_law_round_row⟩
end Hf
end

section
set_option Elab.async false
set_option linter.all false
set_option maxRecDepth 100000
/-! houses: what the program's looks say of good ones -/
namespace Hf
open PySem Iw
/-- a door: from, letter, to, gaps -/
structure Dr where
  a : Int
  l : Int
  b : Int
  bx : List (Int × Int)
structure Ho where
  t : Int
  n : Int
  ws : List (List Int)
  ds : List Dr
  bs : List Int
  ss : List (Int × Int × Int)
def kD (k : List Int) : PyData := .tuple (k.map .int)
def gD (g : Int × Int) : PyData := .tuple [.int g.1, .int g.2]
def bD (b : List (Int × Int)) : PyData := .tuple (b.map gD)
def Dr.d (x : Dr) : PyData := .tuple [.int x.a, .int x.l, .int x.b, bD x.bx]
def sD (s : Int × Int × Int) : PyData := .tuple [.int s.1, .int s.2.1, .int s.2.2]
def Ho.d (H : Ho) : PyData := .tuple [.int H.t, .int H.n, .tuple (H.ws.map kD), .tuple (H.ds.map Dr.d), kD H.bs, .tuple (H.ss.map sD)]
def KeyOk (t : Int) (k : List Int) : Prop := (k.length : Int) = t ∧ ∀ x ∈ k, 0 ≤ x ∧ x ≤ 6
def BoxOk (t : Int) (b : List (Int × Int)) : Prop := (b.length : Int) = t ∧ ∀ g ∈ b, 0 ≤ g.1 ∧ g.1 ≤ g.2 ∧ g.2 ≤ 6
section
variable {P : Pg} (L : Lk P) {Q : PV → Hs → Prop} {h : Hs} {n : Nat}
include L
theorem is_whole_ok (i : Int) : callN P (n + 1) "is_whole" [.d (.int i)] h = .ok (.d (.bool true)) h := by
  refine Sat.eq ?_
  rw [call0 L.is_whole rfl]
  simp [f_is_whole, PyData.isInt, PyData.isBool]
theorem is_among_ok {i a b : Int} (h1 : a ≤ i) (h2 : i ≤ b) : callN P (n + 2) "is_among" [.d (.int i), .d (.int a), .d (.int b)] h = .ok (.d (.bool true)) h := by
  refine Sat.eq ?_
  rw [call0 L.is_among rfl]
  simp [f_is_among, is_whole_ok L, h1, h2]
theorem are_some_ok {xs : List PyData} {a b : Int} (h1 : a ≤ xs.length) (h2 : xs.length ≤ b) : callN P (n + 1) "are_some" [.d (.tuple xs), .d (.int a), .d (.int b)] h = .ok (.d (.bool true)) h := by
  refine Sat.eq ?_
  rw [call0 L.are_some rfl]
  simp [f_are_some, PyData.isTuple, h1, h2]
theorem is_height_ok {i : Int} (h1 : 0 ≤ i) (h2 : i ≤ 6) : callN P (n + 3) "is_height" [.d (.int i)] h = .ok (.d (.bool true)) h := by
  refine Sat.eq ?_
  rw [call0 L.is_height rfl]
  simp [f_is_height, is_among_ok L h1 h2]
theorem is_key_by_S {t : Int} {k : List Int} (hk : KeyOk t k) (hl : k.length ≤ line) (q : Q (.d (.bool true)) h) : Sat (callN P (n + 4) "is_key_by" [.d (.int t), .d (kD k)] h) Q := by
  rw [call0 L.is_key_by rfl]
  obtain ⟨h1, h2⟩ := hk
  simp [f_is_key_by, kD, are_some_ok L (xs := k.map PyData.int) (a := t) (b := t) (by simp [h1]) (by simp [h1])]
  refine sat_all (by simpa using hl) ?_ (fun bs e e2 => by rw [e]; simpa using q)
  intro x hx
  obtain ⟨i, hi, rfl⟩ : ∃ i, i ∈ k ∧ x = .d (.int i) := by simpa [eq_comm] using hx
  obtain ⟨q1, q2⟩ := h2 i hi
  simp [Iw.wipe, asg, is_height_ok L q1 q2]
theorem is_key_by_ok {t : Int} {k : List Int} (hk : KeyOk t k) (hl : k.length ≤ line) : callN P (n + 4) "is_key_by" [.d (.int t), .d (kD k)] h = .ok (.d (.bool true)) h := Sat.eq (is_key_by_S L hk hl ⟨rfl, rfl⟩)
theorem is_gap_S {g : Int × Int} (h1 : 0 ≤ g.1) (h2 : g.1 ≤ g.2) (h3 : g.2 ≤ 6) (q : Q (.d (.bool true)) h) : Sat (callN P (n + 4) "is_gap" [.d (gD g)] h) Q := by
  rw [call0 L.is_gap rfl]
  simp [f_is_gap, gD, are_some_ok L (xs := [.int g.1, .int g.2]) (a := 2) (b := 2) (by simp) (by simp)]
  refine sat_all (show 2 ≤ line by decide) ?_ ?_
  · intro x hx
    have : ∃ i, (0 ≤ i ∧ i ≤ 6) ∧ x = .d (.int i) := by
      rcases List.mem_cons.mp hx with e | hx
      · exact ⟨g.1, ⟨h1, by omega⟩, e⟩
      · rcases List.mem_cons.mp hx with e | hx
        · exact ⟨g.2, ⟨by omega, h3⟩, e⟩
        · cases hx
    obtain ⟨i, ⟨q1, q2⟩, rfl⟩ := this
    simp [Iw.wipe, asg, is_height_ok L q1 q2]
  · intro bs e e2
    simp [L2.atI, L2.ixN, h2, q, e2]
theorem is_gap_ok {g : Int × Int} (h1 : 0 ≤ g.1) (h2 : g.1 ≤ g.2) (h3 : g.2 ≤ 6) : callN P (n + 4) "is_gap" [.d (gD g)] h = .ok (.d (.bool true)) h := Sat.eq (is_gap_S L h1 h2 h3 ⟨rfl, rfl⟩)
theorem is_box_by_S {t : Int} {b : List (Int × Int)} (hb : BoxOk t b) (hl : b.length ≤ line) (q : Q (.d (.bool true)) h) : Sat (callN P (n + 5) "is_box_by" [.d (.int t), .d (bD b)] h) Q := by
  rw [call0 L.is_box_by rfl]
  obtain ⟨h1, h2⟩ := hb
  simp [f_is_box_by, bD, are_some_ok L (xs := b.map gD) (a := t) (b := t) (by simp [h1]) (by simp [h1])]
  refine sat_all (by simpa using hl) ?_ (fun bs e e2 => by rw [e]; simpa using q)
  intro x hx
  obtain ⟨g, hg, rfl⟩ := List.mem_map.mp hx
  obtain ⟨q1, q2, q3⟩ := h2 g hg
  simp [Iw.wipe, asg, is_gap_ok L q1 q2 q3]
theorem is_box_by_ok {t : Int} {b : List (Int × Int)} (hb : BoxOk t b) (hl : b.length ≤ line) : callN P (n + 5) "is_box_by" [.d (.int t), .d (bD b)] h = .ok (.d (.bool true)) h := Sat.eq (is_box_by_S L hb hl ⟨rfl, rfl⟩)
theorem rises_S {ds : List PyData} {t : Bool} (hr : RisesD ds) (hl : ds.length ≤ line) (q : Q (.d (.bool true)) h) : Sat (callN P (n + 1) "rises" [.d (cond t (.tuple ds) (.list ds))] h) Q := by
  rw [call0 L.rises rfl]
  have go : Sat (compGo (compSt [1, 2] (.cons (.nm 1) (.cons (.nm 2) .nil)) (den (callN P n) h.length .nop).t (den (callN P n) h.length (.cmp .lt (.loc 1) (.loc 2))).e [some (.d (cond t (.tuple ds) (.list ds))), none, none]) (.fx (pairs ds ds.tail)) h) fun ys h2 => Sat (lstOf false ys h2) fun v h3 => ∃ bs, (getL h3 v).bind bools = some bs ∧ Q (.d (.bool (bs.all id))) (h3.take h.length) := by
    refine sat_all (Nat.le_trans (pairs_le _ _) hl) ?_ (fun bs e e2 => by rw [e]; simpa using q)
    intro p hp
    obtain ⟨x, y, rfl, h1, h2⟩ := rises_pairs hr p hp
    simp [Iw.wipe, asg, c_ltD h1, h2]
  cases t with
  | true => simpa [f_rises, optI] using go
  | false => simpa [f_rises, optI] using go
theorem is_wear_S {t : Int} {w : List Int} (h1 : (w.length : Int) = t) (h2 : ∀ x ∈ w, 0 ≤ x ∧ x ≤ 3) (hl : w.length ≤ line) (q : Q (.d (.bool true)) h) : Sat (callN P (n + 3) "is_wear" [.d (.int t), .d (kD w)] h) Q := by
  rw [call0 L.is_wear rfl]
  simp [f_is_wear, kD, are_some_ok L (xs := w.map PyData.int) (a := t) (b := t) (by simp [h1]) (by simp [h1])]
  refine sat_all (by simpa using hl) ?_ (fun bs e e2 => by rw [e]; simpa using q)
  intro x hx
  obtain ⟨i, hi, rfl⟩ := List.mem_map.mp hx
  obtain ⟨q1, q2⟩ := h2 i hi
  simp [Iw.wipe, asg, is_among_ok L q1 q2]
structure DrOk (t n k : Int) (x : Dr) : Prop where
  a : 0 ≤ x.a ∧ x.a < n
  l : 0 ≤ x.l ∧ x.l < k
  b : 0 ≤ x.b ∧ x.b < n
  bx : BoxOk t x.bx
  ll : x.bx.length ≤ line
theorem is_door_S {t m k : Int} {x : Dr} (hx : DrOk t m k x) (q : Q (.d (.bool true)) h) : Sat (callN P (n + 6) "is_door" [.d (.int t), .d (.int m), .d (.int k), .d x.d] h) Q := by
  rw [call0 L.is_door rfl]
  simp [f_is_door, Dr.d, L2.atI, L2.ixN, are_some_ok L (xs := [.int x.a, .int x.l, .int x.b, bD x.bx]) (a := 4) (b := 4) (by simp) (by simp)]
  refine sat_all (show 2 ≤ line by decide) ?_ ?_
  · intro v hv
    have : ∃ i, (0 ≤ i ∧ i ≤ m - 1) ∧ v = .d (.int i) := by
      rcases List.mem_cons.mp hv with e | hv
      · exact ⟨x.a, ⟨hx.a.1, by have := hx.a.2; omega⟩, e⟩
      · rcases List.mem_cons.mp hv with e | hv
        · exact ⟨x.b, ⟨hx.b.1, by have := hx.b.2; omega⟩, e⟩
        · cases hv
    obtain ⟨i, ⟨q1, q2⟩, rfl⟩ := this
    simp [Iw.wipe, asg, is_among_ok L q1 q2]
  · intro bs e e2
    simp [e2, is_among_ok L hx.l.1 (show x.l ≤ k - 1 by have := hx.l.2; omega), is_box_by_ok L hx.bx hx.ll, q]
def pairI (x : Dr) : PyData := .tuple [.int x.a, .int x.l]
theorem are_doors_S {t m k : Int} {ds : List Dr} (h0 : ds.length ≤ 10) (hd : ∀ x ∈ ds, DrOk t m k x) (hr : RisesD (ds.map pairI)) (q : Q (.d (.bool true)) h) : Sat (callN P (n + 7) "are_doors" [.d (.int t), .d (.int m), .d (.int k), .d (.tuple (ds.map Dr.d))] h) Q := by
  have hl : ds.length ≤ line := Nat.le_trans h0 (by decide)
  rw [call0 L.are_doors rfl]
  simp [f_are_doors, are_some_ok L (xs := ds.map Dr.d) (a := 0) (b := 10) (by omega) (by simp; omega)]
  refine sat_all (by simpa using hl) ?_ ?_
  · intro v hv
    obtain ⟨x, hx, rfl⟩ := List.mem_map.mp hv
    simp [Iw.wipe, asg]
    exact is_door_S L (hd x hx) (by simp)
  · intro bs e e2
    simp [e2]
    refine sat_map (fun v => match v with | .d (.tuple xs) => .d (.tuple (xs.take 2)) | v => v) ?_ ?_
    · intro v hv
      obtain ⟨x, hx, rfl⟩ := List.mem_map.mp hv
      simp [Iw.wipe, asg, Dr.d, cut, HT.sIx, optI]
    · rw [sat_lstF (ds := ds.map pairI) (by rw [List.map_map, List.map_map]; rfl)]
      refine ⟨by simpa using hl, rises_S L (t := false) hr (by simpa using hl) (by simpa using q)⟩
structure SmOk (m : Int) (s : Int × Int × Int) : Prop where
  a : 0 ≤ s.1 ∧ s.1 < m
  l : 1 ≤ s.2.1 ∧ s.2.1 ≤ 6
  c : 1 ≤ s.2.2 ∧ s.2.2 ≤ 9
theorem is_smith_S {m : Int} {s : Int × Int × Int} (hs : SmOk m s) (q : Q (.d (.bool true)) h) : Sat (callN P (n + 3) "is_smith" [.d (.int m), .d (sD s)] h) Q := by
  rw [call0 L.is_smith rfl]
  simp [f_is_smith, sD, L2.atI, L2.ixN, are_some_ok L (xs := [.int s.1, .int s.2.1, .int s.2.2]) (a := 3) (b := 3) (by simp) (by simp), is_among_ok L hs.a.1 (show s.1 ≤ m - 1 by have := hs.a.2; omega), is_among_ok L hs.l.1 hs.l.2, is_among_ok L hs.c.1 hs.c.2, q]
theorem are_benches_S {m : Int} {bs : List Int} (hb : ∀ x ∈ bs, 0 ≤ x ∧ x < m) (hr : RisesD (bs.map .int)) (hl : bs.length ≤ line) (q : Q (.d (.bool true)) h) : Sat (callN P (n + 3) "are_benches" [.d (.int m), .d (kD bs)] h) Q := by
  rw [call0 L.are_benches rfl]
  simp [f_are_benches, kD, PyData.isTuple]
  refine sat_all (by simpa using hl) ?_ ?_
  · intro v hv
    obtain ⟨i, hi, rfl⟩ := List.mem_map.mp hv
    obtain ⟨q1, q2⟩ := hb i hi
    simp [Iw.wipe, asg, is_among_ok L q1 (show i ≤ m - 1 by omega)]
  · intro cs e e2
    simp [e2]
    exact rises_S L (t := true) hr (by simpa using hl) (by simpa using q)
theorem are_smiths_S {m : Int} {ss : List (Int × Int × Int)} (hs : ∀ s ∈ ss, SmOk m s) (hr : RisesD (ss.map fun s => .int s.1)) (hl : ss.length ≤ line) (q : Q (.d (.bool true)) h) : Sat (callN P (n + 4) "are_smiths" [.d (.int m), .d (.tuple (ss.map sD))] h) Q := by
  rw [call0 L.are_smiths rfl]
  simp [f_are_smiths, PyData.isTuple]
  refine sat_all (by simpa using hl) ?_ ?_
  · intro v hv
    obtain ⟨x, hx, rfl⟩ := List.mem_map.mp hv
    simp [Iw.wipe, asg]
    exact is_smith_S L (hs x hx) (by simp)
  · intro bs e e2
    simp [e2]
    refine sat_map (fun v => match v with | .d (.tuple (x :: _)) => .d x | v => v) ?_ ?_
    · intro v hv
      obtain ⟨x, hx, rfl⟩ := List.mem_map.mp hv
      simp [Iw.wipe, asg, sD, L2.atI, L2.ixN]
    · rw [sat_lstF (ds := ss.map fun s => .int s.1) (by rw [List.map_map, List.map_map]; rfl)]
      refine ⟨by simpa using hl, rises_S L (t := false) hr (by simpa using hl) (by simpa using q)⟩
structure HoOk (H : Ho) : Prop where
  t : 1 ≤ H.t ∧ H.t ≤ 3
  n : 1 ≤ H.n ∧ H.n ≤ 6
  w0 : 1 ≤ H.ws.length ∧ H.ws.length ≤ 6
  w : ∀ w ∈ H.ws, (w.length : Int) = H.t ∧ ∀ x ∈ w, 0 ≤ x ∧ x ≤ 3
  d0 : H.ds.length ≤ 10
  d : ∀ x ∈ H.ds, DrOk H.t H.n H.ws.length x
  dr : RisesD (H.ds.map pairI)
  b : ∀ x ∈ H.bs, 0 ≤ x ∧ x < H.n
  br : RisesD (H.bs.map .int)
  bl : H.bs.length ≤ line
  s : ∀ s ∈ H.ss, SmOk H.n s
  sr : RisesD (H.ss.map fun s => .int s.1)
  sl : H.ss.length ≤ line
theorem is_house_S {H : Ho} (ok : HoOk H) (q : Q (.d (.bool true)) h) : Sat (callN P (n + 8) "is_house" [.d H.d] h) Q := by
  rw [call0 L.is_house rfl]
  simp [f_is_house, Ho.d, L2.atI, L2.ixN, are_some_ok L (xs := [.int H.t, .int H.n, .tuple (H.ws.map kD), .tuple (H.ds.map Dr.d), kD H.bs, .tuple (H.ss.map sD)]) (a := 6) (b := 6) (by simp) (by simp), is_among_ok L ok.t.1 ok.t.2, is_among_ok L ok.n.1 ok.n.2, asg,
    are_some_ok L (xs := H.ws.map kD) (a := 1) (b := 6) (by simp; have := ok.w0.1; omega) (by simp; have := ok.w0.2; omega)]
  refine sat_all (by simp; exact Nat.le_trans ok.w0.2 (by decide)) ?_ ?_
  · intro v hv
    obtain ⟨w, hw, rfl⟩ := List.mem_map.mp hv
    obtain ⟨q1, q2⟩ := ok.w w hw
    simp [Iw.wipe, asg]
    exact is_wear_S L q1 q2 (by have := ok.t.2; have : line = 16777216 := rfl; omega) (by simp)
  · intro bs e e2
    simp [e2]
    refine are_doors_S L ok.d0 ok.d ok.dr ?_
    simp
    refine are_benches_S L ok.b ok.br ok.bl ?_
    simp
    exact are_smiths_S L ok.s ok.sr ok.sl (by simpa using q)
end
end Hf
end

section
set_option Elab.async false
set_option linter.all false
set_option maxRecDepth 100000
/-! deeds and rows -/
namespace Hf
open PySem Iw
inductive De where
  | go (l : Int)
  | file (t : Int)
  | lift (t : Int)
def De.d : De → PyData
  | .go l => .tuple [.str "go", .int l]
  | .file t => .tuple [.str "file", .int t]
  | .lift t => .tuple [.str "lift", .int t]
@[simp] theorem gg : ((Str.ofString "go") == (Str.ofString "go")) = true := by decide
@[simp] theorem gf : ((Str.ofString "go") == (Str.ofString "file")) = false := by decide
@[simp] theorem fg : ((Str.ofString "file") == (Str.ofString "go")) = false := by decide
@[simp] theorem ff : ((Str.ofString "file") == (Str.ofString "file")) = true := by decide
@[simp] theorem lg : ((Str.ofString "lift") == (Str.ofString "go")) = false := by decide
@[simp] theorem lf : ((Str.ofString "lift") == (Str.ofString "file")) = false := by decide
@[simp] theorem c_eqII {a b c d : Int} {h : Hs} : cmpop .eq (.d (.tuple [.int a, .int b])) (.d (.tuple [.int c, .int d])) h = some (decide (a = c) && decide (b = d)) := by
  rw [cmp_d (by decide)]
  show (if true = true then some (PyData.eqv _ _) else none) = _
  rw [if_pos rfl]
  show some ((a == c) && ((b == d) && true)) = _
  rw [Bool.and_true]
  rfl
/-- the first door of that hall and letter, with its place -/
def fdI (a l : Int) : Nat → List Dr → Option (Nat × Dr)
  | _, [] => none
  | k, x :: r => if x.a = a ∧ x.l = l then some (k, x) else fdI a l (k + 1) r
theorem fdI_get {a l : Int} : ∀ {ds : List Dr} {k i : Nat} {x : Dr}, fdI a l k ds = some (i, x) → k ≤ i ∧ ds[i - k]? = some x ∧ x.a = a ∧ x.l = l
  | [], _, _, _, e => nomatch e
  | y :: ds, k, i, x, e => by
    unfold fdI at e
    split at e
    · rename_i c
      cases e
      exact ⟨Nat.le_refl _, by simp, c⟩
    · obtain ⟨h1, h2, h3⟩ := fdI_get e
      refine ⟨by omega, ?_, h3⟩
      rw [show i - k = (i - (k + 1)) + 1 by omega]
      simpa using h2
def Ho.dr (H : Ho) (a l : Int) : Option (Nat × Dr) := fdI a l 0 H.ds
def fsm (a : Int) : List (Int × Int × Int) → Option (Int × Int × Int)
  | [] => none
  | s :: r => if s.1 = a then some s else fsm a r
def Ho.sm (H : Ho) (a : Int) : Option (Int × Int × Int) := fsm a H.ss
def Ho.away (H : Ho) (a : Int) : De → Bool
  | .go l => (H.dr a l).isNone
  | .file _ => !decide (a ∈ H.bs)
  | .lift _ => (H.sm a).isNone
def Ho.gap (H : Ho) (a : Int) (e : De) (j : Nat) : Int × Int := match e with
  | .go l => match H.dr a l with
    | some (_, x) => x.bx.getD j (0, 0)
    | none => (0, 0)
  | .file t => if t = j then (1, 6) else (0, 6)
  | .lift t => if t = j then (0, match H.sm a with | some s => s.2.1 - 1 | none => 0) else (0, 6)
def Ho.wear (H : Ho) (e : De) (j : Nat) : Int := match e with
  | .go l => (H.ws.getD l.toNat []).getD j 0
  | .file t => if t = j then 1 else 0
  | .lift t => if t = j then -1 else 0
def Ho.to (H : Ho) (a : Int) : De → Int
  | .go l => match H.dr a l with
    | some (_, x) => x.b
    | none => a
  | _ => a
/-- a deed of the house -/
def DeOk (H : Ho) : De → Prop
  | .go l => 0 ≤ l ∧ l < H.ws.length
  | .file t => 0 ≤ t ∧ t < H.t
  | .lift t => 0 ≤ t ∧ t < H.t
section
variable {P : Pg} (L : Lk P) {Q : PV → Hs → Prop} {h : Hs} {n : Nat}
include L
theorem need_house_S {H : Ho} (ok : HoOk H) (q : Q (.d .none) h) : Sat (callN P (n + 9) "need_house" [.d H.d] h) Q := by
  rw [call0 L.need_house rfl]
  simp [f_need_house]
  exact is_house_S L ok (by simpa using q)
theorem is_hall_S {H : Ho} {a : Int} (h1 : 0 ≤ a) (h2 : a < H.n) (q : Q (.d (.bool true)) h) : Sat (callN P (n + 3) "is_hall" [.d H.d, .d (.int a)] h) Q := by
  rw [call0 L.is_hall rfl]
  simp [f_is_hall, Ho.d, L2.atI, L2.ixN, is_among_ok L h1 (show a ≤ H.n - 1 by omega), q]
def stD (a : Int) (k : List Int) : PyData := .tuple [.int a, kD k]
theorem is_stand_S {H : Ho} {a : Int} {k : List Int} (h1 : 0 ≤ a) (h2 : a < H.n) (hk : KeyOk H.t k) (hl : k.length ≤ line) (q : Q (.d (.bool true)) h) : Sat (callN P (n + 5) "is_stand" [.d H.d, .d (stD a k)] h) Q := by
  rw [call0 L.is_stand rfl]
  simp [f_is_stand, stD, L2.atI, L2.ixN, are_some_ok L (xs := [.int a, kD k]) (a := 2) (b := 2) (by simp) (by simp)]
  refine is_hall_S L h1 h2 ?_
  simp [Ho.d, L2.atI, L2.ixN]
  exact is_key_by_S L hk hl (by simpa using q)
theorem need_stand_S {H : Ho} {a : Int} {k : List Int} (ok : HoOk H) (h1 : 0 ≤ a) (h2 : a < H.n) (hk : KeyOk H.t k) (hl : k.length ≤ line) (q : Q (.d .none) h) : Sat (callN P (n + 10) "need_stand" [.d H.d, .d (stD a k)] h) Q := by
  rw [call0 L.need_stand rfl]
  simp [f_need_stand]
  refine need_house_S L ok ?_
  exact is_stand_S L h1 h2 hk hl (by simpa using q)
theorem is_deed_S {H : Ho} {e : De} (he : DeOk H e) (q : Q (.d (.bool true)) h) : Sat (callN P (n + 3) "is_deed" [.d H.d, .d e.d] h) Q := by
  rw [call0 L.is_deed rfl]
  have nin : ∀ x : Str, (x = "go" ∨ x = "file" ∨ x = "lift") → cmpop .nin (.d (.str x)) (.d (.tuple [.str "go", .str "file", .str "lift"])) h = some false := fun x hx => by
    rcases hx with rfl | rfl | rfl <;> rfl
  cases e with
  | go l => simp [f_is_deed, De.d, L2.atI, L2.ixN, are_some_ok L (xs := [.str "go", .int l]) (a := 2) (b := 2) (by simp) (by simp), PyData.isStr, nin, Ho.d, is_among_ok L he.1 (show l ≤ (H.ws.length : Int) - 1 by have := he.2; omega), q]
  | file t => simp [f_is_deed, De.d, L2.atI, L2.ixN, are_some_ok L (xs := [.str "file", .int t]) (a := 2) (b := 2) (by simp) (by simp), PyData.isStr, nin, Ho.d, is_among_ok L he.1 (show t ≤ H.t - 1 by have := he.2; omega), q]
  | lift t => simp [f_is_deed, De.d, L2.atI, L2.ixN, are_some_ok L (xs := [.str "lift", .int t]) (a := 2) (b := 2) (by simp) (by simp), PyData.isStr, nin, Ho.d, is_among_ok L he.1 (show t ≤ H.t - 1 by have := he.2; omega), q]
def rwD (r : List De) : PyData := .tuple (r.map De.d)
theorem need_row_S {H : Ho} {r : List De} (hr : ∀ e ∈ r, DeOk H e) (hl : r.length ≤ line) (q : Q (.d .none) h) : Sat (callN P (n + 4) "need_row" [.d H.d, .d (rwD r)] h) Q := by
  rw [call0 L.need_row rfl]
  simp [f_need_row, rwD, PyData.isTuple]
  refine sat_all (by simpa using hl) ?_ ?_
  · intro v hv
    obtain ⟨x, hx, rfl⟩ := List.mem_map.mp hv
    simp [Iw.wipe, asg]
    exact is_deed_S L (hr x hx) (by simp)
  · intro bs e e2
    simp [e2]
    exact q
theorem door_at_S {H : Ho} {a l : Int} (q : Q (match H.dr a l with | some (i, _) => .d (.int i) | none => .d .none) h) : Sat (callN P (n + 1) "door_at" [.d H.d, .d (.int a), .d (.int l)] h) Q := by
  rw [call0 L.door_at rfl]
  simp [f_door_at, Ho.d, L2.atI, L2.ixN]
  have go : ∀ (ds : List Dr) (k : Nat) (u v : Option PV) {F : Fl × Sg → Hs → Prop}, (match fdI a l k ds with
      | some (i, _) => ∀ σ, F (.rt (.d (.int i)), σ) h
      | none => ∀ u v, F (.nx, [some (.d H.d), some (.d (.int a)), some (.d (.int l)), u, v]) h) →
      Sat (forF (.cons (.nm 3) (.cons (.nm 4) .nil)) (evS (callN P n) h.length (.seq (.ife (.cmp .eq (.sl (.loc 4) .nop (.prt (.lit (.int 2)))) (.tup (.cons (.loc 1) (.cons (.loc 2) .nil)))) (.seq (.ret (.loc 3)) .skip) .skip) .skip)) (enums k (ds.map Dr.d)) [some (.d H.d), some (.d (.int a)), some (.d (.int l)), u, v] h) F := by
    intro ds
    induction ds with
    | nil => intro k u v F q; exact forF_nil.mpr (q u v)
    | cons x ds ih =>
      intro k u v F q
      refine forF_cons.mpr ⟨[some (.d H.d), some (.d (.int a)), some (.d (.int l)), some (.d (.int k)), some (.d x.d)], by simp [asg], ?_⟩
      unfold fdI at q
      by_cases c : x.a = a ∧ x.l = l
      · rw [if_pos c] at q
        simp [Dr.d, cut, HT.sIx, optI, c.1, c.2]
        exact q _
      · rw [if_neg c] at q
        have c' : (decide (x.a = a) && decide (x.l = l)) = false := by simpa using c
        simp [Dr.d, cut, HT.sIx, optI, c']
        exact ih (k + 1) _ _ q
  refine go H.ds 0 none none ?_
  unfold Ho.dr at q
  cases e : fdI a l 0 H.ds with
  | none => rw [e] at q; intro u v; simpa using q
  | some p => rw [e] at q; intro σ; simpa using q
theorem smith_at_S {H : Ho} {a : Int} (q : Q (match H.sm a with | some s => .d (sD s) | none => .d .none) h) : Sat (callN P (n + 1) "smith_at" [.d H.d, .d (.int a)] h) Q := by
  rw [call0 L.smith_at rfl]
  simp [f_smith_at, Ho.d, L2.atI, L2.ixN]
  have go : ∀ (ss : List (Int × Int × Int)) (u : Option PV) {F : Fl × Sg → Hs → Prop}, (match fsm a ss with
      | some s => ∀ σ, F (.rt (.d (sD s)), σ) h
      | none => ∀ u, F (.nx, [some (.d H.d), some (.d (.int a)), u]) h) →
      Sat (forF (.nm 2) (evS (callN P n) h.length (.seq (.ife (.cmp .eq (.ix (.loc 2) (.lit (.int 0))) (.loc 1)) (.seq (.ret (.loc 2)) .skip) .skip) .skip)) (ss.map (PV.d ∘ sD)) [some (.d H.d), some (.d (.int a)), u] h) F := by
    intro ss
    induction ss with
    | nil => intro u F q; exact forF_nil.mpr (q u)
    | cons x ss ih =>
      intro u F q
      refine forF_cons.mpr ⟨[some (.d H.d), some (.d (.int a)), some (.d (sD x))], by simp [asg], ?_⟩
      unfold fsm at q
      by_cases c : x.1 = a
      · rw [if_pos c] at q
        simp [sD, L2.atI, L2.ixN, c]
        have := q [some (.d H.d), some (.d (.int a)), some (.d (sD x))]
        simpa [sD, c] using this
      · rw [if_neg c] at q
        simp [sD, L2.atI, L2.ixN, c]
        exact ih _ q
  refine go H.ss none ?_
  unfold Ho.sm at q
  cases e : fsm a H.ss with
  | none => rw [e] at q; intro u; simpa using q
  | some p => rw [e] at q; intro σ; simpa using q
end
end Hf
end

section
set_option Elab.async false
set_option linter.all false
set_option maxRecDepth 100000
/-! what a deed does -/
namespace Hf
open PySem Iw
theorem atI_nat {α : Type} {xs : List α} {i : Nat} {x : α} (e : xs[i]? = some x) : L2.atI xs (i : Int) = some x := by
  have hi := (List.getElem?_eq_some_iff.mp e).1
  unfold L2.atI L2.ixN
  simp only [show (0 : Int) ≤ (i : Int) by omega, if_true, show (i : Int) < (xs.length : Int) by omega, Int.toNat_natCast]
  exact e
theorem atI_int {α : Type} {xs : List α} {i : Int} {x : α} (h0 : 0 ≤ i) (e : xs[i.toNat]? = some x) : L2.atI xs i = some x := by
  have := atI_nat e
  rwa [Int.toNat_of_nonneg h0] at this
theorem plain_ints : ∀ xs : List Int, PyData.plainAll (xs.map PyData.int) = true
  | [] => rfl
  | x :: xs => by show (true && PyData.plainAll (xs.map PyData.int)) = true; rw [plain_ints xs]; rfl
theorem any_ints (a : Int) : ∀ xs : List Int, ((xs.map PyData.int).any fun y => PyData.eqv y (.int a)) = decide (a ∈ xs)
  | [] => by simp
  | x :: xs => by
    rw [List.map_cons, List.any_cons, any_ints a xs]
    show ((x == a) || decide (a ∈ xs)) = _
    by_cases e : x = a
    · subst e; simp
    · have : (x == a) = false := by simpa using e
      rw [this]
      have e' : ¬ a = x := fun z => e z.symm
      simp [e']
theorem nin_ints {a : Int} {xs : List Int} {h : Hs} : cmpop .nin (.d (.int a)) (.d (kD xs)) h = some (!decide (a ∈ xs)) := by
  show (isIn1 h (.d (.int a)) (.d (.tuple (xs.map PyData.int)))).map (!·) = _
  have e : isIn1 h (.d (.int a)) (.d (.tuple (xs.map PyData.int))) = some (decide (a ∈ xs)) := by
    show (if (true && (PyData.plainAll (xs.map PyData.int) && decide (0 ≤ deep))) = true then some ((xs.map PyData.int).any fun y => PyData.eqv y (.int a)) else none) = _
    rw [plain_ints, any_ints]
    rfl
  rw [e]; rfl
section
variable {H : Ho} {Q : PV → Hs → Prop} {h : Hs}
@[simp] theorem ho_0 : Sat (ixv1 (.d H.d) (.d (.int 0)) h) Q ↔ Q (.d (.int H.t)) h := by
  simp [Ho.d, L2.atI, L2.ixN]
@[simp] theorem ho_1 : Sat (ixv1 (.d H.d) (.d (.int 1)) h) Q ↔ Q (.d (.int H.n)) h := by
  simp [Ho.d, L2.atI, L2.ixN]
@[simp] theorem ho_2 : Sat (ixv1 (.d H.d) (.d (.int 2)) h) Q ↔ Q (.d (.tuple (H.ws.map kD))) h := by
  simp [Ho.d, L2.atI, L2.ixN]
@[simp] theorem ho_3 : Sat (ixv1 (.d H.d) (.d (.int 3)) h) Q ↔ Q (.d (.tuple (H.ds.map Dr.d))) h := by
  simp [Ho.d, L2.atI, L2.ixN]
@[simp] theorem ho_4 : Sat (ixv1 (.d H.d) (.d (.int 4)) h) Q ↔ Q (.d (kD H.bs)) h := by
  simp [Ho.d, L2.atI, L2.ixN]
@[simp] theorem ho_5 : Sat (ixv1 (.d H.d) (.d (.int 5)) h) Q ↔ Q (.d (.tuple (H.ss.map sD))) h := by
  simp [Ho.d, L2.atI, L2.ixN]
@[simp] theorem dr_0 {x : Dr} : Sat (ixv1 (.d x.d) (.d (.int 0)) h) Q ↔ Q (.d (.int x.a)) h := by
  simp [Dr.d, L2.atI, L2.ixN]
@[simp] theorem dr_1 {x : Dr} : Sat (ixv1 (.d x.d) (.d (.int 1)) h) Q ↔ Q (.d (.int x.l)) h := by
  simp [Dr.d, L2.atI, L2.ixN]
@[simp] theorem dr_2 {x : Dr} : Sat (ixv1 (.d x.d) (.d (.int 2)) h) Q ↔ Q (.d (.int x.b)) h := by
  simp [Dr.d, L2.atI, L2.ixN]
@[simp] theorem dr_3 {x : Dr} : Sat (ixv1 (.d x.d) (.d (.int 3)) h) Q ↔ Q (.d (bD x.bx)) h := by
  simp [Dr.d, L2.atI, L2.ixN]
@[simp] theorem de_g0 {l : Int} : Sat (ixv1 (.d (De.go l).d) (.d (.int 0)) h) Q ↔ Q (.d (.str "go")) h := by
  simp [De.d, L2.atI, L2.ixN]
@[simp] theorem de_g1 {l : Int} : Sat (ixv1 (.d (De.go l).d) (.d (.int 1)) h) Q ↔ Q (.d (.int l)) h := by
  simp [De.d, L2.atI, L2.ixN]
@[simp] theorem de_f0 {l : Int} : Sat (ixv1 (.d (De.file l).d) (.d (.int 0)) h) Q ↔ Q (.d (.str "file")) h := by
  simp [De.d, L2.atI, L2.ixN]
@[simp] theorem de_f1 {l : Int} : Sat (ixv1 (.d (De.file l).d) (.d (.int 1)) h) Q ↔ Q (.d (.int l)) h := by
  simp [De.d, L2.atI, L2.ixN]
@[simp] theorem de_l0 {l : Int} : Sat (ixv1 (.d (De.lift l).d) (.d (.int 0)) h) Q ↔ Q (.d (.str "lift")) h := by
  simp [De.d, L2.atI, L2.ixN]
@[simp] theorem de_l1 {l : Int} : Sat (ixv1 (.d (De.lift l).d) (.d (.int 1)) h) Q ↔ Q (.d (.int l)) h := by
  simp [De.d, L2.atI, L2.ixN]
@[simp] theorem sm_1 {s : Int × Int × Int} : Sat (ixv1 (.d (sD s)) (.d (.int 1)) h) Q ↔ Q (.d (.int s.2.1)) h := by
  simp [sD, L2.atI, L2.ixN]
@[simp] theorem sm_0 {s : Int × Int × Int} : Sat (ixv1 (.d (sD s)) (.d (.int 0)) h) Q ↔ Q (.d (.int s.1)) h := by
  simp [sD, L2.atI, L2.ixN]
end
section
variable {P : Pg} (L : Lk P) {Q : PV → Hs → Prop} {h : Hs} {n : Nat}
include L
theorem is_away_S {H : Ho} {a : Int} {e : De} (q : Q (.d (.bool (H.away a e))) h) : Sat (callN P (n + 2) "is_away" [.d H.d, .d (.int a), .d e.d] h) Q := by
  rw [call0 L.is_away rfl]
  cases e with
  | go l =>
    simp [f_is_away, De.d, L2.atI, L2.ixN]
    refine door_at_S L ?_
    have q : Q (.d (.bool ((H.dr a l).isNone))) h := q
    cases e : H.dr a l with
    | none => rw [e] at q; simpa [isNonV] using q
    | some p => rw [e] at q; simpa [isNonV] using q
  | file t =>
    have q : Q (.d (.bool (!decide (a ∈ H.bs)))) h := q
    simp [f_is_away, De.d, L2.atI, L2.ixN, nin_ints]
    by_cases c : a ∈ H.bs <;> simp_all
  | lift t =>
    simp [f_is_away, De.d, L2.atI, L2.ixN]
    refine smith_at_S L ?_
    have q : Q (.d (.bool ((H.sm a).isNone))) h := q
    cases e : H.sm a with
    | none => rw [e] at q; simpa [isNonV] using q
    | some p => rw [e] at q; simpa [isNonV, sD] using q
theorem hall_behind_S {H : Ho} {a : Int} {e : De} (he : H.away a e = false) (q : Q (.d (.int (H.to a e))) h) : Sat (callN P (n + 2) "hall_behind" [.d H.d, .d (.int a), .d e.d] h) Q := by
  rw [call0 L.hall_behind rfl]
  cases e with
  | go l =>
    have he : (H.dr a l).isNone = false := he
    have q : Q (.d (.int (match H.dr a l with
      | some (_, x) => x.b
      | none => a))) h := q
    cases e : H.dr a l with
    | none => rw [e] at he; cases he
    | some p =>
      obtain ⟨i, x⟩ := p
      rw [e] at q
      obtain ⟨_, g, _⟩ := fdI_get e
      have ei : (H.ds.map Dr.d)[i]? = some x.d := by rw [List.getElem?_map, show H.ds[i]? = some x from g]; rfl
      simp [f_hall_behind, De.d, L2.atI, L2.ixN]
      refine door_at_S (H := H) L ?_
      rw [e]
      simp
      rw [show L2.atI (H.ds.map Dr.d) (i : Int) = some x.d from atI_nat ei]
      simpa [Dr.d, L2.atI, L2.ixN] using q
  | file t => simpa [f_hall_behind, De.d, L2.atI, L2.ixN] using (show Q (.d (.int a)) h from q)
  | lift t => simpa [f_hall_behind, De.d, L2.atI, L2.ixN] using (show Q (.d (.int a)) h from q)
end
end Hf
end

section
set_option Elab.async false
set_option linter.all false
set_option maxRecDepth 100000
/-! bars and rows -/
namespace Hf
open PySem Iw
def Ho.bar (H : Ho) (a : Int) (e : De) : Nat → List Int → Option (Bool × Nat)
  | _, [] => none
  | j, x :: r => if x < (H.gap a e j).1 then some (false, j) else if (H.gap a e j).2 < x then some (true, j) else Ho.bar H a e (j + 1) r
def Ho.step (H : Ho) (e : De) : Nat → List Int → List Int
  | _, [] => []
  | j, x :: r => (if x - H.wear e j > 0 then x - H.wear e j else 0) :: Ho.step H e (j + 1) r
theorem step_len (H : Ho) (e : De) : ∀ (k : List Int) (j : Nat), (H.step e j k).length = k.length
  | [], _ => rfl
  | _ :: k, j => congrArg (· + 1) (step_len H e k (j + 1))
def Ho.bars (H : Ho) : Int → List Int → Nat → List De → Option (Nat × Bool × Nat)
  | _, _, _, [] => none
  | a, k, i, e :: r => match H.bar a e 0 k with
    | some (b, j) => some (i, b, j)
    | none => Ho.bars H (H.to a e) (H.step e 0 k) (i + 1) r
def Ho.ends (H : Ho) : Int → List Int → List De → Int × List Int
  | a, k, [] => (a, k)
  | a, k, e :: r => Ho.ends H (H.to a e) (H.step e 0 k) r
def Laid (H : Ho) : Int → List De → Prop
  | _, [] => True
  | a, e :: r => DeOk H e ∧ H.away a e = false ∧ Laid H (H.to a e) r
theorem Laid.ok {H : Ho} : ∀ {r : List De} {a : Int}, Laid H a r → ∀ e ∈ r, DeOk H e
  | e :: r, a, l, d, hd => by
    rcases List.mem_cons.mp hd with z | hd
    · subst z; exact l.1
    · exact Laid.ok l.2.2 d hd
def bwD (b : Bool) (j : Nat) : PyData := .tuple [.str (cond b "high" "low"), .int j]
section
variable {P : Pg} (L : Lk P) {Q : PV → Hs → Prop} {h : Hs} {n : Nat}
include L
theorem wear_of_S {H : Ho} {e : De} {j : Nat} (ok : HoOk H) (he : DeOk H e) (hj : (j : Int) < H.t) (q : Q (.d (.int (H.wear e j))) h) : Sat (callN P (n + 1) "wear_of" [.d H.d, .d e.d, .d (.int j)] h) Q := by
  rw [call0 L.wear_of rfl]
  cases e with
  | go l =>
    have h1 : l.toNat < H.ws.length := by have h1 := he.1; have h2 := he.2; omega
    have ew : H.ws[l.toNat]? = some H.ws[l.toNat] := by simp [h1]
    have hw := ok.w _ (List.getElem_mem h1)
    have h2 : j < (H.ws[l.toNat]).length := by have := hw.1; omega
    have e1 : L2.atI (H.ws.map kD) l = some (kD H.ws[l.toNat]) := atI_int he.1 (by rw [List.getElem?_map, ew]; rfl)
    have e2 : L2.atI ((H.ws[l.toNat]).map PyData.int) (j : Int) = some (.int (H.ws[l.toNat])[j]) := atI_nat (by rw [List.getElem?_map, List.getElem?_eq_getElem h2]; rfl)
    have ev : H.wear (.go l) j = (H.ws[l.toNat])[j] := by
      show (H.ws.getD l.toNat []).getD j 0 = _
      simp [List.getD, ew, h2]
    rw [ev] at q
    simp [f_wear_of]
    rw [show L2.atI (H.ws.map kD) l = _ from e1]
    simp [kD]
    rw [e2]
    simpa using q
  | file t =>
    have q : Q (.d (.int (if t = j then 1 else 0))) h := q
    simp [f_wear_of]
    by_cases c : t = (j : Int) <;> simp_all
  | lift t =>
    have q : Q (.d (.int (if t = j then -1 else 0))) h := q
    simp [f_wear_of]
    by_cases c : t = (j : Int) <;> simp_all
theorem gap_of_S {H : Ho} {a : Int} {e : De} {j : Nat} (ok : HoOk H) (he : H.away a e = false) (hj : (j : Int) < H.t) (q : Q (.d (gD (H.gap a e j))) h) : Sat (callN P (n + 2) "gap_of" [.d H.d, .d (.int a), .d e.d, .d (.int j)] h) Q := by
  rw [call0 L.gap_of rfl]
  cases e with
  | go l =>
    have he : (H.dr a l).isNone = false := he
    have q : Q (.d (gD (match H.dr a l with
      | some (_, x) => x.bx.getD j (0, 0)
      | none => (0, 0)))) h := q
    cases e : H.dr a l with
    | none => rw [e] at he; cases he
    | some p =>
      obtain ⟨i, x⟩ := p
      rw [e] at q
      obtain ⟨_, g, _⟩ := fdI_get e
      have gi : H.ds[i]? = some x := g
      have hx := ok.d x (List.mem_of_getElem? gi)
      have ei : (H.ds.map Dr.d)[i]? = some x.d := by rw [List.getElem?_map, gi]; rfl
      have hb : j < x.bx.length := by have := hx.bx.1; omega
      have eb : L2.atI (x.bx.map gD) (j : Int) = some (gD (x.bx.getD j (0, 0))) := atI_nat (by rw [List.getElem?_map, List.getElem?_eq_getElem hb]; simp [List.getD, hb])
      simp [f_gap_of]
      refine door_at_S (H := H) L ?_
      rw [e]
      simp
      rw [show L2.atI (H.ds.map Dr.d) (i : Int) = some x.d from atI_nat ei]
      simp [bD]
      rw [eb]
      simpa using q
  | file t =>
    have q : Q (.d (gD (if t = j then (1, 6) else (0, 6)))) h := q
    simp [f_gap_of]
    by_cases c : t = (j : Int) <;> simp_all [gD]
  | lift t =>
    have he : (H.sm a).isNone = false := he
    have q : Q (.d (gD (if t = j then (0, match H.sm a with | some s => s.2.1 - 1 | none => 0) else (0, 6)))) h := q
    cases e : H.sm a with
    | none => rw [e] at he; cases he
    | some s =>
      rw [e] at q
      simp [f_gap_of]
      by_cases c : t = (j : Int)
      · simp_all
        refine smith_at_S L ?_
        rw [e]
        simpa [gD] using q
      · simp_all [gD]
theorem bar_of_S {H : Ho} {a : Int} {e : De} {k : List Int} (ok : HoOk H) (he : H.away a e = false) (hk : (k.length : Int) = H.t) (q : Q (match H.bar a e 0 k with | none => .d .none | some (b, j) => .d (bwD b j)) h) : Sat (callN P (n + 3) "bar_of" [.d H.d, .d (stD a k), .d e.d] h) Q := by
  rw [call0 L.bar_of rfl]
  simp [f_bar_of, stD, asg]
  refine is_away_S L ?_
  simp [he, kD]
  have go : ∀ (r : List Int) (j : Nat) (u v w z : Option PV) {F : Fl × Sg → Hs → Prop}, (j : Int) + r.length ≤ H.t → (match H.bar a e j r with
      | some (b, j) => ∀ σ, F (.rt (.d (bwD b j)), σ) h
      | none => ∀ u v w z, F (.nx, [some (.d H.d), some (.d (stD a k)), some (.d e.d), some (.d (.int a)), some (.d (kD k)), u, v, w, z]) h) →
      Sat (forF (.cons (.nm 5) (.cons (.nm 6) .nil)) (evS (callN P (n + 2)) h.length (.seq (.asg (.cons (.nm 7) (.cons (.nm 8) .nil)) (.call "gap_of" (.cons (.loc 0) (.cons (.loc 3) (.cons (.loc 2) (.cons (.loc 5) .nil)))))) (.seq (.ife (.cmp .lt (.loc 6) (.loc 7)) (.seq (.ret (.tup (.cons (.lit (.str "low")) (.cons (.loc 5) .nil)))) .skip) .skip) (.seq (.ife (.cmp .gt (.loc 6) (.loc 8)) (.seq (.ret (.tup (.cons (.lit (.str "high")) (.cons (.loc 5) .nil)))) .skip) .skip) .skip)))) (enums j (r.map PyData.int)) [some (.d H.d), some (.d (stD a k)), some (.d e.d), some (.d (.int a)), some (.d (kD k)), u, v, w, z] h) F := by
    intro r
    induction r with
    | nil => intro j u v w z F hj q; exact forF_nil.mpr (q u v w z)
    | cons x r ih =>
      intro j u v w z F hj q
      refine forF_cons.mpr ⟨[some (.d H.d), some (.d (stD a k)), some (.d e.d), some (.d (.int a)), some (.d (kD k)), some (.d (.int j)), some (.d (.int x)), w, z], by simp [asg], ?_⟩
      simp
      refine gap_of_S L ok he (by simp at hj; omega) ?_
      unfold Ho.bar at q
      by_cases c : x < (H.gap a e j).1
      · rw [if_pos c] at q
        simp [gD, asg, c]
        exact q _
      · rw [if_neg c] at q
        by_cases c2 : (H.gap a e j).2 < x
        · rw [if_pos c2] at q
          simp [gD, asg, c, c2]
          exact q _
        · rw [if_neg c2] at q
          simp [gD, asg, c, c2]
          exact ih (j + 1) _ _ _ _ (by simp at hj; omega) q
  refine go k 0 none none none none (by omega) ?_
  cases e : H.bar a _ 0 k with
  | none => rw [e] at q; intro u v w z; simpa using q
  | some p => rw [e] at q; obtain ⟨b, j⟩ := p; intro σ; simpa using q
end
end Hf
end

section
set_option Elab.async false
set_option linter.all false
set_option maxRecDepth 100000
namespace Hf
open PySem Iw
section
variable {P : Pg} (L : Lk P) {Q : PV → Hs → Prop} {h : Hs} {n : Nat}
include L
/-- what done_by makes of one pair -/
def stepV (H : Ho) (e : De) : PV → PV
  | .d (.tuple [.int j, .int x]) => .d (.int (if x - H.wear e j.toNat > 0 then x - H.wear e j.toNat else 0))
  | v => v
omit L in
theorem step_map (H : Ho) (e : De) : ∀ (k : List Int) (j : Nat), (enums j (k.map PyData.int)).map (stepV H e) = ((H.step e j k).map PyData.int).map PV.d
  | [], _ => rfl
  | x :: k, j => by
    show stepV H e (.d (.tuple [.int j, .int x])) :: (enums (j + 1) (k.map PyData.int)).map (stepV H e) = _
    rw [step_map H e k (j + 1)]
    rfl
omit L in
theorem enums_mem : ∀ (k : List Int) (j : Nat) (v : PV), v ∈ enums j (k.map PyData.int) → ∃ (i : Nat) (x : Int), v = .d (.tuple [.int i, .int x]) ∧ i < j + k.length
  | [], j, v, hv => by simp [enums] at hv
  | x :: k, j, v, hv => by
    have hv : v ∈ .d (.tuple [.int j, .int x]) :: enums (j + 1) (k.map PyData.int) := hv
    rcases List.mem_cons.mp hv with e | hv
    · exact ⟨j, x, e, by simp⟩
    · obtain ⟨i, y, e, hi⟩ := enums_mem k (j + 1) v hv
      exact ⟨i, y, e, by simp; omega⟩
theorem done_by_S {H : Ho} {a : Int} {e : De} {k : List Int} (ok : HoOk H) (he : H.away a e = false) (hd : DeOk H e) (hk : (k.length : Int) = H.t) (q : Q (.d (stD (H.to a e) (H.step e 0 k))) h) : Sat (callN P (n + 3) "done_by" [.d H.d, .d (stD a k), .d e.d] h) Q := by
  have kl : k.length ≤ line := by have := ok.t.2; have : line = 16777216 := rfl; omega
  rw [call0 L.done_by rfl]
  simp [f_done_by, stD, asg, kD]
  refine sat_map (stepV H e) ?_ ?_
  · intro v hv
    obtain ⟨i, x, rfl, hi⟩ := enums_mem k 0 v hv
    simp [Iw.wipe, asg]
    refine wear_of_S L ok hd (by omega) ?_
    simp [stepV]
  · rw [step_map, sat_lstF (ds := (H.step e 0 k).map PyData.int) rfl]
    refine ⟨by rw [List.length_map, step_len]; exact kl, ?_⟩
    simp
    refine ⟨by rw [step_len]; exact kl, ?_⟩
    refine hall_behind_S L he ?_
    simpa [stD, kD] using q
theorem bar_at_S {H : Ho} {a : Int} {k : List Int} {row : List De} (ok : HoOk H) (hl : Laid H a row) (hk : (k.length : Int) = H.t) (q : Q (match H.bars a k 0 row with | none => .d .none | some (i, b, j) => .d (.tuple [.int i, .str (cond b "high" "low"), .int j])) h) : Sat (callN P (n + 4) "bar_at" [.d H.d, .d (stD a k), .d (rwD row)] h) Q := by
  rw [call0 L.bar_at rfl]
  simp [f_bar_at, rwD]
  have go : ∀ (r : List De) (a : Int) (k : List Int) (i : Nat) (u v w : Option PV) {F : Fl × Sg → Hs → Prop}, Laid H a r → (k.length : Int) = H.t → (match H.bars a k i r with
      | some (i, b, j) => ∀ σ, F (.rt (.d (.tuple [.int i, .str (cond b "high" "low"), .int j])), σ) h
      | none => ∀ s u v w, F (.nx, [some (.d H.d), some s, some (.d (rwD row)), u, v, w]) h) →
      Sat (forF (.cons (.nm 3) (.cons (.nm 4) .nil)) (evS (callN P (n + 3)) h.length (.seq (.asg (.nm 5) (.call "bar_of" (.cons (.loc 0) (.cons (.loc 1) (.cons (.loc 4) .nil))))) (.seq (.ife (.notNon (.loc 5)) (.seq (.ret (.bin .add (.tup (.cons (.loc 3) .nil)) (.loc 5))) .skip) .skip) (.seq (.asg (.nm 1) (.call "done_by" (.cons (.loc 0) (.cons (.loc 1) (.cons (.loc 4) .nil))))) .skip)))) (enums i (r.map De.d)) [some (.d H.d), some (.d (stD a k)), some (.d (rwD row)), u, v, w] h) F := by
    intro r
    induction r with
    | nil => intro a k i u v w F hl hk q; exact forF_nil.mpr (q _ u v w)
    | cons e r ih =>
      intro a k i u v w F hl hk q
      refine forF_cons.mpr ⟨[some (.d H.d), some (.d (stD a k)), some (.d (rwD row)), some (.d (.int i)), some (.d e.d), w], by simp [asg], ?_⟩
      simp
      refine bar_of_S L ok hl.2.1 hk ?_
      unfold Ho.bars at q
      cases eb : H.bar a e 0 k with
      | some p =>
        obtain ⟨b, j⟩ := p
        rw [eb] at q
        simp [asg, isNonV, bwD]
        exact ⟨by decide, q _⟩
      | none =>
        rw [eb] at q
        simp [asg, isNonV]
        refine done_by_S L ok hl.2.1 hl.1 hk ?_
        exact ih _ _ (i + 1) _ _ _ hl.2.2 (by rw [step_len]; exact hk) q
  refine go row a k 0 none none none hl hk ?_
  cases e : H.bars a k 0 row with
  | none => rw [e] at q; intro s u v w; simpa using q
  | some p => rw [e] at q; obtain ⟨i, b, j⟩ := p; intro σ; simpa using q
theorem first_barred_S {H : Ho} {a : Int} {k : List Int} {row : List De} (ok : HoOk H) (h1 : 0 ≤ a) (h2 : a < H.n) (hl : Laid H a row) (hr : row.length ≤ line) (hk : KeyOk H.t k) (q : Q (match H.bars a k 0 row with | none => .d .none | some (i, b, j) => .d (.tuple [.int i, .str (cond b "high" "low"), .int j])) h) : Sat (callN P (n + 11) "first_barred" [.d H.d, .d (stD a k), .d (rwD row)] h) Q := by
  have kl : k.length ≤ line := by have := ok.t.2; have := hk.1; have : line = 16777216 := rfl; omega
  rw [call0 L.first_barred rfl]
  simp [f_first_barred]
  refine need_stand_S L ok h1 h2 hk kl ?_
  refine need_row_S L hl.ok hr ?_
  refine bar_at_S L ok hl hk.1 ?_
  cases e : H.bars a k 0 row with
  | none => rw [e] at q; simpa using q
  | some p => rw [e] at q; obtain ⟨i, b, j⟩ := p; simpa using q
theorem behind_by_S {H : Ho} {a : Int} {k : List Int} {row : List De} (ok : HoOk H) (hl : Laid H a row) (hk : (k.length : Int) = H.t) (q : Q (.d (stD (H.ends a k row).1 (H.ends a k row).2)) h) : Sat (callN P (n + 4) "behind_by" [.d H.d, .d (stD a k), .d (rwD row)] h) Q := by
  rw [call0 L.behind_by rfl]
  simp [f_behind_by, rwD]
  have go : ∀ (r : List De) (a : Int) (k : List Int) (u : Option PV) {F : Fl × Sg → Hs → Prop}, Laid H a r → (k.length : Int) = H.t → (∀ u, F (.nx, [some (.d H.d), some (.d (stD (H.ends a k r).1 (H.ends a k r).2)), some (.d (rwD row)), u]) h) →
      Sat (forF (.nm 3) (evS (callN P (n + 3)) h.length (.seq (.asg (.nm 1) (.call "done_by" (.cons (.loc 0) (.cons (.loc 1) (.cons (.loc 3) .nil))))) .skip)) (r.map (PV.d ∘ De.d)) [some (.d H.d), some (.d (stD a k)), some (.d (rwD row)), u] h) F := by
    intro r
    induction r with
    | nil => intro a k u F hl hk q; exact forF_nil.mpr (q u)
    | cons e r ih =>
      intro a k u F hl hk q
      refine forF_cons.mpr ⟨[some (.d H.d), some (.d (stD a k)), some (.d (rwD row)), some (.d e.d)], by simp [asg], ?_⟩
      simp
      refine done_by_S L ok hl.2.1 hl.1 hk ?_
      simp [asg]
      exact ih _ _ _ hl.2.2 (by rw [step_len]; exact hk) q
  refine go row a k none hl hk ?_
  intro u
  simpa using q
theorem behind_S {H : Ho} {a : Int} {k : List Int} {row : List De} (ok : HoOk H) (h1 : 0 ≤ a) (h2 : a < H.n) (hl : Laid H a row) (hr : row.length ≤ line) (hk : KeyOk H.t k) (hb : H.bars a k 0 row = none) (q : Q (.d (stD (H.ends a k row).1 (H.ends a k row).2)) h) : Sat (callN P (n + 12) "behind" [.d H.d, .d (stD a k), .d (rwD row)] h) Q := by
  rw [call0 L.behind rfl]
  simp [f_behind]
  refine first_barred_S L ok h1 h2 hl hr hk ?_
  rw [hb]
  simp [isNonV]
  exact behind_by_S L ok hl hk.1 (by simpa using q)
end
end Hf
end

section
set_option Elab.async false
set_option linter.all false
set_option maxRecDepth 100000
/-! the pen -/
namespace Hf
open PySem Iw
def penL (a b c : Int) : Ob := .lst [.d (.int a), .d (.int b), .d (.int c)]
/-- the pen at n, with so many draws ahead of it at least -/
def PenAt (h : Hs) (n B : Nat) : Prop := ∃ a b c : Int, h[n]? = some (penL a b c) ∧ 0 ≤ a ∧ 0 ≤ b ∧ b < 1000000007 ∧ 0 ≤ c ∧ c + B ≤ 1099511627776
/-- all else is as it was -/
structure Fr (n : Nat) (h h' : Hs) : Prop where
  len : h'.length = h.length
  oth : ∀ j, j ≠ n → h'[j]? = h[j]?
theorem Fr.refl {n : Nat} {h : Hs} : Fr n h h := ⟨rfl, fun _ _ => rfl⟩
theorem Fr.trans {n : Nat} {h h1 h2 : Hs} (a : Fr n h h1) (b : Fr n h1 h2) : Fr n h h2 := ⟨b.len.trans a.len, fun j hj => (b.oth j hj).trans (a.oth j hj)⟩
theorem PenAt.less {h : Hs} {n B B' : Nat} (p : PenAt h n B) (e : B' ≤ B) : PenAt h n B' := by
  obtain ⟨a, b, c, h1, h2, h3, h4, h5, h6⟩ := p
  exact ⟨a, b, c, h1, h2, h3, h4, h5, by omega⟩
theorem PenAt.lt {h : Hs} {n B : Nat} (p : PenAt h n B) : n < h.length := by
  obtain ⟨a, b, c, h1, _⟩ := p
  exact (List.getElem?_eq_some_iff.mp h1).1
theorem fr_set {n : Nat} {h : Hs} {o : Ob} : Fr n h (h.set n o) := ⟨by simp, fun j hj => by rw [List.getElem?_set_ne (Ne.symm hj)]⟩
section
variable {Q : PV → Hs → Prop} {h : Hs}
@[simp] theorem lst0 : Sat (lstOf false [] h) Q ↔ Q (.d (.list [])) h :=
  (sat_lstF (ds := []) rfl).trans ⟨fun q => q.2, fun q => ⟨(by decide : 0 ≤ line), q⟩⟩
@[simp] theorem lst2 {a b : PyData} : Sat (lstOf false [.d a, .d b] h) Q ↔ Q (.d (.list [a, b])) h :=
  (sat_lstF (ds := [a, b]) rfl).trans ⟨fun q => q.2, fun q => ⟨(by decide : 2 ≤ line), q⟩⟩
@[simp] theorem lst3 {a b c : PyData} : Sat (lstOf false [.d a, .d b, .d c] h) Q ↔ Q (.d (.list [a, b, c])) h :=
  (sat_lstF (ds := [a, b, c]) rfl).trans ⟨fun q => q.2, fun q => ⟨(by decide : 3 ≤ line), q⟩⟩
end
section
variable {P : Pg} (D : LkD P) {Q : PV → Hs → Prop} {h : Hs} {n i : Nat}
omit D in
theorem mul_ok {x y : Int} (h : -(2 ^ 64) < x ∧ x < 2 ^ 64) : mulOk x y = true := by
  unfold mulOk
  exact decide_eq_true (.inl h)
include D
theorem draw_S {m : Int} {B : Nat} (hp : PenAt h n (B + 1)) (h1 : 0 < m) (h2 : m < 18446744073709551616) (q : ∀ d h', 0 ≤ d → d < m → Fr n h h' → PenAt h' n B → Q (.d (.int d)) h') : Sat (callN P (i + 1) "_law_draw" [.ref n, .d (.int m)] h) Q := by
  obtain ⟨a, b, c, e, ha, hb, hb2, hc, hB⟩ := hp
  have hn := (List.getElem?_eq_some_iff.mp e).1
  have e : h[n]? = some (.lst [.d (.int a), .d (.int b), .d (.int c)]) := e
  have es : ∀ o, (h.set n o)[n]? = some o := fun o => List.getElem?_set_self hn
  have tk : ∀ o, (h.set n o).take h.length = h.set n o := fun o => List.take_of_length_le (by simp)
  have tk2 : ∀ h' : Hs, h'.length = h.length → h'.take h.length = h' := fun h' e => List.take_of_length_le (by omega)
  have m0 : m ≠ 0 := by omega
  have mn : m.natAbs < 18446744073709551616 := by omega
  rw [call0 D.law_draw rfl]
  by_cases c1 : 0 < a
  · simp [fD_law_draw, ix_ref e, L2.atI, L2.ixN, c1, m0, mn, setv_ref e (show L2.ixN 3 0 = some 0 from rfl), tk, asg]
    refine q _ _ (Int.fmod_nonneg_of_pos _ h1) (Int.fmod_lt_of_pos _ h1) fr_set ⟨a.fdiv m, b, c, es _, Int.fdiv_nonneg (by omega) (by omega), hb, hb2, hc, by omega⟩
  · have hc1 : (0 : Int) ≤ c + 1 := by omega
    have hbig : c + 1 ≤ 1099511627776 := by omega
    have k1 : mulOk 17 (c + 1) = true := mul_ok (by decide)
    have k2 : mulOk 2 (c + 1) = true := mul_ok (by decide)
    have k3 : mulOk (b + 17 * (c + 1)) (69621 + 2 * (c + 1)) = true := mul_ok (by omega)
    have k4 : ∀ x : Int, mulOk (x.fmod 2147483647) (x.fmod 2147483647) = true := fun x => by
      have g1 := Int.fmod_nonneg_of_pos x (show (0 : Int) < 2147483647 by decide)
      have g2 := Int.fmod_lt_of_pos x (show (0 : Int) < 2147483647 by decide)
      exact mul_ok (by omega)
    have k5 : mulOk 40503 (c + 1) = true := mul_ok (by decide)
    have k6 : ∀ x : Int, mulOk (x.fmod 2147483629) 48271 = true := fun x => by
      have g1 := Int.fmod_nonneg_of_pos x (show (0 : Int) < 2147483629 by decide)
      have g2 := Int.fmod_lt_of_pos x (show (0 : Int) < 2147483629 by decide)
      exact mul_ok (by omega)
    simp [fD_law_draw, ix_ref e, L2.atI, L2.ixN, c1, m0, mn, setv_ref e (show L2.ixN 3 2 = some 2 from rfl), tk, ix_ref (es _), asg, k1, k2, k3, k4, k5, k6]
    refine q _ _ (Int.fmod_nonneg_of_pos _ h1) (Int.fmod_lt_of_pos _ h1) fr_set ⟨a, b, c + 1, es _, ha, hb, hb2, hc1, by omega⟩
omit D in
/-- a call that hands back a list of its own, kept -/
theorem call1 {P : Pg} {Q : PV → Hs → Prop} {h : Hs} {f : Str} {a b n : Nat} {s : S} {vs : List PV} (hl : P.lookup f = some ⟨a, b, true, s⟩) (hn : vs.length = a) (q : Sat (evS (callN P n) h.length s (vs.map some ++ List.replicate (b - vs.length) none) h) fun p h' => match p.1 with
    | .rt v => Sat (handK h' h.length v) Q
    | _ => False) : Sat (callN P (n + 1) f vs h) Q := by
  have e : callN P (n + 1) f vs h = fin true h.length (evS (callN P n) h.length s (vs.map some ++ List.replicate (b - vs.length) none) h) := by
    show (match P.lookup f with
      | none => (R.bad : R PV)
      | some fd => if vs.length = fd.np then fin fd.kp h.length (evS (callN P n) h.length fd.body (vs.map some ++ List.replicate (fd.ns - vs.length) none) h) else .bad) = _
    rw [hl]
    exact if_pos hn
  rw [e]
  obtain ⟨p, h', e2, q⟩ := q
  rw [e2]
  obtain ⟨fl, σ⟩ := p
  cases fl with
  | rt v => exact q
  | nx => exact q.elim
  | bk => exact q.elim
  | ct => exact q.elim
theorem pen_S {x : Int} (q : ∀ a b : Int, 0 ≤ a → 0 ≤ b → b < 1000000007 → Q (.ref h.length) (h ++ [penL a b 0])) : Sat (callN P (i + 1) "_law_pen" [.d (.int x)] h) Q := by
  refine call1 D.law_pen rfl ?_
  simp [fD_law_pen]
  refine ⟨by decide, ?_⟩
  have e : handK (h ++ [penL (if (x - 1000000000000000000 > 0) then x - 1000000000000000000 else 0) (x.fmod 1000000007) 0]) h.length (.ref h.length) = .ok (.ref h.length) (h ++ [penL (if (x - 1000000000000000000 > 0) then x - 1000000000000000000 else 0) (x.fmod 1000000007) 0]) := by
    unfold handK
    simp [penL, keepOb, keepV]
  have q2 := q _ _ (show (0 : Int) ≤ (if (x - 1000000000000000000 > 0) then x - 1000000000000000000 else 0) by split <;> omega) (Int.fmod_nonneg_of_pos x (show (0 : Int) < 1000000007 by decide)) (Int.fmod_lt_of_pos x (by decide))
  have fin := sat_ok.mpr q2
  rw [← e] at fin
  simpa [penL] using fin
end
end Hf
end

section
set_option Elab.async false
set_option linter.all false
set_option maxRecDepth 100000
/-! comprehensions that draw; boxes, keys -/
namespace Hf
open PySem Iw
inductive All2 {α β : Type} (Y : α → β → Prop) : List α → List β → Prop
  | nil : All2 Y [] []
  | cons {x : α} {y : β} {xs : List α} {ys : List β} : Y x y → All2 Y xs ys → All2 Y (x :: xs) (y :: ys)
theorem All2.len {α β : Type} {Y : α → β → Prop} {xs : List α} {ys : List β} (a : All2 Y xs ys) : ys.length = xs.length := by
  induction a with
  | nil => rfl
  | cons _ _ ih => simp [ih]
section
variable {α : Type} {h : Hs} {n : Nat} {Ql : List PV → Hs → Prop}
theorem compF_pen {st : PV → Hs → R (Option PV)} {Y : PV → Option PV → Prop} {c : Nat} : ∀ {xs : List PV} {B : Nat} {h : Hs}, (∀ x ∈ xs, ∀ B h', Fr n h h' → PenAt h' n (B + c) → Sat (st x h') fun o h2 => Y x o ∧ Fr n h' h2 ∧ PenAt h2 n B) → PenAt h n (B + xs.length * c) →
    Sat (compF st xs h) fun ys h' => ∃ os, All2 Y xs os ∧ ys = os.filterMap id ∧ Fr n h h' ∧ PenAt h' n B
  | [], B, h, _, hp => by
    refine sat_ok.mpr ⟨[], .nil, rfl, .refl, ?_⟩
    simpa using hp
  | x :: xs, B, h, hs, hp => by
    unfold compF
    have e : (x :: xs).length * c = xs.length * c + c := by rw [List.length_cons, Nat.add_mul, Nat.one_mul]
    rw [sat_bind]
    refine (hs x List.mem_cons_self (B + xs.length * c) h .refl (by rw [Nat.add_assoc, ← e]; exact hp)).mono fun o h1 ⟨y1, f1, p1⟩ => ?_
    rw [sat_bind]
    refine (compF_pen (xs := xs) (fun z hz B h' f p => hs z (List.mem_cons_of_mem _ hz) B h' (f1.trans f) p) p1).mono fun ys h2 ⟨os, a, e2, f2, p2⟩ => ?_
    refine sat_ok.mpr ⟨o :: os, .cons y1 a, ?_, f1.trans f2, p2⟩
    rw [e2]
    cases o <;> rfl
/-- a comprehension whose turns draw c times at most -/
theorem sat_pen {st : PV → Hs → R (Option PV)} (Y : PV → Option PV → Prop) (c : Nat) {xs : List PV} {B : Nat} (hp : PenAt h n (B + xs.length * c)) (hs : ∀ x ∈ xs, ∀ B h', Fr n h h' → PenAt h' n (B + c) → Sat (st x h') fun o h2 => Y x o ∧ Fr n h' h2 ∧ PenAt h2 n B)
    (q : ∀ os h', All2 Y xs os → Fr n h h' → PenAt h' n B → Ql (os.filterMap id) h') : Sat (compGo st (.fx xs) h) Ql := by
  obtain ⟨ys, h', e, os, a, rfl, f, p⟩ := compF_pen hs hp
  refine ⟨_, h', ?_, q os h' a f p⟩
  show noExc (compF st xs h) = _
  rw [e]
  rfl
theorem rngL_length : ∀ (k : Nat) (lo : Int), (rngL lo k).length = k
  | 0, _ => rfl
  | k + 1, lo => congrArg (· + 1) (rngL_length k (lo + 1))
end
section
theorem all2_map {f : α → PyData} {G : α → Prop} {xs : List PV} {os : List (Option PV)} (a : All2 (fun _ o => ∃ g, G g ∧ o = some (.d (f g))) xs os) : ∃ gs : List α, gs.length = xs.length ∧ (∀ g ∈ gs, G g) ∧ os.filterMap id = (gs.map f).map PV.d := by
  induction a with
  | nil => exact ⟨[], rfl, by simp, rfl⟩
  | cons y _ ih =>
    obtain ⟨g, h1, rfl⟩ := y
    obtain ⟨gs, h2, h3, h4⟩ := ih
    refine ⟨g :: gs, by simp [h2], ?_, ?_⟩
    · intro z hz
      rcases List.mem_cons.mp hz with e | hz
      · rw [e]; exact h1
      · exact h3 z hz
    · rw [List.filterMap_cons]
      simp only [id_eq]
      rw [h4]
      rfl
end
end Hf
end

section
set_option Elab.async false
set_option linter.all false
set_option maxRecDepth 100000
/-! keys; the law's own looks at a house -/
namespace Hf
open PySem Iw
theorem rng_mem : ∀ (k : Nat) (lo : Int) (x : PV), x ∈ rngL lo k → ∃ i : Int, x = .d (.int i) ∧ lo ≤ i ∧ i < lo + k
  | 0, _, _, h => nomatch h
  | k + 1, lo, x, h => by
    rcases List.mem_cons.mp h with e | h
    · exact ⟨lo, e, by omega, by omega⟩
    · obtain ⟨i, e, h1, h2⟩ := rng_mem k (lo + 1) x h
      exact ⟨i, e, by omega, by omega⟩
theorem plain_map {α : Type} {f : α → PyData} (h : ∀ x, (f x).plain = true) : ∀ xs : List α, PyData.plainAll (xs.map f) = true
  | [] => rfl
  | x :: xs => by
    show ((f x).plain && PyData.plainAll (xs.map f)) = true
    rw [h x, plain_map h xs]; rfl
theorem plain_dr (x : Dr) : x.d.plain = true := by
  show (true && (true && (true && (PyData.plainAll (x.bx.map gD) && true)))) = true
  rw [plain_map (f := gD) (fun _ => rfl)]
  rfl
theorem plain_de (e : De) : e.d.plain = true := by cases e <;> rfl
section
variable {Q : PV → Hs → Prop} {h : Hs}
theorem ne_nil {ds : List PyData} (hp : PyData.plainAll ds = true) : cmpop .ne (.d (.list ds)) (.d (.list [])) h = some (!ds.isEmpty) := by
  rw [cmp_d (by decide)]
  have ok : eqOk (.list ds) (.list []) = true := by
    show (PyData.plainAll ds && (true && decide (min (PyData.depth (.list ds)) 1 ≤ deep))) = true
    rw [hp]
    have : min (PyData.depth (.list ds)) 1 ≤ deep := Nat.le_trans (Nat.min_le_right _ _) (by decide)
    simp [this]
  show (if eqOk (.list ds) (.list []) = true then some (!PyData.eqv (.list ds) (.list [])) else none) = _
  rw [if_pos ok]
  cases ds <;> rfl
@[simp] theorem b_addL {xs ys : List PyData} : Sat (binop .add (.d (.list xs)) (.d (.list ys)) h) Q ↔ xs.length + ys.length ≤ line ∧ Q (.d (.list (xs ++ ys))) h := by
  show Sat (if (xs.map PV.d).length + (ys.map PV.d).length ≤ line then mkL false (xs.map PV.d ++ ys.map PV.d) h else .bad) Q ↔ _
  rw [sat_if, ← List.map_append, List.length_map, List.length_map]
  show _ ∧ Sat (R.of ((datas ((xs ++ ys).map PV.d)).map fun ds => PV.d (.list ds)) h) Q ↔ _
  rw [datas_map']
  exact and_congr_right fun _ => sat_ok
theorem ninL_ints {a : Int} {xs : List Int} : cmpop .nin (.d (.int a)) (.d (.list (xs.map .int))) h = some (!decide (a ∈ xs)) := by
  show (isIn1 h (.d (.int a)) (.d (.list (xs.map PyData.int)))).map (!·) = _
  have e : isIn1 h (.d (.int a)) (.d (.list (xs.map PyData.int))) = some (decide (a ∈ xs)) := by
    show (if (true && (PyData.plainAll (xs.map PyData.int) && decide (0 ≤ deep))) = true then some ((xs.map PyData.int).any fun y => PyData.eqv y (.int a)) else none) = _
    rw [plain_ints, any_ints]
    rfl
  rw [e]; rfl
end
theorem fsm_mem {a : Int} : ∀ ss : List (Int × Int × Int), (fsm a ss).isNone = !decide (a ∈ ss.map (·.1))
  | [] => by simp [fsm]
  | s :: ss => by
    unfold fsm
    by_cases c : s.1 = a
    · rw [if_pos c]; simp [c]
    · rw [if_neg c, fsm_mem ss]
      have : ¬ a = s.1 := fun z => c z.symm
      simp [this]
section
variable {P : Pg} (D : LkD P) (K : LkK P) {Q : PV → Hs → Prop} {h : Hs} {n i : Nat}
include D K
theorem key_S {t : Int} {B : Nat} (ht : 1 ≤ t ∧ t ≤ 3) (hp : PenAt h n (B + 3)) (q : ∀ k h', KeyOk t k → Fr n h h' → PenAt h' n B → Q (.d (kD k)) h') : Sat (callN P (i + 2) "_law_key" [.ref n, .d (.int t)] h) Q := by
  rw [call0 K.law_key rfl]
  have tl : line = 16777216 := rfl
  simp [fK_law_key]
  refine ⟨by omega, ?_⟩
  refine sat_pen (n := n) (B := B + (3 - t.toNat)) (fun _ o => ∃ g : Int, (0 ≤ g ∧ g ≤ 6) ∧ o = some (.d (.int g))) 1 (hp.less (by rw [rngL_length]; omega)) ?_ ?_
  · intro x hx B' h' f p
    obtain ⟨k, rfl, _⟩ := rng_mem _ _ _ hx
    simp [Iw.wipe, asg]
    exact draw_S D p (by decide) (by decide) fun g h2 g1 g2 f2 p2 => ⟨⟨g, ⟨g1, by omega⟩, rfl⟩, f2, p2⟩
  · intro os h' a f p
    obtain ⟨gs, e1, e2, e3⟩ := all2_map (f := PyData.int) a
    rw [e3, sat_lstF (ds := gs.map .int) rfl]
    rw [rngL_length] at e1
    refine ⟨by simp; omega, ?_⟩
    simp
    refine ⟨by omega, ?_⟩
    rw [List.take_of_length_le (by rw [f.len]; exact Nat.le_refl _)]
    exact q gs h' ⟨by omega, e2⟩ f (p.less (by omega))
end
end Hf
end

section
set_option Elab.async false
set_option linter.all false
set_option maxRecDepth 100000
/-! rows drawn at random -/
namespace Iw
open PySem L2
section
variable {α β : Type} {h : Hs} {Ql : List PV → Hs → Prop}
/-- a comprehension over a list that is the picture of another; it leaves the store as it is -/
theorem sat_filtM {f : β → PV} {st : PV → Hs → R (Option PV)} (p : β → Bool) (g : β → PV) {xs : List β} (hs : ∀ x ∈ xs, Sat (st (f x) h) fun o h' => o = (if p x then some (g x) else none) ∧ h' = h) (q : Ql ((xs.filter p).map g) h) : Sat (compGo st (.fx (xs.map f)) h) Ql := by
  have go : ∀ xs : List β, (∀ x ∈ xs, Sat (st (f x) h) fun o h' => o = (if p x then some (g x) else none) ∧ h' = h) → compF st (xs.map f) h = .ok ((xs.filter p).map g) h := by
    intro xs
    induction xs with
    | nil => intro _; rfl
    | cons x xs ih =>
      intro hs
      have ih := ih fun y hy => hs y (List.mem_cons_of_mem _ hy)
      obtain ⟨o, h', e1, e2, e3⟩ := hs x (List.mem_cons_self)
      subst e3
      show compF st (f x :: xs.map f) h' = _
      unfold compF
      rw [e1]
      show (compF st (xs.map f) h').bind _ = _
      rw [ih, e2, List.filter_cons]
      by_cases c : p x = true
      · rw [if_pos c, if_pos c]; rfl
      · rw [if_neg c, if_neg c]; rfl
  refine ⟨_, h, ?_, q⟩
  show noExc (compF st (xs.map f) h) = _
  rw [go xs hs]
  rfl
theorem sat_mapM {f : β → PV} {st : PV → Hs → R (Option PV)} (g : β → PV) {xs : List β} (hs : ∀ x ∈ xs, Sat (st (f x) h) fun o h' => o = some (g x) ∧ h' = h) (q : Ql (xs.map g) h) : Sat (compGo st (.fx (xs.map f)) h) Ql := by
  refine sat_filtM (fun _ => true) g (fun x hx => by simpa using hs x hx) ?_
  rw [List.filter_eq_self.mpr (fun _ _ => rfl)]
  exact q
@[simp] theorem tup0 {Q : PV → Hs → Prop} : Sat (tupOf [] h) Q ↔ Q (.d (.tuple [])) h :=
  (sat_tup (ds := []) rfl).trans ⟨fun q => q.2, fun q => ⟨(by decide : 0 ≤ line), q⟩⟩
@[simp] theorem len_list {xs : List PyData} : lenOf h (.d (.list xs)) = some xs.length := by
  show (some (xs.map PV.d)).map List.length = _
  rw [Option.map_some, List.length_map]
end
def rngI : Int → Nat → List Int
  | _, 0 => []
  | lo, k + 1 => lo :: rngI (lo + 1) k
theorem rngL_eq : ∀ (k : Nat) (lo : Int), rngL lo k = (rngI lo k).map fun i => PV.d (.int i)
  | 0, _ => rfl
  | k + 1, lo => congrArg (PV.d (.int lo) :: ·) (rngL_eq k (lo + 1))
theorem rngI_mem : ∀ {k : Nat} {lo x : Int}, x ∈ rngI lo k → lo ≤ x ∧ x < lo + k
  | k + 1, lo, x, hx => by
    rcases List.mem_cons.mp hx with z | hx
    · omega
    · have := rngI_mem hx; omega
theorem rngI_len : ∀ (k : Nat) (lo : Int), (rngI lo k).length = k
  | 0, _ => rfl
  | k + 1, lo => congrArg (· + 1) (rngI_len k (lo + 1))
end Iw
namespace Hf
open PySem Iw
def Ho.deeds (H : Ho) : List De := ((rngI 0 H.t.toNat).map De.file ++ (rngI 0 H.ws.length).map De.go) ++ (rngI 0 H.t.toNat).map De.lift
theorem deeds_ok {H : Ho} (ok : HoOk H) : ∀ e ∈ H.deeds, DeOk H e := by
  have ht := ok.t
  intro e he
  simp only [Ho.deeds, List.mem_append, List.mem_map] at he
  rcases he with (⟨x, hx, rfl⟩ | ⟨x, hx, rfl⟩) | ⟨x, hx, rfl⟩ <;> have := rngI_mem hx
  · exact ⟨by omega, by omega⟩
  · exact ⟨by omega, by omega⟩
  · exact ⟨by omega, by omega⟩
theorem deeds_len {H : Ho} (ok : HoOk H) : H.deeds.length ≤ 12 := by
  have ht := ok.t
  have hw := ok.w0
  simp only [Ho.deeds, List.length_append, List.length_map, rngI_len]
  omega
def Ho.toR (H : Ho) : Int → List De → Int
  | a, [] => a
  | a, e :: r => Ho.toR H (H.to a e) r
theorem laid_snoc {H : Ho} {e : De} : ∀ {r : List De} {a : Int}, Laid H a r → DeOk H e → H.away (H.toR a r) e = false → Laid H a (r ++ [e])
  | [], a, _, h1, h2 => ⟨h1, h2, trivial⟩
  | d :: r, a, l, h1, h2 => ⟨l.1, l.2.1, laid_snoc l.2.2 h1 h2⟩
theorem toR_snoc {H : Ho} {e : De} : ∀ {r : List De} {a : Int}, H.toR a (r ++ [e]) = H.to (H.toR a r) e
  | [], a => rfl
  | d :: r, a => toR_snoc (r := r)
theorem to_in {H : Ho} {a : Int} {e : De} (ok : HoOk H) (h1 : 0 ≤ a) (h2 : a < H.n) : 0 ≤ H.to a e ∧ H.to a e < H.n := by
  cases e with
  | go l =>
    show 0 ≤ (match H.dr a l with
      | some (_, x) => x.b
      | none => a) ∧ (match H.dr a l with
      | some (_, x) => x.b
      | none => a) < H.n
    cases e : H.dr a l with
    | none => exact ⟨h1, h2⟩
    | some p =>
      obtain ⟨i, x⟩ := p
      obtain ⟨_, g, _⟩ := fdI_get e
      exact (ok.d x (List.mem_of_getElem? g)).b
  | file t => exact ⟨h1, h2⟩
  | lift t => exact ⟨h1, h2⟩
end Hf
end

section
set_option Elab.async false
set_option linter.all false
set_option maxRecDepth 100000
/-! objects of the run, beside the pen; dicts by pairs, sorted -/
namespace Hf
open PySem Iw
/-- the store h, and these objects after it; the pen at n may differ -/
structure Ex (n : Nat) (h hh : Hs) (obs : List Ob) : Prop where
  len : hh.length = h.length + obs.length
  oth : ∀ j, j < h.length → j ≠ n → hh[j]? = h[j]?
  obs : ∀ j, j < obs.length → hh[h.length + j]? = obs[j]?
theorem Ex.nil {n : Nat} {h hh : Hs} (f : Fr n h hh) : Ex n h hh [] := ⟨by rw [f.len]; rfl, fun j _ hj => f.oth j hj, fun j hj => absurd hj (Nat.not_lt_zero _)⟩
theorem Ex.fr {n : Nat} {h hh h2 : Hs} {obs : List Ob} (x : Ex n h hh obs) (hn : n < h.length) (f : Fr n hh h2) : Ex n h h2 obs := by
  refine ⟨f.len.trans x.len, fun j hj hjn => (f.oth j hjn).trans (x.oth j hj hjn), fun j hj => ?_⟩
  rw [f.oth _ (by omega)]
  exact x.obs j hj
theorem Ex.push {n : Nat} {h hh : Hs} {obs : List Ob} {o : Ob} (x : Ex n h hh obs) : Ex n h (hh ++ [o]) (obs ++ [o]) := by
  have hl := x.len
  refine ⟨by simp; omega, fun j hj hjn => ?_, fun j hj => ?_⟩
  · rw [List.getElem?_append_left (by omega)]; exact x.oth j hj hjn
  · by_cases c : j < obs.length
    · rw [List.getElem?_append_left (by omega), List.getElem?_append_left c]; exact x.obs j c
    · have e : j = obs.length := by simp at hj; omega
      subst e
      rw [← hl]
      simp
theorem Ex.set {n m : Nat} {h hh : Hs} {obs : List Ob} {o : Ob} (x : Ex n h hh obs) (hm : m < obs.length) : Ex n h (hh.set (h.length + m) o) (obs.set m o) := by
  have hl := x.len
  refine ⟨by simp; omega, fun j hj hjn => ?_, fun j hj => ?_⟩
  · rw [List.getElem?_set_ne (by omega)]; exact x.oth j hj hjn
  · by_cases c : j = m
    · subst c
      rw [List.getElem?_set_self (by omega), List.getElem?_set_self hm]
    · rw [List.getElem?_set_ne (by omega), List.getElem?_set_ne (Ne.symm c)]
      exact x.obs j (by simpa using hj)
theorem Ex.cut {n : Nat} {h hh : Hs} {obs : List Ob} (x : Ex n h hh obs) : Fr n h (hh.take h.length) := by
  have hl := x.len
  refine ⟨by rw [List.length_take]; omega, fun j hj => ?_⟩
  by_cases c : j < h.length
  · rw [List.getElem?_take_of_lt c]; exact x.oth j c hj
  · rw [List.getElem?_eq_none (by rw [List.length_take]; omega), List.getElem?_eq_none (by omega)]
theorem PenAt.push {n B : Nat} {hh : Hs} {o : Ob} (p : PenAt hh n B) : PenAt (hh ++ [o]) n B := by
  have := p.lt
  obtain ⟨a, b, c, e, r⟩ := p
  exact ⟨a, b, c, by rw [List.getElem?_append_left this]; exact e, r⟩
theorem PenAt.setO {n m B : Nat} {hh : Hs} {o : Ob} (p : PenAt hh n B) (hm : m ≠ n) : PenAt (hh.set m o) n B := by
  obtain ⟨a, b, c, e, r⟩ := p
  exact ⟨a, b, c, by rw [List.getElem?_set_ne hm]; exact e, r⟩
theorem PenAt.cut {n m B : Nat} {hh : Hs} (p : PenAt hh n B) (hm : n < m) : PenAt (hh.take m) n B := by
  obtain ⟨a, b, c, e, r⟩ := p
  exact ⟨a, b, c, by rw [List.getElem?_take_of_lt hm]; exact e, r⟩
/-! the dict of doors -/
def keyP (x : Dr) : Int × Int := (x.a, x.l)
def kvD (x : Dr) : List L2.Key × PV := ([.inl x.a, .inl x.l], .d (.tuple [.int x.b, bD x.bx]))
def putD (D : List Dr) (x : Dr) : List Dr := if (D.any fun y => decide (keyP y = keyP x)) = true then D.map (fun y => if keyP y = keyP x then x else y) else D ++ [x]
theorem kv_eq {x y : Dr} : ((kvD y).1 = (kvD x).1) ↔ keyP y = keyP x := by
  simp [kvD, keyP]
theorem putP_D (D : List Dr) (x : Dr) : putP (D.map kvD) (kvD x).1 (kvD x).2 = (putD D x).map kvD := by
  unfold putP putD
  have e : ((D.map kvD).any fun kv => decide (kv.1 = (kvD x).1)) = D.any fun y => decide (keyP y = keyP x) := by
    rw [List.any_map]
    congr 1
    funext y
    exact decide_eq_decide.mpr kv_eq
  rw [e]
  by_cases c : (D.any fun y => decide (keyP y = keyP x)) = true
  · rw [if_pos c, if_pos c, List.map_map, List.map_map]
    refine List.map_congr_left fun y _ => ?_
    show (if (kvD y).1 = (kvD x).1 then ((kvD y).1, (kvD x).2) else kvD y) = kvD (if keyP y = keyP x then x else y)
    by_cases d : keyP y = keyP x
    · rw [if_pos d, if_pos (kv_eq.mpr d), kv_eq.mpr d]
    · rw [if_neg d, if_neg (fun z => d (kv_eq.mp z))]
  · rw [if_neg c, if_neg c, List.map_append]
    rfl
theorem putD_keys (D : List Dr) (x : Dr) (h : (D.map keyP).Nodup) : ((putD D x).map keyP).Nodup := by
  unfold putD
  by_cases c : (D.any fun y => decide (keyP y = keyP x)) = true
  · rw [if_pos c, List.map_map]
    have e : D.map (keyP ∘ fun y => if keyP y = keyP x then x else y) = D.map keyP := by
      refine List.map_congr_left fun y _ => ?_
      show keyP (if keyP y = keyP x then x else y) = keyP y
      by_cases d : keyP y = keyP x
      · rw [if_pos d, d]
      · rw [if_neg d]
    rw [e]; exact h
  · rw [if_neg c, List.map_append, List.nodup_append]
    refine ⟨h, by simp, ?_⟩
    intro a ha b hb e
    simp at hb
    subst hb
    subst e
    obtain ⟨y, hy, e⟩ := List.mem_map.mp ha
    refine c (List.any_eq_true.mpr ⟨y, hy, ?_⟩)
    simpa using e
theorem putD_len (D : List Dr) (x : Dr) : (putD D x).length ≤ D.length + 1 := by
  unfold putD
  split <;> simp
theorem putD_all {D : List Dr} {x : Dr} {G : Dr → Prop} (hx : G x) (hD : ∀ y ∈ D, G y) : ∀ y ∈ putD D x, G y := by
  unfold putD
  split
  · intro y hy
    obtain ⟨z, hz, rfl⟩ := List.mem_map.mp hy
    split
    · exact hx
    · exact hD z hz
  · intro y hy
    rcases List.mem_append.mp hy with hy | hy
    · exact hD y hy
    · rw [List.mem_singleton.mp hy]; exact hx
theorem valP_D : ∀ {D : List Dr} {x : Dr}, (D.map keyP).Nodup → x ∈ D → valP (D.map kvD) (kvD x).1 = some (kvD x).2
  | y :: D, x, hn, hx => by
    unfold valP
    rw [List.map_cons, List.find?_cons]
    rw [List.map_cons, List.nodup_cons] at hn
    by_cases c : keyP y = keyP x
    · have e : y = x := by
        rcases List.mem_cons.mp hx with e | hx
        · exact e.symm
        · exact absurd (c ▸ List.mem_map_of_mem (f := keyP) hx) hn.1
      subst e
      simp
    · have hx : x ∈ D := by
        rcases List.mem_cons.mp hx with e | hx
        · subst e; exact absurd rfl c
        · exact hx
      rw [decide_eq_false (fun z => c (kv_eq.mp z))]
      exact valP_D hn.2 hx
def drLe (x y : Dr) : Bool := decide (x.a < y.a ∨ (x.a = y.a ∧ x.l ≤ y.l))
def srtR (D : List Dr) : List Dr := D.mergeSort drLe
theorem srt_D (D : List Dr) : srtD (D.map pairI) = (srtR D).map pairI := by
  unfold srtD srtR
  refine (List.map_mergeSort (f := pairI) fun x _ y _ => ?_).symm
  have e := congrFun (congrFun (PySem.W.dataLe_ii (fun x : Dr => x.a) (fun x : Dr => x.l)) x) y
  exact e.symm
theorem ltOk_ii (a b c d : Int) : ltOk (.tuple [.int a, .int b]) (.tuple [.int c, .int d]) = true := by
  have : min (PyData.depth (.tuple [.int a, .int b])) (PyData.depth (.tuple [.int c, .int d])) ≤ deep := Nat.le_trans (Nat.min_le_left _ _) (by simp [PyData.depth, PyData.depthAll]; decide)
  simp [ltOk, PySem.W.alike, PySem.W.alikeAll, this]
theorem rises_pw {α : Type} {f : α → PyData} : ∀ {xs : List α}, List.Pairwise (fun x y => ltOk (f x) (f y) = true ∧ PySem.W.dataLt (f x) (f y) = true) xs → RisesD (xs.map f)
  | [], _ => trivial
  | [_], _ => trivial
  | x :: y :: r, h => ⟨(List.pairwise_cons.mp h).1 y (List.mem_cons_self), rises_pw (List.pairwise_cons.mp h).2⟩
theorem rises_D {D : List Dr} (h : (D.map keyP).Nodup) : RisesD ((srtR D).map pairI) := by
  refine rises_pw ?_
  have h1 : List.Pairwise (fun x y => drLe x y = true) (srtR D) := List.pairwise_mergeSort (fun x y z a b => by simp [drLe] at *; omega) (fun x y => by simp [drLe]; omega) D
  have h2 : ((srtR D).map keyP).Nodup := ((List.mergeSort_perm D drLe).map keyP).nodup_iff.mpr h
  have h2 : List.Pairwise (fun x y => keyP x ≠ keyP y) (srtR D) := List.pairwise_map.mp h2
  refine (h1.and h2).imp fun {x y} p => ⟨ltOk_ii _ _ _ _, ?_⟩
  rw [show pairI x = .tuple [.int x.a, .int x.l] from rfl, show pairI y = .tuple [.int y.a, .int y.l] from rfl, PySem.W.dataLt_ii]
  obtain ⟨p, q⟩ := p
  simp [drLe] at p
  simp [keyP] at q
  simp
  omega
theorem rises_int {xs : List Int} (h : List.Pairwise (· < ·) xs) : RisesD (xs.map .int) := by
  refine rises_pw (h.imp fun {x y} p => ⟨ltOk_int, ?_⟩)
  rw [lt_int']
  exact decide_eq_true p
theorem rises_fst {xs : List (Int × Int × Int)} (h : List.Pairwise (fun x y => x.1 < y.1) xs) : RisesD (xs.map fun s => .int s.1) := by
  refine rises_pw (h.imp fun {x y} p => ⟨ltOk_int, ?_⟩)
  rw [lt_int']
  exact decide_eq_true p
theorem rngI_pw : ∀ (k : Nat) (lo : Int), List.Pairwise (· < ·) (rngI lo k)
  | 0, _ => List.Pairwise.nil
  | k + 1, lo => List.pairwise_cons.mpr ⟨fun y hy => by have := rngI_mem hy; omega, rngI_pw k (lo + 1)⟩
section
variable {Q : PV → Hs → Prop} {Qu : Unit → Hs → Prop} {h : Hs} {n k : Nat}
theorem bi_tupR {ds : List PyData} (e : h[n]? = some (.lst (ds.map PV.d))) : Sat (biop .tuple1 [.ref n] h) Q ↔ ds.length ≤ line ∧ Q (PV.d (.tuple ds)) h := by
  have e1 : getL h (.ref n) = some (ds.map PV.d) := by
    show (match h[n]? with
      | some (.lst xs) => some xs
      | _ => none) = _
    rw [e]
  have e2 : biop .tuple1 [.ref n] h = biop .tuple1 [.d (.list ds)] h := by
    show (match (getL h (.ref n)).bind datas with
      | some ds => if ds.length ≤ line then R.ok (PV.d (.tuple ds)) h else .bad
      | none => .bad) = _
    rw [e1]
    rfl
  rw [e2]
  exact bi_tupL
theorem app_ref {xs : List PV} {x : PyData} (e : h[n]? = some (.lst xs)) (hl : xs.length < line) : Sat (appv k (.ref n) (PV.d x) h) Q ↔ Q (.d .none) (h.set n (.lst (xs ++ [PV.d x]))) := by
  have e1 : appv k (.ref n) (PV.d x) h = .ok (PV.d .none) (h.set n (.lst (xs ++ [PV.d x]))) := by
    show (match h[n]? with
      | some (.lst xs) => if storeOk k n (PV.d x) = true ∧ xs.length < line then R.ok (PV.d .none) (h.set n (.lst (xs ++ [PV.d x]))) else .bad
      | _ => .bad) = _
    rw [e]
    exact if_pos ⟨rfl, hl⟩
  rw [e1, sat_ok]
theorem lstAt_ref {xs : List PV} (e : h[n]? = some (.lst xs)) : lstAt h (.ref n) = true := by
  show (match h[n]? with
    | some (.lst _) => true
    | _ => false) = true
  rw [e]
theorem put_ref {D : List Dr} {x : Dr} (e : h[n]? = some (.dT (D.map kvD))) (hl : D.length < line) : Sat (setv k (.ref n) (PV.d (pairI x)) (PV.d (.tuple [.int x.b, bD x.bx])) h) Qu ↔ Qu () (h.set n (.dT ((putD D x).map kvD))) := by
  have e1 : setv k (.ref n) (PV.d (pairI x)) (PV.d (.tuple [.int x.b, bD x.bx])) h = .ok () (h.set n (.dT ((putD D x).map kvD))) := by
    unfold setv
    dsimp only
    rw [e]
    dsimp only
    have : dputO (.dT (D.map kvD)) (pairI x) (PV.d (.tuple [.int x.b, bD x.bx])) = some (.dT ((putD D x).map kvD)) := by
      show (if (D.map kvD).length < line then _ else none) = _
      rw [if_pos (by rw [List.length_map]; exact hl), ← putP_D]
      rfl
    rw [this]
    rfl
  rw [e1, sat_ok]
theorem get_ref {D : List Dr} {x : Dr} (e : h[n]? = some (.dT (D.map kvD))) (hn : (D.map keyP).Nodup) (hx : x ∈ D) : Sat (ixv (.ref n) (PV.d (pairI x)) h) Q ↔ Q (PV.d (.tuple [.int x.b, bD x.bx])) h := by
  have e1 : dgetv h (.ref n) (pairI x) = some (some (PV.d (.tuple [.int x.b, bD x.bx]))) := by
    show (match h[n]? with
      | some o => dgetO o (pairI x)
      | none => none) = _
    rw [e]
    show (some (valP (D.map kvD) (kvD x).1)) = _
    rw [valP_D hn hx]
    rfl
  have e2 : ixv (.ref n) (PV.d (pairI x)) h = .ok (PV.d (.tuple [.int x.b, bD x.bx])) h := by
    show (match dgetv h (.ref n) (pairI x) with
      | some o => R.of o h
      | none => ixv1 (.ref n) (PV.d (pairI x)) h) = _
    rw [e1]
    rfl
  rw [e2, sat_ok]
theorem srt_ref {D : List Dr} (e : h[n]? = some (.dT (D.map kvD))) (hl : D.length ≤ line) : Sat (biop (.srt1 false) [.ref n] h) Q ↔ Q (PV.d (.list ((srtR D).map pairI))) h := by
  have e1 : (keysAll h (.ref n)).bind datas = some (D.map pairI) := by
    show (match h[n]? with
      | some (.dT kvs) => some (kvs.map fun (kv : List L2.Key × PV) => PV.d (.tuple (kv.1.map keyD)))
      | some (.dK kvs) => some (kvs.map fun (kv : L2.Key × PV) => PV.d (keyD kv.1))
      | _ => getL h (.ref n)).bind datas = _
    rw [e]
    show datas ((D.map kvD).map fun (kv : List L2.Key × PV) => PV.d (.tuple (kv.1.map keyD))) = _
    rw [List.map_map, ← datas_map', List.map_map]
    rfl
  have ok : srtOk (D.map pairI) = true := by
    unfold srtOk sortable
    simp only [Bool.and_eq_true, Bool.or_eq_true, List.all_map, List.all_eq_true, Function.comp, decide_eq_true_eq, List.length_map]
    refine ⟨fun x _ y _ => rfl, .inl fun x _ => rfl, hl, fun x _ => ?_⟩
    show PyData.depth (.tuple [.int x.a, .int x.l]) ≤ deep
    simp [PyData.depth, PyData.depthAll]
    decide
  have e2 : biop (.srt1 false) [.ref n] h = .ok (PV.d (.list ((srtR D).map pairI))) h := by
    show (match (keysAll h (.ref n)).bind datas with
      | some ds => if srtOk ds = true then mkL false ((srtD ds).map PV.d) h else .bad
      | none => .bad) = _
    rw [e1]
    dsimp only
    rw [if_pos ok, srt_D]
    show R.of ((datas (((srtR D).map pairI).map PV.d)).map fun ds => PV.d (.list ds)) h = _
    rw [datas_map']
    rfl
  rw [e2, sat_ok]
end
end Hf
end

section
set_option Elab.async false
set_option linter.all false
set_option maxRecDepth 100000
/-! the order of keys behind a row -/
namespace Hf
open PySem Iw
def PLe : List Int → List Int → Prop
  | [], [] => True
  | x :: xs, y :: ys => x ≤ y ∧ PLe xs ys
  | _, _ => False
theorem PLe.len : ∀ {k k' : List Int}, PLe k k' → k.length = k'.length
  | [], [], _ => rfl
  | _ :: _, _ :: _, h => congrArg (· + 1) (PLe.len h.2)
theorem PLe.step {H : Ho} {e : De} : ∀ {k k' : List Int} {j : Nat}, PLe k k' → PLe (H.step e j k) (H.step e j k')
  | [], [], _, _ => trivial
  | x :: xs, y :: ys, j, h => by
    refine ⟨?_, PLe.step h.2⟩
    have := h.1
    split <;> split <;> omega
theorem bar_mid {H : Ho} {a : Int} {e : De} : ∀ {k k' k'' : List Int} {j : Nat}, PLe k k' → PLe k' k'' → H.bar a e j k = none → H.bar a e j k'' = none → H.bar a e j k' = none
  | [], [], [], _, _, _, _, _ => rfl
  | x :: xs, y :: ys, z :: zs, j, h1, h2, b1, b2 => by
    have c1 := h1.1
    have c2 := h2.1
    unfold Ho.bar at b1 b2 ⊢
    by_cases d1 : x < (H.gap a e j).1
    · rw [if_pos d1] at b1; cases b1
    · by_cases d2 : (H.gap a e j).2 < z
      · rw [if_neg (by omega), if_pos d2] at b2; cases b2
      · rw [if_neg d1, if_neg (by omega)] at b1
        rw [if_neg (by omega), if_neg d2] at b2
        rw [if_neg (by omega), if_neg (by omega)]
        exact bar_mid h1.2 h2.2 b1 b2
theorem bar_low {H : Ho} {a : Int} {e : De} : ∀ {k k' : List Int} {j m : Nat} {b : Bool}, PLe k k' → H.bar a e j k = some (b, m) → H.bar a e j k' = none → b = false
  | [], [], _, _, _, _, b1, _ => nomatch b1
  | x :: xs, y :: ys, j, m, b, h, b1, b2 => by
    have c1 := h.1
    unfold Ho.bar at b1 b2
    by_cases d1 : x < (H.gap a e j).1
    · rw [if_pos d1] at b1; injection b1 with b1; injection b1 with b1; exact b1.symm
    · by_cases d2 : (H.gap a e j).2 < y
      · rw [if_neg (by omega), if_pos d2] at b2; cases b2
      · rw [if_neg d1, if_neg (by omega)] at b1
        rw [if_neg (by omega), if_neg d2] at b2
        exact bar_low h.2 b1 b2
theorem bar_high {H : Ho} {a : Int} {e : De} : ∀ {k k' : List Int} {j m : Nat} {b : Bool}, PLe k k' → H.bar a e j k = none → H.bar a e j k' = some (b, m) → b = true
  | [], [], _, _, _, _, _, b2 => nomatch b2
  | x :: xs, y :: ys, j, m, b, h, b1, b2 => by
    have c1 := h.1
    unfold Ho.bar at b1 b2
    by_cases d1 : x < (H.gap a e j).1
    · rw [if_pos d1] at b1; cases b1
    · by_cases d2 : (H.gap a e j).2 < y
      · rw [if_neg (by omega), if_pos d2] at b2; injection b2 with b2; injection b2 with b2; exact b2.symm
      · rw [if_neg d1, if_neg (by omega)] at b1
        rw [if_neg (by omega), if_neg d2] at b2
        exact bar_high h.2 b1 b2
theorem bars_mid {H : Ho} : ∀ {r : List De} {a : Int} {k k' k'' : List Int} {i : Nat}, PLe k k' → PLe k' k'' → H.bars a k i r = none → H.bars a k'' i r = none → H.bars a k' i r = none
  | [], _, _, _, _, _, _, _, _, _ => rfl
  | e :: r, a, k, k', k'', i, h1, h2, b1, b2 => by
    unfold Ho.bars at b1 b2 ⊢
    cases c1 : H.bar a e 0 k with
    | some p => rw [c1] at b1; cases b1
    | none =>
      cases c2 : H.bar a e 0 k'' with
      | some p => rw [c2] at b2; cases b2
      | none =>
        rw [c1] at b1
        rw [c2] at b2
        rw [bar_mid h1 h2 c1 c2]
        exact bars_mid h1.step h2.step b1 b2
theorem bars_low {H : Ho} : ∀ {r : List De} {a : Int} {k k' : List Int} {i m j : Nat} {b : Bool}, PLe k k' → H.bars a k i r = some (m, b, j) → H.bars a k' i r = none → b = false
  | [], _, _, _, _, _, _, _, _, b1, _ => nomatch b1
  | e :: r, a, k, k', i, m, j, b, h, b1, b2 => by
    unfold Ho.bars at b1 b2
    cases c2 : H.bar a e 0 k' with
    | some p => rw [c2] at b2; cases b2
    | none =>
      rw [c2] at b2
      cases c1 : H.bar a e 0 k with
      | some p =>
        obtain ⟨b', j'⟩ := p
        rw [c1] at b1
        injection b1 with b1
        injection b1 with _ b1
        injection b1 with b1 _
        rw [← b1]
        exact bar_low h c1 c2
      | none =>
        rw [c1] at b1
        exact bars_low h.step b1 b2
theorem bars_high {H : Ho} : ∀ {r : List De} {a : Int} {k k' : List Int} {i m j : Nat} {b : Bool}, PLe k k' → H.bars a k i r = none → H.bars a k' i r = some (m, b, j) → b = true
  | [], _, _, _, _, _, _, _, _, _, b2 => nomatch b2
  | e :: r, a, k, k', i, m, j, b, h, b1, b2 => by
    unfold Ho.bars at b1 b2
    cases c1 : H.bar a e 0 k with
    | some p => rw [c1] at b1; cases b1
    | none =>
      rw [c1] at b1
      cases c2 : H.bar a e 0 k' with
      | some p =>
        obtain ⟨b', j'⟩ := p
        rw [c2] at b2
        injection b2 with b2
        injection b2 with _ b2
        injection b2 with b2 _
        rw [← b2]
        exact bar_high h c1 c2
      | none =>
        rw [c2] at b2
        exact bars_high h.step b1 b2
theorem ends_le {H : Ho} : ∀ {r : List De} {a : Int} {k k' : List Int}, PLe k k' → PLe (H.ends a k r).2 (H.ends a k' r).2
  | [], _, _, _, h => h
  | e :: r, a, k, k', h => ends_le (r := r) h.step
theorem ends_len {H : Ho} : ∀ {r : List De} {a : Int} {k : List Int}, (H.ends a k r).2.length = k.length
  | [], _, _ => rfl
  | e :: r, a, k => (ends_len (r := r)).trans (step_len H e k 0)
/-- the same, but that at place j the first may be one more -/
def Near : Nat → List Int → List Int → Prop
  | 0, x :: xs, y :: ys => (x = y ∨ x = y + 1) ∧ xs = ys
  | j + 1, x :: xs, y :: ys => x = y ∧ Near j xs ys
  | _, _, _ => False
theorem Near.step {H : Ho} {e : De} : ∀ {j : Nat} {k k' : List Int} {m : Nat}, Near j k k' → Near j (H.step e m k) (H.step e m k')
  | 0, x :: xs, y :: ys, m, h => by
    obtain ⟨h, rfl⟩ := h
    refine ⟨?_, rfl⟩
    split <;> split <;> omega
  | j + 1, x :: xs, y :: ys, m, h => by
    obtain ⟨rfl, h⟩ := h
    exact ⟨rfl, Near.step h⟩
theorem ends_near {H : Ho} {j : Nat} : ∀ {r : List De} {a : Int} {k k' : List Int}, Near j k k' → Near j (H.ends a k r).2 (H.ends a k' r).2
  | [], _, _, _, h => h
  | e :: r, a, k, k', h => ends_near (r := r) h.step
theorem Near.rest : ∀ {j : Nat} {k k' : List Int}, Near j k k' → k.take j = k'.take j ∧ k.drop (j + 1) = k'.drop (j + 1) ∧ ∃ x y, k[j]? = some x ∧ k'[j]? = some y ∧ (x = y ∨ x = y + 1)
  | 0, x :: xs, y :: ys, h => ⟨rfl, h.2, x, y, rfl, rfl, h.1⟩
  | j + 1, x :: xs, y :: ys, h => by
    obtain ⟨rfl, h⟩ := h
    obtain ⟨h1, h2, u, v, e1, e2, h3⟩ := h.rest
    exact ⟨by rw [List.take_succ_cons, List.take_succ_cons, h1], h2, u, v, e1, e2, h3⟩
theorem near_down : ∀ {j : Nat} {k : List Int} {x : Int}, k[j]? = some x → Near j k (k.take j ++ [x - 1] ++ k.drop (j + 1))
  | 0, y :: ys, x, e => by
    injection e with e
    subst e
    exact ⟨.inr (by omega), rfl⟩
  | j + 1, y :: ys, x, e => ⟨rfl, near_down (j := j) e⟩
theorem mins_le : ∀ (a b : List Int), a.length = b.length → PLe ((a.zip b).map fun p => if p.2 < p.1 then p.2 else p.1) ((a.zip b).map fun p => if p.2 > p.1 then p.2 else p.1)
  | [], _, _ => trivial
  | x :: xs, [], h => nomatch h
  | x :: xs, y :: ys, h => by
    refine ⟨?_, mins_le xs ys (by simpa using h)⟩
    show (if y < x then y else x) ≤ (if y > x then y else x)
    split <;> split <;> omega
end Hf
end

section
set_option Elab.async false
set_option linter.all false
set_option maxRecDepth 100000
/-! pairs of keys, slices, cells -/
namespace Hf
open PySem Iw
theorem pairs_ints : ∀ xs ys : List Int, pairs (xs.map .int) (ys.map .int) = (xs.zip ys).map fun p => PV.d (.tuple [.int p.1, .int p.2])
  | [], _ => rfl
  | _ :: _, [] => rfl
  | x :: xs, y :: ys => congrArg (PV.d (.tuple [.int x, .int y]) :: ·) (pairs_ints xs ys)
theorem PLe.mem : ∀ {xs ys : List Int} {p : Int × Int}, PLe xs ys → p ∈ xs.zip ys → p.1 ≤ p.2 ∧ p.1 ∈ xs ∧ p.2 ∈ ys
  | x :: xs, y :: ys, p, h, hp => by
    rw [List.zip_cons_cons] at hp
    rcases List.mem_cons.mp hp with rfl | hp
    · exact ⟨h.1, List.mem_cons_self, List.mem_cons_self⟩
    · obtain ⟨h1, h2, h3⟩ := PLe.mem h.2 hp
      exact ⟨h1, List.mem_cons_of_mem _ h2, List.mem_cons_of_mem _ h3⟩
theorem PLe.low {c : Int} : ∀ {k k' : List Int}, PLe k k' → (∀ x ∈ k, c ≤ x) → ∀ x ∈ k', c ≤ x
  | [], [], _, _, z, hz => absurd hz (by simp)
  | x :: xs, y :: ys, h, a, z, hz => by
    rcases List.mem_cons.mp hz with rfl | hz
    · have := a x (List.mem_cons_self); have := h.1; omega
    · exact PLe.low h.2 (fun w hw => a w (List.mem_cons_of_mem _ hw)) z hz
theorem PLe.high {c : Int} : ∀ {k k' : List Int}, PLe k k' → (∀ x ∈ k', x ≤ c) → ∀ x ∈ k, x ≤ c
  | [], [], _, _, z, hz => absurd hz (by simp)
  | x :: xs, y :: ys, h, a, z, hz => by
    rcases List.mem_cons.mp hz with rfl | hz
    · have := a y (List.mem_cons_self); have := h.1; omega
    · exact PLe.high h.2 (fun w hw => a w (List.mem_cons_of_mem _ hw)) z hz
theorem KeyOk.mid {t : Int} {k k' k'' : List Int} (h1 : KeyOk t k) (h2 : KeyOk t k'') (a : PLe k k') (b : PLe k' k'') : KeyOk t k' :=
  ⟨by rw [← a.len]; exact h1.1, fun x hx => ⟨a.low (fun y hy => (h1.2 y hy).1) x hx, b.high (fun y hy => (h2.2 y hy).2) x hx⟩⟩
theorem KeyOk.short {t : Int} {k : List Int} (h : KeyOk t k) (ht : 1 ≤ t ∧ t ≤ 3) : k.length ≤ 3 := by have := h.1; omega
theorem cut_take {α : Type} {xs : List α} {j : Nat} (h : j ≤ xs.length) : cut xs none (some (j : Int)) = xs.take j := by
  unfold cut HT.sIx
  simp
  rw [if_neg (by omega)]
  omega
theorem cut_drop {α : Type} {xs : List α} {j : Nat} (h : j ≤ xs.length) : cut xs (some (j : Int)) none = xs.drop j := by
  unfold cut HT.sIx
  simp
  rw [if_neg (by omega), Nat.min_eq_left h]
  rw [List.take_of_length_le (by rw [List.length_drop]; omega)]
theorem eqvR : ∀ xs : List Int, PyData.eqvAll (xs.map .int) (xs.map .int) = true
  | [] => rfl
  | x :: xs => by rw [List.map_cons, PyData.eqvAll, eqvR xs]; simp [PyData.eqv]
theorem depth_ints : ∀ xs : List Int, PyData.depthAll (xs.map .int) = 0
  | [] => rfl
  | x :: xs => by rw [List.map_cons, PyData.depthAll, depth_ints xs]; rfl
section
variable {Q : PV → Hs → Prop} {h : Hs}
theorem ne_key {xs ys : List Int} (e : xs = ys) : cmpop .ne (.d (.tuple (xs.map .int))) (.d (.tuple (ys.map .int))) h = some false := by
  subst e
  have ok : eqOk (.tuple (xs.map .int)) (.tuple (xs.map .int)) = true := by
    show (PyData.plainAll (xs.map .int) && (PyData.plainAll (xs.map .int) && decide (min (PyData.depthAll (xs.map .int) + 1) (PyData.depthAll (xs.map .int) + 1) ≤ deep))) = true
    rw [plain_ints, depth_ints]
    decide
  rw [cmp_d (by decide)]
  show (if eqOk (.tuple (xs.map .int)) (.tuple (xs.map .int)) = true then some (!PyData.eqv (.tuple (xs.map .int)) (.tuple (xs.map .int))) else none) = _
  rw [if_pos ok, PyData.eqv, eqvR xs]
  rfl
theorem eq_nil : cmpop .eq (.d (.list [])) (.d (.list [])) h = some true := by
  rw [cmp_d (by decide)]
  rfl
end
theorem all2_pen : ∀ {low high : List Int} {os : List (Option PV)}, low.length = high.length → All2 (fun x o => ∃ u v g : Int, x = PV.d (.tuple [.int u, .int v]) ∧ u ≤ g ∧ g ≤ v ∧ o = some (PV.d (.int g))) ((low.zip high).map fun p => PV.d (.tuple [.int p.1, .int p.2])) os → ∃ ms : List Int, os.filterMap id = (ms.map PyData.int).map PV.d ∧ PLe low ms ∧ PLe ms high
  | [], [], os, _, a => by cases a; exact ⟨[], rfl, trivial, trivial⟩
  | x :: xs, y :: ys, os, e, a => by
    rw [List.zip_cons_cons, List.map_cons] at a
    cases a with
    | cons c a =>
      obtain ⟨u, v, g, e1, g1, g2, rfl⟩ := c
      obtain ⟨ms, h1, h2, h3⟩ := all2_pen (by simpa using e) a
      injection e1 with e1
      injection e1 with e1
      injection e1 with e1 e2
      injection e1 with e1
      injection e2 with e2
      injection e2 with e2
      subst e1
      subst e2
      exact ⟨g :: ms, by simpa using h1, ⟨g1, h2⟩, ⟨g2, h3⟩⟩
section
variable {P : Pg} (D : LkD P) {Q : PV → Hs → Prop} {h : Hs} {n i : Nat}
include D
theorem cell_at_S {ns : List Int} {k : Nat} (q : ∀ c : Int, Q (.d (.int c)) h) : Sat (callN P (i + 1) "_law_cell_at" [.scr ns, .d (.int k)] h) Q := by
  rw [call0 D.law_cell_at rfl]
  by_cases c : k < ns.length
  · simp [fD_law_cell_at, c]
    exact ⟨_, atI_nat (List.getElem?_eq_getElem c), by simpa using q _⟩
  · simp [fD_law_cell_at, c]
    exact q 0
end
end Hf
end

section
set_option Elab.async false
set_option linter.all false
set_option maxRecDepth 100000
/-! rows that may be away; tables of heights -/
namespace Iw
open PySem L2
section
variable {Qf : Fl × Sg → Hs → Prop}
/-- a loop over a list that is the picture of another, which may hand back: I by the items that are left -/
theorem forF_ret {β : Type} {g : β → PV} {t : Tg} {F : Sg → Hs → R (Fl × Sg)} (I : List β → Sg → Hs → Prop) (step : ∀ y ys σ h, I (y :: ys) σ h → ∃ σ1, asg t (g y) σ = some σ1 ∧ Sat (F σ1 h) fun p h2 => (p.1 = .nx ∧ I ys p.2 h2) ∨ (∃ v, p.1 = .rt v ∧ Qf p h2)) :
    ∀ (ys : List β) (σ : Sg) (h : Hs), I ys σ h → (∀ σ' h', I [] σ' h' → Qf (.nx, σ') h') → Sat (forF t F (ys.map g) σ h) Qf
  | [], σ, h, i, q => forF_nil.mpr (q σ h i)
  | y :: ys, σ, h, i, q => by
    obtain ⟨σ1, e, s⟩ := step y ys σ h i
    refine forF_cons.mpr ⟨σ1, e, s.mono fun p h2 hp => ?_⟩
    obtain ⟨f, σ'⟩ := p
    rcases hp with ⟨hp, i2⟩ | ⟨v, hp, i2⟩
    · have hp : f = _ := hp
      subst hp
      exact forF_ret I step ys _ h2 i2 q
    · have hp : f = _ := hp
      subst hp
      exact i2
end
end Iw
namespace Hf
open PySem Iw
/-- the first deed of a row that is away -/
def Ho.aw (H : Ho) : Int → Nat → List De → Option Nat
  | _, _, [] => none
  | a, i, e :: r => if H.away a e = true then some i else Ho.aw H (H.to a e) (i + 1) r
theorem aw_laid {H : Ho} : ∀ {r : List De} {a : Int} {i : Nat}, Laid H a r → H.aw a i r = none
  | [], _, _, _ => rfl
  | e :: r, a, i, l => by
    unfold Ho.aw
    rw [l.2.1]
    exact aw_laid l.2.2
theorem laid_aw {H : Ho} : ∀ {r : List De} {a : Int} {i : Nat}, (∀ e ∈ r, DeOk H e) → H.aw a i r = none → Laid H a r
  | [], _, _, _, _ => trivial
  | e :: r, a, i, k, l => by
    unfold Ho.aw at l
    by_cases c : H.away a e = true
    · rw [if_pos c] at l; cases l
    · rw [if_neg c] at l
      exact ⟨k e (List.mem_cons_self), by simpa using c, laid_aw (fun d hd => k d (List.mem_cons_of_mem _ hd)) l⟩
def enumI : Nat → List De → List (Nat × De)
  | _, [] => []
  | i, e :: r => (i, e) :: enumI (i + 1) r
theorem enumI_eq : ∀ (r : List De) (i : Nat), enums i (r.map De.d) = (enumI i r).map fun p => PV.d (.tuple [.int p.1, p.2.d])
  | [], _ => rfl
  | e :: r, i => congrArg (PV.d (.tuple [.int i, e.d]) :: ·) (enumI_eq r (i + 1))
def natV : Option Nat → PV
  | none => .d .none
  | some i => .d (.int i)
theorem toR_in {H : Ho} (ok : HoOk H) : ∀ {r : List De} {a : Int}, 0 ≤ a → a < H.n → 0 ≤ H.toR a r ∧ H.toR a r < H.n
  | [], _, h1, h2 => ⟨h1, h2⟩
  | e :: r, a, h1, h2 => by
    have := to_in (e := e) ok h1 h2
    exact toR_in ok (r := r) this.1 this.2
section
variable {P : Pg} (L : Lk P) {Q : PV → Hs → Prop} {h : Hs} {n i : Nat}
include L
theorem need_hall_S {H : Ho} {a : Int} (ok : HoOk H) (h1 : 0 ≤ a) (h2 : a < H.n) (q : Q (.d .none) h) : Sat (callN P (n + 10) "need_hall" [.d H.d, .d (.int a)] h) Q := by
  rw [call0 L.need_hall rfl]
  simp [f_need_hall]
  refine need_house_S L ok ?_
  refine is_hall_S (n := n + 6) L h1 h2 ?_
  simpa using q
theorem away_at_S {H : Ho} {a : Int} {row : List De} (q : Q (natV (H.aw a 0 row)) h) : Sat (callN P (n + 3) "away_at" [.d H.d, .d (.int a), .d (rwD row)] h) Q := by
  rw [call0 L.away_at rfl]
  simp [f_away_at, rwD, enumI_eq]
  refine forF_ret (fun ys σ h' => ∃ (a' : Int) (i : Nat) (r : List De) (u v : Option PV), ys = enumI i r ∧ σ = [some (.d H.d), some (.d (.int a')), some (.d (.tuple (row.map De.d))), u, v] ∧ h' = h ∧ H.aw a' i r = H.aw a 0 row) ?_ _ _ _ ?_ ?_
  · rintro y ys σ h' ⟨a', i, r, u, v, e, rfl, rfl, ea⟩
    cases r with
    | nil => cases e
    | cons d r =>
      injection e with e1 e2
      subst e1
      refine ⟨_, by simp [asg]; rfl, ?_⟩
      simp
      refine is_away_S (n := n) L ?_
      have ea : (if H.away a' d = true then some i else H.aw (H.to a' d) (i + 1) r) = H.aw a 0 row := ea
      by_cases c : H.away a' d = true
      · rw [if_pos c] at ea
        rw [← ea] at q
        simp [c]
        simpa [natV] using q
      · rw [if_neg c] at ea
        have c : H.away a' d = false := by simpa using c
        simp [c]
        refine hall_behind_S (n := n) L c ?_
        simp [asg]
        exact ⟨_, _, r, e2, rfl, ea⟩
  · exact ⟨a, 0, row, _, _, rfl, rfl, rfl, rfl⟩
  · rintro σ h' ⟨a', i, r, u, v, e, rfl, rfl, ea⟩
    cases r with
    | cons d r => cases e
    | nil =>
      rw [← ea] at q
      simpa [natV, Ho.aw] using q
theorem first_away_S {H : Ho} {a : Int} {row : List De} (ok : HoOk H) (h1 : 0 ≤ a) (h2 : a < H.n) (hr : ∀ e ∈ row, DeOk H e) (hl : row.length ≤ line) (q : Q (natV (H.aw a 0 row)) h) : Sat (callN P (n + 11) "first_away" [.d H.d, .d (.int a), .d (rwD row)] h) Q := by
  rw [call0 L.first_away rfl]
  simp [f_first_away]
  refine need_hall_S L ok h1 h2 ?_
  refine need_row_S (n := n + 6) L hr hl ?_
  refine away_at_S (n := n + 7) L ?_
  cases e : H.aw a 0 row with
  | none => rw [e] at q; simpa [natV] using q
  | some p => rw [e] at q; simpa [natV] using q
theorem need_laid_S {H : Ho} {a : Int} {row : List De} (ok : HoOk H) (h1 : 0 ≤ a) (h2 : a < H.n) (hr : Laid H a row) (hl : row.length ≤ line) (q : Q (.d .none) h) : Sat (callN P (n + 12) "need_laid" [.d H.d, .d (.int a), .d (rwD row)] h) Q := by
  rw [call0 L.need_laid rfl]
  simp [f_need_laid]
  refine first_away_S L ok h1 h2 hr.ok hl ?_
  rw [aw_laid hr]
  simp [natV, isNonV]
  simpa using q
end
end Hf
end

section
set_option Elab.async false
set_option linter.all false
set_option maxRecDepth 100000
/-! tables of heights -/
namespace Hf
open PySem Iw
def Ho.hgt (H : Ho) (j : Nat) : Int → Int → List De → Option Int
  | _, x, [] => some x
  | a, x, e :: r => if (H.gap a e j).1 ≤ x ∧ x ≤ (H.gap a e j).2 then Ho.hgt H j (H.to a e) (if H.wear e j < x then x - H.wear e j else 0) r else none
def intD : Option Int → PyData
  | none => .none
  | some i => .int i
def Ho.tabs (H : Ho) (a : Int) (r : List De) : List (List (Option Int)) := (rngI 0 H.t.toNat).map fun j => (rngI 0 7).map fun x => H.hgt j.toNat a x r
def tabD (t : List (Option Int)) : PyData := .tuple (t.map intD)
def tabsD (t : List (List (Option Int))) : PyData := .tuple (t.map tabD)
section
variable {P : Pg} (L : Lk P) {Q : PV → Hs → Prop} {h : Hs} {n i : Nat}
include L
theorem height_behind_S {H : Ho} {a x : Int} {j : Nat} {row : List De} (ok : HoOk H) (hl : Laid H a row) (hj : (j : Int) < H.t) (q : Q (.d (intD (H.hgt j a x row))) h) : Sat (callN P (n + 3) "height_behind" [.d H.d, .d (.int a), .d (rwD row), .d (.int j), .d (.int x)] h) Q := by
  rw [call0 L.height_behind rfl]
  simp [f_height_behind, rwD]
  refine forF_ret (g := fun e => .d (De.d e)) (fun ys σ h' => ∃ (a' x' : Int) (u v w : Option PV), σ = [some (.d H.d), some (.d (.int a')), some (.d (.tuple (row.map De.d))), some (.d (.int j)), some (.d (.int x')), u, v, w] ∧ h' = h ∧ Laid H a' ys ∧ H.hgt j a' x' ys = H.hgt j a x row) ?_ _ _ _ ?_ ?_
  · rintro e ys σ h' ⟨a', x', u, v, w, rfl, rfl, hl, ea⟩
    refine ⟨_, by simp [asg]; rfl, ?_⟩
    simp
    refine gap_of_S (n := n) L ok hl.2.1 hj ?_
    have ea : (if (H.gap a' e j).1 ≤ x' ∧ x' ≤ (H.gap a' e j).2 then H.hgt j (H.to a' e) (if H.wear e j < x' then x' - H.wear e j else 0) ys else none) = H.hgt j a x row := ea
    by_cases c1 : (H.gap a' e j).1 ≤ x'
    · by_cases c2 : x' ≤ (H.gap a' e j).2
      · rw [if_pos ⟨c1, c2⟩] at ea
        simp [asg, gD, c1, c2]
        refine wear_of_S (n := n + 1) L ok hl.1 hj ?_
        simp
        refine hall_behind_S (n := n) L hl.2.1 ?_
        refine ⟨_, rfl, _, _, ⟨_, _, _, rfl⟩, rfl, hl.2.2, ea⟩
      · rw [if_neg (by omega)] at ea
        rw [← ea] at q
        have c2' : (H.gap a' e j).2 < x' := by omega
        simp [asg, gD, c1, c2']
        exact .inl (by simpa [intD] using q)
    · rw [if_neg (by omega)] at ea
      rw [← ea] at q
      have c1' : x' < (H.gap a' e j).1 := by omega
      simp [asg, gD, c1']
      exact .inl (by simpa [intD] using q)
  · exact ⟨a, x, _, _, _, rfl, rfl, hl, rfl⟩
  · rintro σ h' ⟨a', x', u, v, w, rfl, rfl, hl, ea⟩
    rw [← ea] at q
    simpa [intD, Ho.hgt] using q
omit L in
/-- a list of data that is handed back from the store -/
theorem handed_lst {k m : Nat} {ds : List PyData} {h : Hs} (hm : k ≤ m) (e : h[m]? = some (.lst (ds.map PV.d))) : handed h k (.ref m) = some (.d (.list ds)) := by
  have go : ∀ ds : List PyData, ((ds.map PV.d).map (thaw h k 7)).foldr (fun o acc => o.bind fun x => acc.map (x :: ·)) (some []) = some ds := by
    intro ds
    induction ds with
    | nil => rfl
    | cons d ds ih =>
      rw [List.map_cons, List.map_cons, List.foldr_cons, ih]
      rfl
  show (if m < k then some (PV.ref m) else (thaw h k 8 (.ref m)).map .d) = _
  rw [if_neg (by omega)]
  show ((if m < k then none else match h[m]? with
    | some (.lst xs) => ((xs.map (thaw h k 7)).foldr (fun o acc => o.bind fun x => acc.map (x :: ·)) (some [])).map .list
    | _ => none).map PV.d) = _
  rw [if_neg (by omega), e]
  dsimp only
  rw [go ds]
  rfl
theorem does_by_S {H : Ho} {a : Int} {row : List De} (ok : HoOk H) (hl : Laid H a row) (q : Q (.d (tabsD (H.tabs a row))) h) : Sat (callN P (n + 4) "does_by" [.d H.d, .d (.int a), .d (rwD row)] h) Q := by
  have tl : line = 16777216 := rfl
  have ht := ok.t
  rw [call0 L.does_by rfl]
  simp [f_does_by, asg]
  refine ⟨by omega, ?_⟩
  rw [rngL_eq]
  refine forF_ret (fun ys σ hh => ∃ (ts : List (List (Option Int))) (lo : Int) (u v : Option PV), σ = [some (.d H.d), some (.d (.int a)), some (.d (rwD row)), some (.ref h.length), u, v] ∧ hh = h ++ [.lst (ts.map fun t => .d (tabD t))] ∧ ys = rngI lo ys.length ∧ 0 ≤ lo ∧ lo + ys.length = H.t ∧ ts ++ (ys.map fun j => (rngI 0 7).map fun x => H.hgt j.toNat a x row) = H.tabs a row) ?_ _ _ _ ?_ ?_
  · rintro j ys σ hh ⟨ts, lo, u, v, rfl, rfl, ey, l0, le, et⟩
    have e0 : (h ++ [Ob.lst (ts.map fun t => PV.d (tabD t))])[h.length]? = some (.lst (ts.map fun t => .d (tabD t))) := by simp
    rw [List.length_cons] at ey le
    obtain ⟨e1, e2⟩ := List.cons.inj (show j :: ys = lo :: rngI (lo + 1) ys.length from ey)
    subst e1
    refine ⟨_, by simp [asg]; rfl, ?_⟩
    have hj : ((j.toNat : Nat) : Int) < H.t := by omega
    simp
    refine ⟨lstAt_ref e0, by decide, ?_⟩
    rw [rngL_eq]
    refine sat_mapM (fun x => .d (intD (H.hgt j.toNat a x row))) ?_ ?_
    · intro x hx
      simp [Iw.wipe, asg]
      have := height_behind_S (n := n) (x := x) (Q := fun o h' => o = .d (intD (H.hgt j.toNat a x row)) ∧ h' = h ++ [Ob.lst (ts.map fun t => PV.d (tabD t))]) (h := h ++ [Ob.lst (ts.map fun t => PV.d (tabD t))]) L ok hl hj ⟨rfl, rfl⟩
      rw [Int.toNat_of_nonneg l0] at this
      exact this
    · rw [sat_lstF (ds := ((rngI 0 7).map fun x => H.hgt j.toNat a x row).map intD) (by rw [List.map_map, List.map_map]; rfl)]
      refine ⟨by rw [List.length_map, List.length_map, rngI_len]; decide, ?_⟩
      rw [bi_tupL]
      refine ⟨by rw [List.length_map, List.length_map, rngI_len]; decide, ?_⟩
      have tl2 : ts.length < line := by
        have := congrArg List.length et
        rw [List.length_append, Ho.tabs, List.length_map, List.length_map, rngI_len] at this
        omega
      refine (app_ref e0 (by rw [List.length_map]; exact tl2)).mpr ?_
      simp
      refine ⟨ts ++ [(rngI 0 7).map fun x => H.hgt j.toNat a x row], ?_, j + 1, e2, by omega, by omega, ?_⟩
      · rw [List.map_append]; rfl
      · rw [← et, List.append_assoc]; rfl
  · exact ⟨[], 0, _, _, rfl, by simp, by rw [rngI_len], by omega, by rw [rngI_len]; omega, rfl⟩
  · rintro σ hh ⟨ts, lo, u, v, rfl, rfl, ey, l0, le, et⟩
    have e0 : (h ++ [Ob.lst (ts.map fun t => PV.d (tabD t))])[h.length]? = some (.lst ((ts.map tabD).map .d)) := by simp
    simp
    refine (bi_tupR e0).mpr ⟨?_, ?_⟩
    · have := congrArg List.length et
      rw [List.length_append, Ho.tabs, List.length_map, List.length_map, rngI_len] at this
      rw [List.length_map]
      omega
    · rw [List.map_nil, List.append_nil] at et
      simp
      rw [et]
      exact q
theorem does_S {H : Ho} {a : Int} {row : List De} (ok : HoOk H) (h1 : 0 ≤ a) (h2 : a < H.n) (hl : Laid H a row) (hr : row.length ≤ line) (q : Q (.d (tabsD (H.tabs a row))) h) : Sat (callN P (n + 13) "does" [.d H.d, .d (.int a), .d (rwD row)] h) Q := by
  rw [call0 L.does rfl]
  simp [f_does]
  refine need_laid_S L ok h1 h2 hl hr ?_
  refine does_by_S (n := n + 8) L ok hl ?_
  simpa using q
end
end Hf
end

section
set_option Elab.async false
set_option linter.all false
set_option maxRecDepth 100000
/-! halls, coins -/
namespace Hf
open PySem Iw
def Ho.halls (H : Ho) : Int → List De → List Int
  | a, [] => [a]
  | a, e :: r => a :: Ho.halls H (H.to a e) r
theorem halls_len {H : Ho} : ∀ {r : List De} {a : Int}, (H.halls a r).length = r.length + 1
  | [], _ => rfl
  | e :: r, a => congrArg (· + 1) (halls_len (r := r))
theorem halls_last {H : Ho} : ∀ {r : List De} {a : Int}, (H.halls a r)[r.length]? = some (H.toR a r)
  | [], _ => rfl
  | e :: r, a => halls_last (r := r) (a := H.to a e)
theorem atI_last {α : Type} {xs : List α} {x : α} : L2.atI (xs ++ [x]) (-1) = some x := by
  unfold L2.atI L2.ixN
  rw [if_neg (by omega), if_pos (by simp; omega)]
  have : (-1 + (((xs ++ [x]).length : Nat) : Int)).toNat = xs.length := by rw [List.length_append, List.length_singleton]; omega
  show (xs ++ [x])[(-1 + (((xs ++ [x]).length : Nat) : Int)).toNat]? = some x
  rw [this]
  simp
@[simp] theorem neg_int {Q : PV → Hs → Prop} {h : Hs} {j : Int} : Sat (negv (.d (.int j)) h) Q ↔ Q (.d (.int (-j))) h := sat_ok
section
variable {P : Pg} (L : Lk P) {Q : PV → Hs → Prop} {h : Hs} {n i : Nat}
include L
theorem halls_of_S {H : Ho} {a : Int} {row : List De} (hl : Laid H a row) (hr : row.length < line) (q : Q (.d (.list ((H.halls a row).map .int))) h) : Sat (callN P (n + 3) "halls_of" [.d H.d, .d (.int a), .d (rwD row)] h) Q := by
  have tl : line = 16777216 := rfl
  rw [call0 L.halls_of rfl]
  simp [f_halls_of, asg, rwD]
  refine ⟨by decide, ?_⟩
  refine forF_ret (g := fun e => .d (De.d e)) (fun ys σ hh => ∃ (hs : List Int) (b : Int) (u : Option PV), σ = [some (.d H.d), some (.d (.int a)), some (.d (.tuple (row.map De.d))), some (.ref h.length), u] ∧ hh = h ++ [.lst ((hs ++ [b]).map fun x => .d (.int x))] ∧ Laid H b ys ∧ hs ++ H.halls b ys = H.halls a row) ?_ _ _ _ ?_ ?_
  · rintro e ys σ hh ⟨hs, b, u, rfl, rfl, ld, et⟩
    have e0 : (h ++ [Ob.lst ((hs ++ [b]).map fun x => PV.d (.int x))])[h.length]? = some (.lst ((hs ++ [b]).map fun x => .d (.int x))) := by simp
    refine ⟨_, by simp [asg]; rfl, ?_⟩
    have hl1 : hs.length + 1 ≤ row.length := by
      have := congrArg List.length et
      rw [List.length_append, halls_len, halls_len] at this
      rw [List.length_cons] at this
      omega
    have la := atI_last (xs := hs.map fun x => PV.d (.int x)) (x := PV.d (.int b))
    rw [List.map_append] at e0 ⊢
    simp
    refine ⟨lstAt_ref e0, ?_⟩
    refine (ix_ref e0).mpr ⟨_, la, ?_⟩
    refine hall_behind_S (n := n) L ld.2.1 ?_
    refine (app_ref e0 (by simp; omega)).mpr ?_
    simp
    refine ⟨hs ++ [b], _, ?_, ld.2.2, ?_⟩
    · simp
    · rw [← et, List.append_assoc]; rfl
  · exact ⟨[], a, _, rfl, by simp, hl, rfl⟩
  · rintro σ hh ⟨hs, b, u, rfl, rfl, ld, et⟩
    have e0 : (h ++ [Ob.lst ((hs ++ [b]).map fun x => PV.d (.int x))])[h.length]? = some (.lst (((hs ++ [b]).map PyData.int).map PV.d)) := by simp
    have et : hs ++ [b] = H.halls a row := et
    have := handed_lst (k := h.length) (Nat.le_refl _) e0
    simp at this
    simp [this]
    rw [← et] at q
    simpa using q
theorem ends_in_S {H : Ho} {a : Int} {row : List De} (ok : HoOk H) (h1 : 0 ≤ a) (h2 : a < H.n) (hl : Laid H a row) (hr : row.length < line) (q : Q (.d (.int (H.toR a row))) h) : Sat (callN P (n + 13) "ends_in" [.d H.d, .d (.int a), .d (rwD row)] h) Q := by
  rw [call0 L.ends_in rfl]
  simp [f_ends_in]
  refine need_laid_S L ok h1 h2 hl (Nat.le_of_lt hr) ?_
  refine halls_of_S (n := n + 9) L hl hr ?_
  simp
  have : ∃ hs, H.halls a row = hs ++ [H.toR a row] := by
    have e := halls_last (H := H) (r := row) (a := a)
    have l := halls_len (H := H) (r := row) (a := a)
    refine ⟨(H.halls a row).take row.length, ?_⟩
    rw [← List.take_append_drop row.length (H.halls a row)] 
    congr 1
    · rw [List.take_append_drop]
    · have h3 : row.length < (H.halls a row).length := by omega
      rw [List.drop_eq_getElem_cons h3, List.drop_of_length_le (by omega)]
      rw [List.getElem?_eq_getElem h3] at e
      injection e with e
      rw [e]
  obtain ⟨hs, e⟩ := this
  rw [e, List.map_append]
  exact ⟨_, atI_last, by simpa using q⟩
end
def Ho.fee (H : Ho) (a : Int) : De → Int
  | .lift _ => match H.sm a with
    | some s => s.2.2
    | none => 0
  | _ => 0
def Ho.coins (H : Ho) : Int → List De → Int
  | _, [] => 0
  | a, e :: r => H.fee a e + Ho.coins H (H.to a e) r
@[simp] theorem aug_int {Q : PV → Hs → Prop} {h : Hs} {i j : Int} : Sat (augv (.d (.int i)) (.d (.int j)) h) Q ↔ Q (.d (.int (i + j))) h := sat_ok
@[simp] theorem sm_2 {Q : PV → Hs → Prop} {h : Hs} {s : Int × Int × Int} : Sat (ixv1 (.d (sD s)) (.d (.int 2)) h) Q ↔ Q (.d (.int s.2.2)) h := by
  simp [sD, L2.atI, L2.ixN]
@[simp] theorem fl : ((Str.ofString "file") == (Str.ofString "lift")) = false := by decide
@[simp] theorem gl : ((Str.ofString "go") == (Str.ofString "lift")) = false := by decide
@[simp] theorem ll : ((Str.ofString "lift") == (Str.ofString "lift")) = true := by decide
section
variable {cf : Str → List PV → Hs → R PV} {k i : Nat} {σ : Sg} {h : Hs} {Qf : Fl × Sg → Hs → Prop}
@[simp] theorem s_aug {e : E} : Sat (evS cf k (.aug i e) σ h) Qf ↔ ∃ x, σ[i]? = some (some x) ∧ Sat ((den cf k e).e σ h) fun y h1 => Sat (augv x y h1) fun z h2 => Qf (.nx, σ.set i (some z)) h2 := by
  show Sat (match σ[i]? with
    | some (some x) => (evE cf k e σ h).bind fun y h1 => (augv x y h1).bind fun z h2 => .ok (.nx, σ.set i (some z)) h2
    | _ => .bad) Qf ↔ _
  cases e1 : σ[i]? with
  | none => exact ⟨fun s => (sat_bad.mp s).elim, fun ⟨_, e, _⟩ => nomatch e⟩
  | some o =>
    cases o with
    | none => exact ⟨fun s => (sat_bad.mp s).elim, fun ⟨_, e, _⟩ => nomatch e⟩
    | some x =>
      dsimp only
      rw [sat_bind]
      constructor
      · intro s
        refine ⟨x, rfl, s.mono fun y h1 s => ?_⟩
        rw [sat_bind] at s
        exact s.mono fun z h2 s => sat_ok.mp s
      · rintro ⟨_, e, s⟩
        cases e
        refine s.mono fun y h1 s => ?_
        rw [sat_bind]
        exact s.mono fun z h2 s => sat_ok.mpr s
end
section
variable {P : Pg} (L : Lk P) {Q : PV → Hs → Prop} {h : Hs} {n i : Nat}
include L
theorem coins_by_S {H : Ho} {a : Int} {row : List De} (hl : Laid H a row) (q : Q (.d (.int (H.coins a row))) h) : Sat (callN P (n + 3) "coins_by" [.d H.d, .d (.int a), .d (rwD row)] h) Q := by
  rw [call0 L.coins_by rfl]
  simp [f_coins_by, asg, rwD]
  refine forF_ret (g := fun e => .d (De.d e)) (fun ys σ hh => ∃ (b c : Int) (u : Option PV), σ = [some (.d H.d), some (.d (.int b)), some (.d (.tuple (row.map De.d))), some (.d (.int c)), u] ∧ hh = h ∧ Laid H b ys ∧ c + H.coins b ys = H.coins a row) ?_ _ _ _ ?_ ?_
  · rintro e ys σ hh ⟨b, c, u, rfl, rfl, ld, et⟩
    refine ⟨_, by simp [asg]; rfl, ?_⟩
    have et : c + (H.fee b e + H.coins (H.to b e) ys) = H.coins a row := et
    cases e with
    | go l =>
      have et : c + (0 + H.coins (H.to b (.go l)) ys) = H.coins a row := et
      simp
      refine hall_behind_S (n := n) L ld.2.1 ?_
      simp [asg]
      exact ⟨_, _, ⟨rfl, rfl⟩, ld.2.2, by omega⟩
    | file t =>
      have et : c + (0 + H.coins (H.to b (.file t)) ys) = H.coins a row := et
      simp
      refine hall_behind_S (n := n) L ld.2.1 ?_
      simp [asg]
      exact ⟨_, _, ⟨rfl, rfl⟩, ld.2.2, by omega⟩
    | lift t =>
      have aw : (H.sm b).isNone = false := ld.2.1
      have et : c + ((match H.sm b with
        | some s => s.2.2
        | none => 0) + H.coins (H.to b (.lift t)) ys) = H.coins a row := et
      cases es : H.sm b with
      | none => rw [es] at aw; cases aw
      | some s =>
        rw [es] at et
        have et : c + (s.2.2 + H.coins (H.to b (.lift t)) ys) = H.coins a row := et
        simp
        refine smith_at_S (n := n + 1) L ?_
        rw [es]
        simp
        refine hall_behind_S (n := n) L ld.2.1 ?_
        simp [asg]
        exact ⟨_, _, ⟨rfl, rfl⟩, ld.2.2, by omega⟩
  · exact ⟨a, 0, _, rfl, rfl, hl, by omega⟩
  · rintro σ hh ⟨b, c, u, rfl, rfl, ld, et⟩
    have et : c + 0 = H.coins a row := et
    rw [← et] at q
    simpa using q
theorem coins_of_S {H : Ho} {a : Int} {row : List De} (ok : HoOk H) (h1 : 0 ≤ a) (h2 : a < H.n) (hl : Laid H a row) (hr : row.length ≤ line) (q : Q (.d (.int (H.coins a row))) h) : Sat (callN P (n + 13) "coins_of" [.d H.d, .d (.int a), .d (rwD row)] h) Q := by
  rw [call0 L.coins_of rfl]
  simp [f_coins_of]
  refine need_laid_S L ok h1 h2 hl hr ?_
  refine coins_by_S (n := n + 9) L hl ?_
  simpa using q
end
end Hf
end

section
set_option Elab.async false
set_option linter.all false
set_option maxRecDepth 100000
/-! the house that the laws of plays draw -/
namespace Iw
open PySem L2
section
variable {Qf : Fl × Sg → Hs → Prop}
theorem forF_allM {β : Type} {g : β → PV} {t : Tg} {F : Sg → Hs → R (Fl × Sg)} (I : List β → Sg → Hs → Prop) (step : ∀ y ys σ h, I (y :: ys) σ h → ∃ σ1, asg t (g y) σ = some σ1 ∧ Sat (F σ1 h) fun p h2 => p.1 = .nx ∧ I ys p.2 h2)
    (ys : List β) (σ : Sg) (h : Hs) (i : I ys σ h) (q : ∀ σ' h', I [] σ' h' → Qf (.nx, σ') h') : Sat (forF t F (ys.map g) σ h) Qf :=
  forF_ret I (fun y ys σ h i => let ⟨σ1, e, s⟩ := step y ys σ h i; ⟨σ1, e, s.mono fun p h2 z => .inl z⟩) ys σ h i q
end
end Iw
namespace Hf
open PySem Iw
theorem all2_sub {α : Type} {f : α → PV} : ∀ {xs : List α} {os : List (Option PV)}, All2 (fun x o => o = none ∨ o = some x) (xs.map f) os → ∃ ys : List α, ys.Sublist xs ∧ os.filterMap id = ys.map f
  | [], os, a => by
    cases a
    exact ⟨[], List.Sublist.slnil, rfl⟩
  | x :: xs, os, a => by
    cases a with
    | cons y a =>
      obtain ⟨ys, h1, h2⟩ := all2_sub a
      rcases y with rfl | rfl
      · exact ⟨ys, h1.cons x, by simpa using h2⟩
      · exact ⟨x :: ys, h1.cons_cons x, by simpa using h2⟩
theorem all2_smiths : ∀ {k : Nat} {lo : Int} {os : List (Option PV)}, All2 (fun x o => ∃ k g c : Int, x = PV.d (.int k) ∧ (0 ≤ g ∧ g < 6) ∧ (0 ≤ c ∧ c < 9) ∧ o = some (PV.d (sD (k, 1 + g, 1 + c)))) ((rngI lo k).map fun i => PV.d (.int i)) os →
    ∃ ss : List (Int × Int × Int), ss.map (·.1) = rngI lo k ∧ (∀ s ∈ ss, (1 ≤ s.2.1 ∧ s.2.1 ≤ 6) ∧ 1 ≤ s.2.2 ∧ s.2.2 ≤ 9) ∧ os.filterMap id = (ss.map sD).map PV.d
  | 0, lo, os, a => by
    cases a
    exact ⟨[], rfl, by simp, rfl⟩
  | k + 1, lo, os, a => by
    cases a with
    | cons y a =>
      obtain ⟨k', g, c, e, hg, hc, rfl⟩ := y
      injection e with e
      injection e with e
      subst e
      obtain ⟨ss, h1, h2, h3⟩ := all2_smiths a
      refine ⟨(lo, 1 + g, 1 + c) :: ss, ?_, ?_, by simpa using h3⟩
      · rw [List.map_cons, h1]; rfl
      · intro s hs
        rcases List.mem_cons.mp hs with e | hs
        · rw [e]; exact ⟨⟨by show 1 ≤ 1 + g; omega, by show 1 + g ≤ 6; omega⟩, by show 1 ≤ 1 + c; omega, by show 1 + c ≤ 9; omega⟩
        · exact h2 s hs
theorem len_ref {h : Hs} {n : Nat} {xs : List PV} (e : h[n]? = some (.lst xs)) : lenOf h (.ref n) = some xs.length := by
  show (match h[n]? with
    | some (.lst xs) => some xs
    | _ => none).map List.length = _
  rw [e]; rfl
section
variable {P : Pg} (D : LkD P) (Bk : LkB P) {Q : PV → Hs → Prop} {h : Hs} {n i : Nat}
include D Bk
theorem gaps_S {t : Int} {B : Nat} (ht : 1 ≤ t ∧ t ≤ 3) (hp : PenAt h n (B + 12)) (q : ∀ b h', BoxOk t b → Fr n h h' → PenAt h' n B → Q (.d (bD b)) h') : Sat (callN P (i + 2) "_law_gaps" [.ref n, .d (.int t)] h) Q := by
  have tl : line = 16777216 := rfl
  have nlt := hp.lt
  rw [call0 Bk.law_gaps rfl]
  simp [fB_law_gaps, asg]
  refine ⟨by omega, ?_⟩
  rw [rngL_eq]
  have x0 : Ex n h (h ++ [.lst []]) [.lst []] := (Ex.nil .refl).push
  have p0 : PenAt (h ++ [.lst []]) n (B + 12) := hp.push
  refine forF_allM (fun ys σ hh => ∃ (bx : List (Int × Int)) (x3 x4 : Option PV), σ = [some (.ref n), some (.d (.int t)), some (.ref h.length), x3, x4] ∧ Ex n h hh [.lst (bx.map fun g => .d (gD g))] ∧ PenAt hh n (B + ys.length * 4) ∧ (bx.length + ys.length : Int) = t ∧ ∀ g ∈ bx, 0 ≤ g.1 ∧ g.1 ≤ g.2 ∧ g.2 ≤ 6) ?_ _ _ _ ?_ ?_
  · rintro y ys σ hh ⟨bx, x3, x4, rfl, ex, p, el, gk⟩
    refine ⟨_, by simp [asg]; rfl, ?_⟩
    rw [List.length_cons] at p el
    simp
    refine draw_S D (m := 4) (B := B + ys.length * 4 + 3) (p.less (by omega)) (by decide) (by decide) ?_
    intro d1 h1 l1 u1 f1 p1
    simp
    refine draw_S D (m := 2) p1 (by decide) (by decide) ?_
    intro d2 h2 l2 u2 f2 p2
    have f2 := f1.trans f2
    rw [ix_d, ix1_lst]
    have e2 : ∃ lo : Int, L2.atI [PyData.int 0, .int d1] d2 = some (.int lo) ∧ 0 ≤ lo ∧ lo ≤ 3 := by
      have : d2 = 0 ∨ d2 = 1 := by omega
      rcases this with rfl | rfl
      · exact ⟨0, rfl, by omega, by omega⟩
      · exact ⟨d1, rfl, by omega, by omega⟩
    obtain ⟨lo, e2, g1, g2⟩ := e2
    refine ⟨_, e2, ?_⟩
    have ex := ex.fr nlt f2
    have e3 : h2[h.length]? = some (.lst (bx.map fun g => .d (gD g))) := ex.obs 0 (by simp)
    simp [asg]
    refine ⟨lstAt_ref e3, ?_⟩
    refine draw_S D (m := 7 - lo) p2 (by omega) (by omega) ?_
    intro d3 h3 l3 u3 f3 p3
    simp
    refine draw_S D (m := 2) p3 (by decide) (by decide) ?_
    intro d4 h4 l4 u4 f4 p4
    have f4 := f3.trans f4
    rw [ix_d, ix1_lst]
    have e4 : ∃ hi : Int, L2.atI [PyData.int 6, .int (lo + d3)] d4 = some (.int hi) ∧ lo ≤ hi ∧ hi ≤ 6 := by
      have : d4 = 0 ∨ d4 = 1 := by omega
      rcases this with rfl | rfl
      · exact ⟨6, rfl, by omega, by omega⟩
      · exact ⟨lo + d3, rfl, by omega, by omega⟩
    obtain ⟨hi, e4, g3, g4⟩ := e4
    refine ⟨_, e4, ?_⟩
    have ex := ex.fr nlt f4
    have e5 : h4[h.length]? = some (.lst (bx.map fun g => .d (gD g))) := ex.obs 0 (by simp)
    simp
    refine (app_ref e5 (by rw [List.length_map]; omega)).mpr ?_
    refine ⟨bx ++ [(lo, hi)], ?_, ?_, ?_, ?_⟩
    · rw [show (bx ++ [(lo, hi)]).map (fun g => PV.d (gD g)) = bx.map (fun g => PV.d (gD g)) ++ [PV.d (.tuple [.int lo, .int hi])] from by rw [List.map_append]; rfl]
      exact ex.set (m := 0) (by simp)
    · exact p4.setO (by omega)
    · simp; omega
    · intro a b hg
      have : ∀ g ∈ bx ++ [(lo, hi)], 0 ≤ g.1 ∧ g.1 ≤ g.2 ∧ g.2 ≤ 6 := by
        intro g hg
        rcases List.mem_append.mp hg with hg | hg
        · exact gk g hg
        · rw [List.mem_singleton.mp hg]; exact ⟨g1, g3, g4⟩
      exact this (a, b) hg
  · exact ⟨[], _, _, rfl, x0, p0.less (by rw [rngI_len]; omega), by rw [rngI_len]; simp; omega, fun g hg => absurd hg (by simp)⟩
  · rintro σ hh ⟨bx, x3, x4, rfl, ex, p, el, gk⟩
    have e0 : hh[h.length]? = some (.lst (bx.map fun g => .d (gD g))) := ex.obs 0 (by simp)
    simp at el p
    simp
    refine (bi_tupR (ds := bx.map gD) (by rw [e0, List.map_map]; rfl)).mpr ⟨by rw [List.length_map]; omega, ?_⟩
    simp
    exact q bx _ ⟨by omega, gk⟩ ex.cut (PenAt.cut p nlt)
omit D Bk in
theorem rises_dr {ds : List Dr} (h : List.Pairwise (fun x y : Dr => x.a < y.a ∨ x.a = y.a ∧ x.l < y.l) ds) : RisesD (ds.map pairI) := by
  refine rises_pw (h.imp fun {x y} p => ⟨ltOk_ii _ _ _ _, ?_⟩)
  rw [show pairI x = .tuple [.int x.a, .int x.l] from rfl, show pairI y = .tuple [.int y.a, .int y.l] from rfl, PySem.W.dataLt_ii]
  simp
  omega
theorem drawn_house_S {t m : Int} {B : Nat} (ht : 1 ≤ t ∧ t ≤ 3) (hm : 1 ≤ m ∧ m ≤ 4) (hp : PenAt h n (B + 210)) (q : ∀ H h', HoOk H → H.t = t → Fr n h h' → PenAt h' n B → Q (.d H.d) h') : Sat (callN P (i + 3) "_law_drawn_house" [.ref n, .d (.int t), .d (.int m)] h) Q := by
  have tl : line = 16777216 := rfl
  have nlt := hp.lt
  rw [call0 Bk.law_drawn_house rfl]
  simp [fB_law_drawn_house]
  refine draw_S D (m := m) (B := B + 209) hp (by omega) (by omega) ?_
  intro nh h1 nh0 nh1 f1 p1
  simp
  refine draw_S D (m := 3) (B := B + 208) p1 (by omega) (by omega) ?_
  intro nl h2 nl0 nl1 f2 p2
  have f2 := f1.trans f2
  simp
  refine ⟨_, rfl, ?_⟩
  simp [asg]
  refine ⟨by omega, ?_⟩
  rw [f2.len]
  have x2 : Ex n h ((h2 ++ [.lst []]) ++ [.lst []]) [.lst [], .lst []] := ((Ex.nil f2).push).push
  have p2 : PenAt ((h2 ++ [.lst []]) ++ [.lst []]) n (B + 208) := p2.push.push
  rw [List.append_assoc] at x2 p2
  rw [rngL_eq]
  refine forF_allM (fun ys σ hh => ∃ (ws : List (List Int)) (x3 x12 : Option PV), σ = [some (.ref n), some (.d (.int t)), some (.d (.int m)), x3, none, none, none, some (.d (.int (1 + nh))), some (.d (.int (1 + nl))), some (.ref h.length), some (.ref (h.length + 1)), none, x12] ∧ Ex n h hh [.lst (ws.map fun w => .d (kD w)), .lst []] ∧ PenAt hh n (B + 190 + ys.length * 6) ∧ (ws.length + ys.length : Int) = 1 + nl ∧ ∀ w ∈ ws, (w.length : Int) = t ∧ ∀ x ∈ w, 0 ≤ x ∧ x ≤ 3) ?_ _ _ _ ?_ ?_
  · rintro y ys σ hh ⟨ws, x3, x12, rfl, ex, p, el, wk⟩
    refine ⟨_, by simp [asg]; rfl, ?_⟩
    rw [List.length_cons] at p el
    simp
    have e1 : hh[h.length]? = some (.lst (ws.map fun w => .d (kD w))) := ex.obs 0 (by simp)
    refine ⟨lstAt_ref e1, by omega, ?_⟩
    refine sat_pen (n := n) (B := B + 190 + ys.length * 6) (fun _ o => ∃ g : Int, (0 ≤ g ∧ g ≤ 3) ∧ o = some (.d (.int g))) 2 (p.less (by rw [rngL_length]; omega)) ?_ ?_
    · intro x hx B' h' f p
      obtain ⟨k, rfl, _⟩ := rng_mem _ _ _ hx
      simp [Iw.wipe, asg]
      refine draw_S D (m := 4) p (by decide) (by decide) ?_
      intro g h3 g1 g2 f3 p3
      refine (sat_lstF (ds := [.int 0, .int 0, .int 1, .int g]) rfl).mpr ⟨(by decide : 4 ≤ line), ?_⟩
      refine draw_S D (m := 4) p3 (by decide) (by decide) ?_
      intro c h4 c1 c2 f4 p4
      rw [ix_d, ix1_lst]
      have cc : c = 0 ∨ c = 1 ∨ c = 2 ∨ c = 3 := by omega
      rcases cc with rfl | rfl | rfl | rfl
      · exact ⟨_, rfl, ⟨0, by omega, rfl⟩, f3.trans f4, p4⟩
      · exact ⟨_, rfl, ⟨0, by omega, rfl⟩, f3.trans f4, p4⟩
      · exact ⟨_, rfl, ⟨1, by omega, rfl⟩, f3.trans f4, p4⟩
      · exact ⟨_, rfl, ⟨g, by omega, rfl⟩, f3.trans f4, p4⟩
    · intro os h' al f p'
      obtain ⟨gs, ge1, ge2, ge3⟩ := all2_map (f := PyData.int) al
      rw [rngL_length] at ge1
      rw [ge3, sat_lstF (ds := gs.map .int) rfl]
      refine ⟨by rw [List.length_map]; omega, ?_⟩
      simp
      refine ⟨by omega, ?_⟩
      have ex' := ex.fr nlt f
      have e2 : h'[h.length]? = some (.lst (ws.map fun w => .d (kD w))) := ex'.obs 0 (by simp)
      refine (app_ref e2 (by rw [List.length_map]; omega)).mpr ?_
      refine ⟨ws ++ [gs], ?_, ?_, ?_, ?_⟩
      · rw [show (ws ++ [gs]).map (fun w => PV.d (kD w)) = ws.map (fun w => PV.d (kD w)) ++ [PV.d (.tuple (gs.map .int))] from by rw [List.map_append]; rfl]
        exact ex'.set (m := 0) (by simp)
      · exact p'.setO (by omega)
      · simp; omega
      · intro w hw
        rcases List.mem_append.mp hw with hw | hw
        · exact wk w hw
        · rw [List.mem_singleton.mp hw]; exact ⟨by omega, ge2⟩
  · exact ⟨[], _, _, rfl, x2, p2.less (by rw [rngI_len]; omega), by rw [rngI_len]; simp; omega, fun w hw => absurd hw (by simp)⟩
  · rintro σ hh ⟨ws, x3, x12, rfl, ex, p, el, wk⟩
    simp at el
    simp at p
    simp
    refine ⟨by omega, ?_⟩
    rw [rngL_eq]
    refine forF_allM (fun ys σ hh => ∃ (ds : List Dr) (x3 x4 : Option PV) (lo : Int), σ = [some (.ref n), some (.d (.int t)), some (.d (.int m)), x3, x4, none, none, some (.d (.int (1 + nh))), some (.d (.int (1 + nl))), some (.ref h.length), some (.ref (h.length + 1)), none, x12] ∧ Ex n h hh [.lst (ws.map fun w => .d (kD w)), .lst (ds.map fun d => .d d.d)] ∧ PenAt hh n (B + 20 + ys.length * 42) ∧ ys = rngI lo ys.length ∧ 0 ≤ lo ∧ lo + ys.length = 1 + nh ∧ ds.length ≤ 10 ∧ (∀ d ∈ ds, DrOk t (1 + nh) (1 + nl) d ∧ d.a < lo) ∧ List.Pairwise (fun x y : Dr => x.a < y.a ∨ x.a = y.a ∧ x.l < y.l) ds) ?_ _ _ _ ?_ ?_
    · rintro y ys σ hh ⟨ds, x3, x4, lo, rfl, ex, p, ey, l0, le, dl, dk, dp⟩
      refine ⟨_, by simp [asg]; rfl, ?_⟩
      rw [List.length_cons] at p ey le
      obtain ⟨ey1, ey2⟩ := List.cons.inj (show y :: ys = lo :: rngI (lo + 1) ys.length from ey)
      subst ey1
      simp
      refine ⟨by omega, ?_⟩
      rw [rngL_eq]
      refine forF_allM (fun zs σ hh => ∃ (ds : List Dr) (x3 : Option PV) (lp : Int), σ = [some (.ref n), some (.d (.int t)), some (.d (.int m)), x3, some (.d (.int y)), none, none, some (.d (.int (1 + nh))), some (.d (.int (1 + nl))), some (.ref h.length), some (.ref (h.length + 1)), none, x12] ∧ Ex n h hh [.lst (ws.map fun w => .d (kD w)), .lst (ds.map fun d => .d d.d)] ∧ PenAt hh n (B + 20 + ys.length * 42 + zs.length * 14) ∧ zs = rngI lp zs.length ∧ 0 ≤ lp ∧ lp + zs.length = 1 + nl ∧ ds.length ≤ 10 ∧ (∀ d ∈ ds, DrOk t (1 + nh) (1 + nl) d ∧ (d.a < y ∨ d.a = y ∧ d.l < lp)) ∧ List.Pairwise (fun x y : Dr => x.a < y.a ∨ x.a = y.a ∧ x.l < y.l) ds) ?_ _ _ _ ?_ ?_
      · rintro z zs σ hh ⟨ds, x3, lp, rfl, ex, p, ez, lp0, lpe, dl, dk, dp⟩
        refine ⟨_, by simp [asg]; rfl, ?_⟩
        rw [List.length_cons] at p ez lpe
        obtain ⟨ez1, ez2⟩ := List.cons.inj (show z :: zs = lp :: rngI (lp + 1) zs.length from ez)
        subst ez1
        have e1 : hh[h.length + 1]? = some (.lst (ds.map fun d => .d d.d)) := ex.obs 1 (by simp)
        have e1l := len_ref e1
        rw [List.length_map] at e1l
        simp [e1l]
        by_cases c10 : (ds.length : Int) < 10
        · refine .inr ⟨c10, ?_⟩
          refine draw_S D (m := 4) (B := B + 20 + ys.length * 42 + zs.length * 14 + 13) (p.less (by omega)) (by omega) (by omega) ?_
          intro g h6 g1 g2 f6 p6
          have ex := ex.fr nlt f6
          by_cases c : 0 < g
          · have e2 : h6[h.length + 1]? = some (.lst (ds.map fun d => .d d.d)) := ex.obs 1 (by simp)
            refine .inr ⟨by simp [c], lstAt_ref e2, ?_⟩
            refine draw_S D (m := 1 + nh) (B := B + 20 + ys.length * 42 + zs.length * 14 + 12) p6 (by omega) (by omega) ?_
            intro b h7 b1 b2 f7 p7
            refine gaps_S (i := i) D Bk ht (B := B + 20 + ys.length * 42 + zs.length * 14) p7 ?_
            intro bx h8 bo f8 p8
            have ex := ex.fr nlt (f7.trans f8)
            have e3 : h8[h.length + 1]? = some (.lst (ds.map fun d => .d d.d)) := ex.obs 1 (by simp)
            refine (sat_tup (ds := [.int y, .int z, .int b, bD bx]) rfl).mpr ⟨(by decide : 4 ≤ line), ?_⟩
            refine (app_ref e3 (by rw [List.length_map]; omega)).mpr ?_
            have bl := bo.1
            refine ⟨ds ++ [⟨y, z, b, bx⟩], ?_, ?_, z + 1, ez2, by omega, by omega, by simp; omega, ?_, ?_⟩
            · rw [show (ds ++ [(⟨y, z, b, bx⟩ : Dr)]).map (fun d => PV.d d.d) = ds.map (fun d => PV.d d.d) ++ [PV.d (.tuple [.int y, .int z, .int b, bD bx])] from by rw [List.map_append]; rfl]
              exact ex.set (m := 1) (by simp)
            · exact p8.setO (by omega)
            · intro d hd
              rcases List.mem_append.mp hd with hd | hd
              · exact ⟨(dk d hd).1, by have := (dk d hd).2; omega⟩
              · rw [List.mem_singleton.mp hd]
                exact ⟨⟨⟨by show 0 ≤ y; omega, by show y < 1 + nh; omega⟩, ⟨by show 0 ≤ z; omega, by show z < 1 + nl; omega⟩, ⟨b1, b2⟩, bo, by show bx.length ≤ line; omega⟩, .inr ⟨rfl, by show z < z + 1; omega⟩⟩
            · refine List.pairwise_append.mpr ⟨dp, List.pairwise_singleton _ _, ?_⟩
              intro a ha b hb
              rw [List.mem_singleton.mp hb]
              exact (dk a ha).2
          · refine .inl ⟨by simp [c], ?_⟩
            exact ⟨ds, ex, p6.less (by omega), z + 1, ez2, by omega, by omega, dl, fun d hd => ⟨(dk d hd).1, by have := (dk d hd).2; omega⟩, dp⟩
        · refine .inl ⟨by omega, ?_⟩
          exact ⟨ds, ex, p.less (by omega), z + 1, ez2, by omega, by omega, dl, fun d hd => ⟨(dk d hd).1, by have := (dk d hd).2; omega⟩, dp⟩
      · exact ⟨ds, _, 0, rfl, ex, p.less (by rw [rngI_len]; omega), by rw [rngI_len], by omega, by rw [rngI_len]; omega, dl, fun d hd => ⟨(dk d hd).1, .inl (dk d hd).2⟩, dp⟩
      · rintro σ hh ⟨ds, x3, lp, rfl, ex, p, ez, lp0, lpe, dl, dk, dp⟩
        simp at p lpe
        simp
        exact ⟨ds, ex, p, y + 1, ey2, by omega, by omega, dl, fun d hd => ⟨(dk d hd).1, by have := (dk d hd).2; omega⟩, dp⟩
    · exact ⟨[], _, _, 0, rfl, ex, p.less (by rw [rngI_len]; omega), by rw [rngI_len], by omega, by rw [rngI_len]; omega, by simp, fun d hd => absurd hd (by simp), List.Pairwise.nil⟩
    · rintro σ hh ⟨ds, x3, x4, lo, rfl, ex, p, ey, l0, le, dl, dk, dp⟩
      simp at p le
      simp
      refine ⟨by omega, ?_⟩
      refine sat_pen (n := n) (B := B + 16) (fun x o => o = none ∨ o = some x) 1 (p.less (by rw [rngL_length]; omega)) ?_ ?_
      · intro x hx B' h' f p
        obtain ⟨k, rfl, _⟩ := rng_mem _ _ _ hx
        simp [Iw.wipe, asg]
        refine draw_S D (m := 2) p (by decide) (by decide) ?_
        intro g h5 g1 g2 f5 p5
        simp
        by_cases c : g = 0
        · simp [c]; exact ⟨f5, p5⟩
        · simp [c]; exact ⟨f5, p5⟩
      intro os h5 al f5 p5
      rw [rngL_eq] at al
      obtain ⟨bs, bsub, be⟩ := all2_sub al
      have bl : bs.length ≤ 4 := by have := bsub.length_le; rw [rngI_len] at this; omega
      rw [be, sat_lstF (ds := bs.map .int) (by rw [List.map_map]; rfl)]
      refine ⟨by rw [List.length_map]; omega, ?_⟩
      have ex := ex.fr nlt f5
      simp [asg]
      refine ⟨by omega, by omega, ?_⟩
      refine sat_pen (n := n) (B := B + 4) (fun x o => ∃ k g c : Int, x = .d (.int k) ∧ (0 ≤ g ∧ g < 6) ∧ (0 ≤ c ∧ c < 9) ∧ o = some (.d (sD (k, 1 + g, 1 + c)))) 2 (p5.less (by rw [rngL_length]; omega)) ?_ ?_
      · intro x hx B' h' f p
        obtain ⟨k, rfl, _⟩ := rng_mem _ _ _ hx
        simp [Iw.wipe, asg]
        refine draw_S D (m := 6) p (by decide) (by decide) ?_
        intro g h6 g1 g2 f6 p6
        simp
        refine draw_S D (m := 9) p6 (by decide) (by decide) ?_
        intro c h7 c1 c2 f7 p7
        simp
        exact ⟨⟨g, ⟨g1, g2⟩, c, ⟨c1, c2⟩, rfl⟩, f6.trans f7, p7⟩
      intro os2 h6 al2 f6 p6
      rw [rngL_eq] at al2
      obtain ⟨s0, sf, sk, se⟩ := all2_smiths al2
      have ex := ex.fr nlt f6
      have s0l : s0.length ≤ 4 := by have := congrArg List.length sf; rw [List.length_map, rngI_len] at this; omega
      rw [se, sat_lstF (ds := s0.map sD) rfl]
      refine ⟨by rw [List.length_map]; omega, ?_⟩
      simp [asg]
      refine sat_pen (n := n) (B := B) (fun x o => o = none ∨ o = some x) 1 (p6.less (by rw [List.length_map]; omega)) ?_ ?_
      · intro x hx B' h' f p
        obtain ⟨z, hz, rfl⟩ := List.mem_map.mp hx
        simp [Iw.wipe, asg]
        refine draw_S D (m := 2) p (by decide) (by decide) ?_
        intro g h5 g1 g2 f5 p5
        simp
        by_cases c : g = 0
        · simp [c]; exact ⟨f5, p5⟩
        · simp [c]; exact ⟨f5, p5⟩
      intro os3 h7 al3 f7 p7
      obtain ⟨ss, ssub, se3⟩ := all2_sub al3
      have ssl : ss.length ≤ 4 := Nat.le_trans ssub.length_le s0l
      have ex := ex.fr nlt f7
      rw [se3, sat_lstF (ds := ss.map sD) (by rw [List.map_map])]
      refine ⟨by rw [List.length_map]; omega, ?_⟩
      have e0 : h7[h.length]? = some (.lst (ws.map fun w => .d (kD w))) := ex.obs 0 (by simp)
      have e1 : h7[h.length + 1]? = some (.lst (ds.map fun d => .d d.d)) := ex.obs 1 (by simp)
      simp [asg]
      refine ⟨by omega, ?_⟩
      refine (bi_tupR (ds := ws.map kD) (by rw [e0, List.map_map]; rfl)).mpr ⟨by rw [List.length_map]; omega, ?_⟩
      refine (bi_tupR (ds := ds.map Dr.d) (by rw [e1, List.map_map]; rfl)).mpr ⟨by rw [List.length_map]; omega, ?_⟩
      simp
      have rb := fun x (hx : x ∈ bs) => rngI_mem (bsub.subset hx)
      have sfw : List.Pairwise (fun x y : Int × Int × Int => x.1 < y.1) s0 := List.pairwise_map.mp (by rw [sf]; exact rngI_pw _ _)
      refine q ⟨t, 1 + nh, ws, ds, bs, ss⟩ _ ?_ rfl ex.cut (PenAt.cut p7 nlt)
      refine ⟨ht, ⟨by show 1 ≤ 1 + nh; omega, by show 1 + nh ≤ 6; omega⟩, ⟨by show 1 ≤ ws.length; omega, by show ws.length ≤ 6; omega⟩, wk, dl, fun x hx => by show DrOk t (1 + nh) ws.length x; rw [el]; exact (dk x hx).1, rises_dr dp, fun x hx => by have := rb x hx; show 0 ≤ x ∧ x < 1 + nh; omega, rises_int ((rngI_pw _ _).sublist bsub), by show bs.length ≤ line; omega, fun s hs => ?_, rises_fst (sfw.sublist ssub), by show ss.length ≤ line; omega⟩
      have hs0 := ssub.subset hs
      have h1 : s.1 ∈ rngI 0 (1 + nh).toNat := by rw [← sf]; exact List.mem_map_of_mem hs0
      have h1 := rngI_mem h1
      exact ⟨⟨by omega, by show s.1 < 1 + nh; omega⟩, (sk s hs0).1, (sk s hs0).2⟩
end
end Hf
end

section
set_option Elab.async false
set_option linter.all false
set_option maxRecDepth 100000
/-! the deeds of a hall, rows that end where they began -/
namespace Iw
open PySem L2
section
variable {Q : PV → Hs → Prop} {h : Hs} {n k : Nat}
theorem srt_ints {xs : List Int} (hp : List.Pairwise (fun x y : Int => x ≤ y) xs) : srtD (xs.map .int) = xs.map .int := by
  unfold srtD
  refine List.mergeSort_of_pairwise ?_
  refine List.pairwise_map.mpr (hp.imp fun {x y} e => ?_)
  have := congrFun (congrFun (PySem.W.dataLe_int (fun x : Int => x)) x) y
  have this : PySem.W.dataLe false id (PyData.int x) (PyData.int y) = decide (x ≤ y) := this
  rw [this]
  exact decide_eq_true e
/-- sorted of a dict by ints that rise -/
theorem srt_refK {kvs : List (L2.Key × PV)} {xs : List Int} (e : h[n]? = some (.dK kvs)) (ek : kvs.map (fun kv => keyD kv.1) = xs.map .int) (hp : List.Pairwise (fun x y : Int => x ≤ y) xs) (hl : xs.length ≤ line) : Sat (biop (.srt1 false) [.ref n] h) Q ↔ Q (PV.d (.list (xs.map .int))) h := by
  have e1 : (keysAll h (.ref n)).bind datas = some (xs.map .int) := by
    show (match h[n]? with
      | some (.dT kvs) => some (kvs.map fun (kv : List L2.Key × PV) => PV.d (.tuple (kv.1.map keyD)))
      | some (.dK kvs) => some (kvs.map fun (kv : L2.Key × PV) => PV.d (keyD kv.1))
      | _ => getL h (.ref n)).bind datas = _
    rw [e]
    show datas (kvs.map fun (kv : L2.Key × PV) => PV.d (keyD kv.1)) = _
    rw [← ek, ← datas_map', List.map_map]
    rfl
  have ok : srtOk (xs.map .int) = true := by
    unfold srtOk sortable
    simp only [Bool.and_eq_true, Bool.or_eq_true, List.all_map, List.all_eq_true, Function.comp, decide_eq_true_eq, List.length_map]
    exact ⟨fun x _ y _ => rfl, .inr fun x _ => trivial, hl, fun x _ => Nat.zero_le _⟩
  have e2 : biop (.srt1 false) [.ref n] h = .ok (PV.d (.list (xs.map .int))) h := by
    show (match (keysAll h (.ref n)).bind datas with
      | some ds => if srtOk ds = true then mkL false ((srtD ds).map PV.d) h else .bad
      | none => .bad) = _
    rw [e1]
    dsimp only
    rw [if_pos ok, srt_ints hp]
    show R.of ((datas ((xs.map PyData.int).map PV.d)).map fun ds => PV.d (.list ds)) h = _
    rw [datas_map']
    rfl
  rw [e2, sat_ok]
theorem ix_refK {kvs : List (L2.Key × PV)} {i : Int} {v : PV} (e : h[n]? = some (.dK kvs)) (ev : valP kvs (.inl i) = some v) : Sat (ixv (.ref n) (PV.d (.int i)) h) Q ↔ Q v h := by
  have e1 : dgetv h (.ref n) (.int i) = some (some v) := by
    show (match h[n]? with
      | some o => dgetO o (.int i)
      | none => none) = _
    rw [e]
    show some (valP kvs (.inl i)) = _
    rw [ev]
  have e2 : ixv (.ref n) (PV.d (.int i)) h = .ok v h := by
    show (match dgetv h (.ref n) (.int i) with
      | some o => R.of o h
      | none => ixv1 (.ref n) (PV.d (.int i)) h) = _
    rw [e1]
    rfl
  rw [e2, sat_ok]
/-- a dict made of pairs whose keys differ -/
theorem mergeP_new {κ : Type} [DecidableEq κ] : ∀ {more kvs : List (κ × PV)}, ((kvs ++ more).map (·.1)).Nodup → mergeP kvs more = kvs ++ more
  | [], kvs, _ => by simp [mergeP]
  | m :: more, kvs, hn => by
    show mergeP (putP kvs m.1 m.2) more = _
    have e : putP kvs m.1 m.2 = kvs ++ [m] := by
      unfold putP
      rw [if_neg]
      intro z
      obtain ⟨y, hy, e⟩ := List.any_eq_true.mp z
      have e := of_decide_eq_true e
      rw [List.map_append, List.nodup_append] at hn
      exact hn.2.2 y.1 (List.mem_map_of_mem hy) m.1 (by simp) e
    rw [e, mergeP_new (more := more) (kvs := kvs ++ [m]) (by simpa using hn)]
    simp
theorem dict1_S {ds : List PyData} {kvs : List (L2.Key × PyData)} (e : pairsK ds = some kvs) (hn : (kvs.map (·.1)).Nodup) : Sat (biop .dict1 [.d (.list ds)] h) Q ↔ Q (.ref h.length) (h ++ [.dK (kvs.map fun kv => (kv.1, .d kv.2))]) := by
  have e2 : biop .dict1 [.d (.list ds)] h = .ok (.ref h.length) (h ++ [.dK (kvs.map fun kv => (kv.1, .d kv.2))]) := by
    show (match pairsK ds with
      | some kvs => R.ok (PV.ref h.length) (h ++ [Ob.dK (mergeP [] (kvs.map fun (kv : L2.Key × PyData) => (kv.1, PV.d kv.2)))])
      | none => .bad) = _
    rw [e]
    dsimp only
    rw [mergeP_new (kvs := []) (by rw [List.nil_append, List.map_map]; exact hn)]
    rfl
  rw [e2, sat_ok]
end
end Iw
namespace Hf
open PySem Iw
/-- the doors of a hall -/
def Ho.drs (H : Ho) (a : Int) : List Dr := H.ds.filter fun x => decide (x.a = a)
def kvL (x : Dr) : L2.Key × PyData := (.inl x.l, .tuple [.int x.b, bD x.bx])
theorem lex_of : ∀ {ds : List Dr}, RisesD (ds.map pairI) → List.Pairwise (fun x y : Dr => x.a < y.a ∨ x.a = y.a ∧ x.l < y.l) ds
  | [], _ => .nil
  | [x], _ => List.pairwise_singleton _ _
  | x :: y :: r, h => by
    have hr : RisesD ((y :: r).map pairI) := h.2
    have p := lex_of hr
    have lt := h.1.2
    rw [show pairI x = .tuple [.int x.a, .int x.l] from rfl, show pairI y = .tuple [.int y.a, .int y.l] from rfl, PySem.W.dataLt_ii] at lt
    simp at lt
    refine List.pairwise_cons.mpr ⟨fun z hz => ?_, p⟩
    rcases List.mem_cons.mp hz with e | hz
    · rw [e]; omega
    · have := (List.pairwise_cons.mp p).1 z hz
      omega
theorem drs_pw {H : Ho} (ok : HoOk H) (a : Int) : List.Pairwise (fun x y : Dr => x.l < y.l) (H.drs a) := by
  have p := (lex_of ok.dr).filter (fun x => decide (x.a = a))
  refine List.Pairwise.imp_of_mem (fun {x y} hx hy e => ?_) p
  have h1 : x.a = a := by simpa using (List.mem_filter.mp hx).2
  have h2 : y.a = a := by simpa using (List.mem_filter.mp hy).2
  omega
theorem drs_get {H : Ho} {a l : Int} : valP ((H.drs a).map fun x => ((kvL x).1, PV.d (kvL x).2)) (.inl l) = (H.dr a l).map fun p => PV.d (kvL p.2).2 := by
  unfold Ho.drs Ho.dr
  generalize (0 : Nat) = k
  induction H.ds generalizing k with
  | nil => rfl
  | cons x ds ih =>
    rw [List.filter_cons]
    unfold fdI
    by_cases c : x.a = a
    · simp only [c, decide_true, if_true, true_and]
      by_cases d : x.l = l
      · simp [d, valP, kvL]
      · rw [if_neg d, ← ih (k + 1)]
        have : ¬ (kvL x).1 = .inl l := fun z => d (by simpa [kvL] using z)
        simp [valP, this]
    · simp only [c, decide_false, false_and, if_false]
      exact ih (k + 1)
section
variable {P : Pg} (D : LkD P) (Bk : LkB P) {Q : PV → Hs → Prop} {h : Hs} {n i : Nat}
include D Bk
omit D in
theorem doors_S {H : Ho} {a : Int} (ok : HoOk H) (q : Q (.ref h.length) (h ++ [.dK ((H.drs a).map fun x => ((kvL x).1, PV.d (kvL x).2))])) : Sat (callN P (i + 1) "_law_doors" [.d H.d, .d (.int a)] h) Q := by
  have tl : line = 16777216 := rfl
  refine call1 Bk.law_doors rfl ?_
  simp [fB_law_doors]
  refine sat_filtM (f := fun x => .d (Dr.d x)) (xs := H.ds) (fun x => decide (x.a = a)) (fun x => .d (.tuple [.int x.l, .tuple [.int x.b, bD x.bx]])) ?_ ?_
  · intro x hx
    by_cases c : x.a = a
    · simp [Iw.wipe, asg, Dr.d, c]
    · simp [Iw.wipe, asg, Dr.d, c]
  · have dl : (H.drs a).length ≤ 10 := Nat.le_trans (List.length_filter_le _ _) ok.d0
    have pw := drs_pw ok a
    rw [show H.ds.filter (fun x => decide (x.a = a)) = H.drs a from rfl]
    generalize H.drs a = ds at dl pw q
    rw [sat_lstF (ds := ds.map fun x => .tuple [.int x.l, .tuple [.int x.b, bD x.bx]]) (by rw [List.map_map]; rfl)]
    refine ⟨by rw [List.length_map]; omega, ?_⟩
    have e : pairsK (ds.map fun x => .tuple [.int x.l, .tuple [.int x.b, bD x.bx]]) = some (ds.map kvL) := by
      clear q pw dl
      induction ds with
      | nil => rfl
      | cons x ds ih =>
        show ((keyOf (.int x.l)).bind fun q => (pairsK (ds.map fun x => .tuple [.int x.l, .tuple [.int x.b, bD x.bx]])).map ((q, .tuple [.int x.b, bD x.bx]) :: ·)) = _
        rw [ih]
        rfl
    refine (dict1_S e ?_).mpr ?_
    · rw [List.map_map]
      exact List.pairwise_map.mpr (pw.imp fun {x y} z w => by simp [kvL] at w; omega)
    · have eh : handK (h ++ [.dK ((ds.map kvL).map fun kv => (kv.1, PV.d kv.2))]) h.length (.ref h.length) = .ok (.ref h.length) (h ++ [.dK ((ds.map kvL).map fun kv => (kv.1, PV.d kv.2))]) := by
        unfold handK
        simp [keepOb, keepV]
      simp only [eh, sat_ok]
      rw [List.map_map]
      exact q
omit D Bk in
theorem in_ints {a : Int} {xs : List Int} {h : Hs} : cmpop .isin (.d (.int a)) (.d (kD xs)) h = some (decide (a ∈ xs)) := by
  show isIn1 h (.d (.int a)) (.d (.tuple (xs.map PyData.int))) = _
  show (if (true && (PyData.plainAll (xs.map PyData.int) && decide (0 ≤ deep))) = true then some ((xs.map PyData.int).any fun y => PyData.eqv y (.int a)) else none) = _
  rw [plain_ints, any_ints]
  rfl
omit D Bk in
theorem inL_ints {a : Int} {xs : List Int} {h : Hs} : cmpop .isin (.d (.int a)) (.d (.list (xs.map .int))) h = some (decide (a ∈ xs)) := by
  show isIn1 h (.d (.int a)) (.d (.list (xs.map PyData.int))) = _
  show (if (true && (PyData.plainAll (xs.map PyData.int) && decide (0 ≤ deep))) = true then some ((xs.map PyData.int).any fun y => PyData.eqv y (.int a)) else none) = _
  rw [plain_ints, any_ints]
  rfl
omit D Bk in
theorem rngD_eq : ∀ (k : Nat) (lo : Int), rngD lo k = (rngI lo k).map .int
  | 0, _ => rfl
  | k + 1, lo => congrArg (PyData.int lo :: ·) (rngD_eq k (lo + 1))
omit D Bk in
theorem rngv_S {i j : Int} {h : Hs} {Q : PV → Hs → Prop} : Sat (rngv false false (.d (.int i)) (.d (.int j)) h) Q ↔ (-line ≤ i ∧ i ≤ line ∧ -line ≤ j ∧ j ≤ line ∧ (j - i).toNat ≤ line) ∧ Q (.d (.list ((rngI i (j - i).toNat).map .int))) h := by
  show Sat (if -line ≤ i ∧ i ≤ line ∧ -line ≤ j ∧ j ≤ line ∧ (j - i).toNat ≤ line then mkL false ((rngD i (j - i).toNat).map .d) h else .bad) Q ↔ _
  rw [sat_if]
  show _ ∧ Sat (R.of ((datas ((rngD i (j - i).toNat).map PV.d)).map fun ds => PV.d (.list ds)) h) Q ↔ _
  rw [datas_map', rngD_eq]
  exact and_congr_right fun _ => sat_ok
def Ho.deedsB (H : Ho) (a : Int) : List De := ((H.drs a).map (fun x => De.go x.l) ++ ((rngI 0 H.t.toNat).filter fun _ => decide (a ∈ H.bs)).map De.file) ++ ((rngI 0 H.t.toNat).filter fun _ => decide (a ∈ H.ss.map (·.1))).map De.lift
omit D Bk in
theorem dr_of_mem {a l : Int} : ∀ {ds : List Dr} {k : Nat} {x : Dr}, x ∈ ds → x.a = a → x.l = l → (fdI a l k ds).isNone = false
  | y :: ds, k, x, hx, h1, h2 => by
    unfold fdI
    split
    · rfl
    · rename_i c
      rcases List.mem_cons.mp hx with e | hx
      · subst e; exact absurd ⟨h1, h2⟩ c
      · exact dr_of_mem hx h1 h2
omit D Bk in
theorem deedsB_ok {H : Ho} (ok : HoOk H) {a : Int} : ∀ e ∈ H.deedsB a, DeOk H e ∧ H.away a e = false := by
  intro e he
  have ht := ok.t
  simp only [Ho.deedsB, List.mem_append, List.mem_map, List.mem_filter] at he
  rcases he with (⟨x, hx, rfl⟩ | ⟨x, ⟨hx, hc⟩, rfl⟩) | ⟨x, ⟨hx, hc⟩, rfl⟩
  · obtain ⟨h1, h2⟩ := List.mem_filter.mp hx
    have hd := ok.d x h1
    exact ⟨hd.l, dr_of_mem h1 (by simpa using h2) rfl⟩
  · have := rngI_mem hx
    refine ⟨⟨by omega, by omega⟩, ?_⟩
    show (!decide (a ∈ H.bs)) = false
    rw [hc]; rfl
  · have := rngI_mem hx
    refine ⟨⟨by omega, by omega⟩, ?_⟩
    show (fsm a H.ss).isNone = false
    have hc : decide (a ∈ H.ss.map (·.1)) = true := by simpa using hc
    rw [fsm_mem, hc]; rfl
omit D Bk in
theorem deedsB_len {H : Ho} (ok : HoOk H) {a : Int} : (H.deedsB a).length ≤ 16 := by
  have ht := ok.t
  have h1 : (H.drs a).length ≤ 10 := Nat.le_trans (List.length_filter_le _ _) ok.d0
  have h2 : ((rngI 0 H.t.toNat).filter fun _ => decide (a ∈ H.bs)).length ≤ 3 := Nat.le_trans (List.length_filter_le _ _) (by rw [rngI_len]; omega)
  have h3 : ((rngI 0 H.t.toNat).filter fun _ => decide (a ∈ H.ss.map (·.1))).length ≤ 3 := Nat.le_trans (List.length_filter_le _ _) (by rw [rngI_len]; omega)
  simp only [Ho.deedsB, List.length_append, List.length_map]
  omega
omit D in
theorem deeds_S {H : Ho} {a : Int} (ok : HoOk H) (q : Q (.d (.list ((H.deedsB a).map De.d))) h) : Sat (callN P (i + 2) "_law_deeds" [.d H.d, .d (.int a)] h) Q := by
  have tl : line = 16777216 := rfl
  have ht := ok.t
  have dl : (H.drs a).length ≤ 10 := Nat.le_trans (List.length_filter_le _ _) ok.d0
  rw [call0 Bk.law_deeds rfl]
  simp [fB_law_deeds]
  refine doors_S (i := i) Bk ok ?_
  refine (srt_refK (xs := (H.drs a).map (·.l)) (by simp; rfl) (by rw [List.map_map, List.map_map]; rfl) (List.pairwise_map.mpr ((drs_pw ok a).imp fun e => Int.le_of_lt e)) (by rw [List.length_map]; omega)).mpr ?_
  simp
  refine sat_mapM (f := fun x : Dr => .d (.int x.l)) (xs := H.drs a) (fun x => .d (De.go x.l).d) ?_ ?_
  · intro x hx; simp [Iw.wipe, asg, De.d]
  · rw [sat_lstF (ds := (H.drs a).map fun x => (De.go x.l).d) (by rw [List.map_map]; rfl)]
    refine ⟨by rw [List.length_map]; omega, ?_⟩
    simp [asg, rngv_S]
    refine ⟨⟨by omega, by omega⟩, ?_⟩
    refine sat_filtM (f := fun x : Int => .d (.int x)) (fun _ => decide (a ∈ H.bs)) (fun x => .d (De.file x).d) ?_ ?_
    · intro x hx
      simp [Iw.wipe, asg, De.d, in_ints]
      by_cases c : a ∈ H.bs <;> simp [c]
    · have fl : ((rngI 0 H.t.toNat).filter fun _ => decide (a ∈ H.bs)).length ≤ 3 := Nat.le_trans (List.length_filter_le _ _) (by rw [rngI_len]; omega)
      rw [sat_lstF (ds := ((rngI 0 H.t.toNat).filter fun _ => decide (a ∈ H.bs)).map fun x => (De.file x).d) (by rw [List.map_map]; rfl)]
      refine ⟨by rw [List.length_map]; omega, ?_⟩
      simp only [b_addL, List.length_map]
      refine ⟨by omega, ?_⟩
      obtain ⟨b, hb⟩ : ∃ b, b = decide (a ∈ H.ss.map (·.1)) := ⟨_, rfl⟩
      refine sat_filtM (f := fun x : Int => .d (.int x)) (fun _ => b) (fun x => .d (De.lift x).d) ?_ ?_
      · intro x hx
        simp [Iw.wipe, asg, De.d]
        refine sat_mapM (f := fun s : Int × Int × Int => .d (sD s)) (fun s => .d (.int s.1)) ?_ ?_
        · intro s hs; simp [Iw.wipe, asg]
        · rw [sat_lstF (ds := (H.ss.map (·.1)).map .int) (by rw [List.map_map, List.map_map]; rfl)]
          refine ⟨by rw [List.length_map, List.length_map]; exact ok.sl, ?_⟩
          rw [inL_ints, ← hb]
          cases b <;> simp
      · rw [hb]
        have fl2 : ((rngI 0 H.t.toNat).filter fun _ => decide (a ∈ H.ss.map (·.1))).length ≤ 3 := Nat.le_trans (List.length_filter_le _ _) (by rw [rngI_len]; omega)
        rw [sat_lstF (ds := ((rngI 0 H.t.toNat).filter fun _ => decide (a ∈ H.ss.map (·.1))).map fun x => (De.lift x).d) (by rw [List.map_map]; rfl)]
        refine ⟨by rw [List.length_map]; omega, ?_⟩
        simp only [b_addL, List.length_map, List.length_append]
        refine ⟨by omega, ?_⟩
        have e : (H.deedsB a).map De.d = ((H.drs a).map fun x => (De.go x.l).d) ++ ((((rngI 0 H.t.toNat).filter fun _ => decide (a ∈ H.bs)).map fun x => (De.file x).d) ++ (((rngI 0 H.t.toNat).filter fun _ => decide (a ∈ H.ss.map (·.1))).map fun x => (De.lift x).d)) := by
          simp [Ho.deedsB, Function.comp_def]
        rw [e] at q
        simpa using q
omit D in
theorem to_S {H : Ho} {a : Int} {e : De} (ok : HoOk H) (he : H.away a e = false) (q : Q (.d (.int (H.to a e))) h) : Sat (callN P (i + 2) "_law_to" [.d H.d, .d (.int a), .d e.d] h) Q := by
  rw [call0 Bk.law_to rfl]
  cases e with
  | go l =>
    have he : (H.dr a l).isNone = false := he
    have q : Q (.d (.int (match H.dr a l with
      | some (_, x) => x.b
      | none => a))) h := q
    simp [fB_law_to]
    refine doors_S (i := i) Bk ok ?_
    cases e : H.dr a l with
    | none => rw [e] at he; cases he
    | some p =>
      obtain ⟨j, x⟩ := p
      rw [e] at q
      have g := drs_get (H := H) (a := a) (l := l)
      rw [e] at g
      refine (ix_refK (kvs := (H.drs a).map fun x => ((kvL x).1, PV.d (kvL x).2)) (by simp) g).mpr ?_
      simp [kvL]
      exact ⟨_, by simp [L2.atI, L2.ixN]; rfl, by simpa using q⟩
  | file t =>
    have q : Q (.d (.int a)) h := q
    simpa [fB_law_to] using q
  | lift t =>
    have q : Q (.d (.int a)) h := q
    simpa [fB_law_to] using q
omit Bk in
theorem pick_S (Bk : LkB P) {ds : List PyData} {B : Nat} (hl : 0 < ds.length ∧ ds.length < 1073741824) (hp : PenAt h n (B + 1)) (q : ∀ (d : PyData) h', d ∈ ds → Fr n h h' → PenAt h' n B → Q (.d d) h') : Sat (callN P (i + 2) "_law_pick" [.ref n, .d (.list ds)] h) Q := by
  rw [call0 Bk.law_pick rfl]
  simp [fB_law_pick]
  refine draw_S D (m := ds.length) hp (by omega) (by omega) ?_
  intro g h1 g1 g2 f1 p1
  have gl : g.toNat < ds.length := by omega
  rw [ix_d, ix1_lst]
  refine ⟨ds[g.toNat], atI_int g1 (List.getElem?_eq_getElem gl), ?_⟩
  simp
  rw [List.take_of_length_le (by rw [f1.len]; exact Nat.le_refl _)]
  exact q _ h1 (List.getElem_mem gl) f1 p1
theorem laid_row_S {H : Ho} {a m : Int} {B : Nat} (ok : HoOk H) (h1 : 0 ≤ a) (h2 : a < H.n) (hm : 0 ≤ m ∧ m ≤ 20) (hp : PenAt h n (B + 21)) (q : ∀ r h', Laid H a r → (r.length : Int) ≤ m → Fr n h h' → PenAt h' n B → Q (.d (rwD r)) h') : Sat (callN P (i + 3) "_law_laid_row" [.ref n, .d H.d, .d (.int a), .d (.int m)] h) Q := by
  have tl : line = 16777216 := rfl
  rw [call0 Bk.law_laid_row rfl]
  simp [fB_law_laid_row, asg]
  refine draw_S D (m := m + 1) (B := B + 20) hp (by omega) (by omega) ?_
  intro d h0 d1 d2 f0 p0
  simp
  refine ⟨by omega, ?_⟩
  refine forF_all (fun xs σ h' => ∃ r x5 x6, σ = [some (.ref n), some (.d H.d), some (.d (.int (H.toR a r))), some (.d (.int m)), some (.d (rwD r)), x5, x6] ∧ Laid H a r ∧ (r.length + xs.length : Int) ≤ m ∧ 0 ≤ H.toR a r ∧ H.toR a r < H.n ∧ Fr n h h' ∧ PenAt h' n (B + xs.length)) ?_ _ _ _ ?_ ?_
  · rintro x xs σ h' ⟨r, x5, x6, rfl, l, e, g1, g2, f, p⟩
    refine ⟨_, by simp [asg]; rfl, ?_⟩
    rw [List.length_cons] at e p
    simp
    refine deeds_S (i := i) Bk ok ?_
    have sub := deedsB_ok ok (a := H.toR a r)
    have le := deedsB_len ok (a := H.toR a r)
    generalize H.deedsB (H.toR a r) = ds at sub le
    simp [asg, ne_nil (plain_map plain_de ds)]
    cases ds with
    | nil =>
      simp
      exact ⟨r, ⟨rfl, rfl⟩, l, by omega, g1, g2, f, p.less (by omega)⟩
    | cons d0 ds =>
      simp
      refine pick_S (i := i) D Bk (ds := d0.d :: ds.map De.d) (B := B + xs.length) (by simp at le ⊢; omega) (p.less (by omega)) ?_
      intro e' h3 he f2 p2
      rw [← List.map_cons] at he
      obtain ⟨e, hem, rfl⟩ := List.mem_map.mp he
      obtain ⟨s1, s2⟩ := sub e hem
      simp [asg, rwD]
      refine ⟨by omega, ?_⟩
      refine ⟨_, atI_last, ?_⟩
      refine to_S (i := i) Bk ok s2 ?_
      have e3 := to_in (e := e) ok g1 g2
      rw [← toR_snoc (r := r)] at e3 ⊢
      refine ⟨r ++ [e], ⟨rfl, by rw [List.map_append]; rfl⟩, laid_snoc l s1 s2, ?_, e3.1, e3.2, f.trans f2, p2⟩
      rw [List.length_append, List.length_singleton]
      omega
  · exact ⟨[], _, _, rfl, trivial, by rw [rngL_length]; simp; omega, h1, h2, f0, p0.less (by rw [rngL_length]; omega)⟩
  · rintro σ' h' ⟨r, x5, x6, rfl, l, e, g1, g2, f, p⟩
    simp
    rw [List.take_of_length_le (by rw [f.len]; exact Nat.le_refl _)]
    exact q r h' l (by simpa using e) f (p.less (by simp))
omit D Bk in
theorem laid_take {H : Ho} : ∀ {r : List De} {a : Int} (j : Nat), Laid H a r → Laid H a (r.take j)
  | [], _, _, _ => by simp; trivial
  | e :: r, _, 0, _ => trivial
  | e :: r, a, j + 1, l => ⟨l.1, l.2.1, laid_take j l.2.2⟩
omit D Bk in
theorem laid_away {H : Ho} : ∀ {r : List De} {a : Int} {j : Nat} {e : De}, Laid H a r → r[j]? = some e → H.away (H.toR a (r.take j)) e = false
  | [], _, _, _, _, h => by simp at h
  | d :: r, a, 0, e, l, h => by simp at h; subst h; exact l.2.1
  | d :: r, a, j + 1, e, l, h => laid_away (r := r) l.2.2 (by simpa using h)
theorem round_row_S {H : Ho} {a m : Int} {B : Nat} (ok : HoOk H) (h1 : 0 ≤ a) (h2 : a < H.n) (hm : 0 ≤ m ∧ m ≤ 20) (hp : PenAt h n (B + 21)) (q : ∀ r h', Laid H a r → H.toR a r = a → (r.length : Int) ≤ m → Fr n h h' → PenAt h' n B → Q (.d (rwD r)) h') : Sat (callN P (i + 4) "_law_round_row" [.ref n, .d H.d, .d (.int a), .d (.int m)] h) Q := by
  have tl : line = 16777216 := rfl
  rw [call0 Bk.law_round_row rfl]
  simp [fB_law_round_row]
  refine laid_row_S (i := i) (B := B) D Bk ok h1 h2 hm hp ?_
  intro row h3 l hl f3 p3
  refine ⟨_, rfl, ?_⟩
  simp [rwD, enumI_eq]
  refine forF_allM (fun ys σ hh => ∃ (j k : Nat) (x7 x8 : Option PV), σ = [some (.ref n), some (.d H.d), some (.d (.int a)), some (.d (.int m)), some (.d (rwD row)), some (.d (.int (H.toR a (row.take j)))), some (.d (rwD (row.take k))), x7, x8] ∧ hh = h3 ∧ ys = enumI j (row.drop j) ∧ j ≤ row.length ∧ H.toR a (row.take k) = a) ?_ _ _ _ ?_ ?_
  · rintro y ys σ hh ⟨j, k, x7, x8, rfl, rfl, ey, hj, hk⟩
    cases hd : row.drop j with
    | nil => rw [hd] at ey; cases ey
    | cons e r =>
      rw [hd] at ey
      injection ey with ey1 ey2
      subst ey1
      have hjl : j < row.length := by
        have := congrArg List.length hd
        rw [List.length_drop, List.length_cons] at this
        omega
      have he : row[j]? = some e := by
        have := congrArg (fun l : List De => l[0]?) hd
        simpa using this
      have tk : row.take (j + 1) = row.take j ++ [e] := by rw [List.take_add_one, he]; rfl
      have dr : row.drop (j + 1) = r := by rw [← List.drop_drop, hd]; rfl
      refine ⟨_, by simp [asg]; rfl, ?_⟩
      simp
      refine to_S (i := i + 1) Bk ok (laid_away l he) ?_
      rw [← toR_snoc, ← tk]
      simp [asg]
      by_cases c : H.toR a (row.take (j + 1)) = a
      · have cc : (((j : Int)) + 1) = ((j + 1 : Nat) : Int) := by omega
        simp [c, asg, rwD]
        rw [cc]
        refine ⟨_, rfl, j + 1, j + 1, ⟨c.symm, ?_⟩, by rw [ey2, dr], by omega, c⟩
        rw [cut_take (by rw [List.length_map]; omega)]
      · simp [c]
        exact ⟨j + 1, k, ⟨rfl, rfl⟩, by rw [ey2, dr], by omega, hk⟩
  · exact ⟨0, 0, _, _, rfl, rfl, by simp, by omega, rfl⟩
  · rintro σ hh ⟨j, k, x7, x8, rfl, rfl, ey, hj, hk⟩
    simp
    rw [show hh.take h.length = hh from List.take_of_length_le (by rw [f3.len]; exact Nat.le_refl _)]
    refine q _ _ (laid_take k l) hk ?_ f3 p3
    have : (row.take k).length ≤ row.length := by rw [List.length_take]; omega
    omega
end
end Hf
end

section
set_option Elab.async false
set_option linter.all false
set_option maxRecDepth 100000
/-! tables played again and again -/
namespace Hf
open PySem Iw
/-- what a row makes of each tooth's height -/
abbrev Fn := Nat → Int → Option Int
def tabF (t : Int) (F : Fn) : List (List (Option Int)) := (rngI 0 t.toNat).map fun j => (rngI 0 7).map fun x => F j.toNat x
theorem tabs_F {H : Ho} {a : Int} {r : List De} : H.tabs a r = tabF H.t fun j x => H.hgt j a x r := rfl
def ledF (F : Fn) : Nat → List Int → List (Option Int)
  | _, [] => []
  | j, x :: r => F j x :: ledF F (j + 1) r
def allS : List (Option Int) → Option (List Int)
  | [] => some []
  | none :: _ => none
  | some x :: r => (allS r).map (x :: ·)
def nextF (F : Fn) (k : List Int) : Option (List Int) := allS (ledF F 0 k)
def FnOk (t : Int) (F : Fn) : Prop := ∀ (j : Nat) (x y : Int), (j : Int) < t → 0 ≤ x → x ≤ 6 → F j x = some y → 0 ≤ y ∧ y ≤ 6
theorem ledF_len {F : Fn} : ∀ (k : List Int) (j : Nat), (ledF F j k).length = k.length
  | [], _ => rfl
  | _ :: k, j => congrArg (· + 1) (ledF_len k (j + 1))
theorem allS_some : ∀ {os : List (Option Int)} {k : List Int}, allS os = some k → os = k.map some
  | [], _, e => by cases e; rfl
  | none :: _, _, e => by cases e
  | some x :: r, _, e => by
    obtain ⟨k, e1, rfl⟩ := Option.map_eq_some_iff.mp (show (allS r).map (x :: ·) = some _ from e)
    rw [allS_some e1]; rfl
theorem allS_none : ∀ {os : List (Option Int)}, allS os = none ↔ os.any Option.isNone = true
  | [] => by simp [allS]
  | none :: _ => by simp [allS]
  | some x :: r => by
    show (allS r).map (x :: ·) = none ↔ _
    rw [Option.map_eq_none_iff, allS_none]
    simp
theorem ledF_ok {t : Int} {F : Fn} (hF : FnOk t F) : ∀ {k : List Int} {j : Nat} {k' : List Int}, (j : Int) + k.length ≤ t → (∀ x ∈ k, 0 ≤ x ∧ x ≤ 6) → ledF F j k = k'.map some → ∀ y ∈ k', 0 ≤ y ∧ y ≤ 6
  | [], _, k', _, _, e, y, hy => by
    have : k' = [] := by simpa using (show [] = k'.map some from e).symm
    subst this; cases hy
  | x :: k, j, [], _, _, e, y, hy => by cases hy
  | x :: k, j, z :: k', hl, hx, e, y, hy => by
    injection (show F j x :: ledF F (j + 1) k = some z :: k'.map some from e) with e1 e2
    rw [List.length_cons] at hl
    rcases List.mem_cons.mp hy with rfl | hy
    · exact hF j x y (by omega) (hx x List.mem_cons_self).1 (hx x List.mem_cons_self).2 e1
    · exact ledF_ok hF (k := k) (j := j + 1) (by omega) (fun w hw => hx w (List.mem_cons_of_mem _ hw)) e2 y hy
theorem nextF_ok {t : Int} {F : Fn} (hF : FnOk t F) {k k' : List Int} (hk : KeyOk t k) (e : nextF F k = some k') : KeyOk t k' := by
  have e1 := allS_some e
  refine ⟨?_, ledF_ok hF (by rw [← hk.1]; simp) hk.2 e1⟩
  have := congrArg List.length e1
  rw [ledF_len, List.length_map] at this
  rw [← this]; exact hk.1
def oftenF (F : Fn) : Nat → Nat → List Int → Option Nat
  | 0, _, _ => none
  | f + 1, m, k => match nextF F k with
    | none => some m
    | some k' => oftenF F f (m + 1) k'
def iterF (F : Fn) : Nat → List Int → Option (List Int)
  | 0, k => some k
  | n + 1, k => (nextF F k).bind (iterF F n)
theorem often_none {F : Fn} : ∀ {f m : Nat} {k : List Int}, oftenF F f m k = none ↔ (iterF F f k).isSome = true
  | 0, _, _ => by simp [oftenF, iterF]
  | f + 1, m, k => by
    unfold oftenF iterF
    cases nextF F k with
    | none => simp
    | some k' => exact often_none
theorem often_some {F : Fn} : ∀ {f m : Nat} {k : List Int} {i : Nat}, oftenF F f m k = some i → m ≤ i ∧ i < m + f ∧ (iterF F (i - m) k).isSome = true ∧ iterF F (i - m + 1) k = none
  | 0, _, _, _, e => by cases e
  | f + 1, m, k, i, e => by
    unfold oftenF at e
    cases hn : nextF F k with
    | none =>
      rw [hn] at e
      cases e
      refine ⟨Nat.le_refl _, by omega, by simp [iterF], ?_⟩
      simp [iterF, hn]
    | some k' =>
      rw [hn] at e
      obtain ⟨h1, h2, h3, h4⟩ := often_some (show oftenF F f (m + 1) k' = some i from e)
      have ei : i - m = (i - (m + 1)) + 1 := by omega
      refine ⟨by omega, by omega, ?_, ?_⟩
      · rw [ei]
        show ((nextF F k).bind (iterF F (i - (m + 1)))).isSome = true
        rw [hn]; exact h3
      · rw [ei]
        show (nextF F k).bind (iterF F (i - (m + 1) + 1)) = none
        rw [hn]; exact h4
theorem iterF_ok {t : Int} {F : Fn} (hF : FnOk t F) : ∀ {n : Nat} {k k' : List Int}, KeyOk t k → iterF F n k = some k' → KeyOk t k'
  | 0, k, k', hk, e => by cases e; exact hk
  | n + 1, k, k', hk, e => by
    obtain ⟨k1, e1, e2⟩ := Option.bind_eq_some_iff.mp (show (nextF F k).bind (iterF F n) = some k' from e)
    exact iterF_ok hF (nextF_ok hF hk e1) e2
theorem iterF_less {F : Fn} : ∀ {n m : Nat} {k : List Int}, m ≤ n → (iterF F n k).isSome = true → (iterF F m k).isSome = true
  | _, 0, _, _, _ => rfl
  | n + 1, m + 1, k, h, e => by
    unfold iterF at e ⊢
    cases hn : nextF F k with
    | none => rw [hn] at e; cases e
    | some k' => rw [hn] at e; exact iterF_less (n := n) (m := m) (by omega) e
theorem pairs_map {α β : Type} {f : α → PyData} {g : β → PyData} : ∀ (xs : List α) (ys : List β), pairs (xs.map f) (ys.map g) = (xs.zip ys).map fun p => PV.d (.tuple [f p.1, g p.2])
  | [], _ => by simp [pairs]
  | _ :: _, [] => by simp [pairs]
  | x :: xs, y :: ys => congrArg (PV.d (.tuple [f x, g y]) :: ·) (pairs_map xs ys)
def gT (p : List (Option Int) × Int) : Option Int := (p.1[p.2.toNat]?).getD none
theorem gT_at {F : Int → Option Int} {x : Int} (h0 : 0 ≤ x) (h1 : x ≤ 6) : ((rngI 0 7).map F)[x.toNat]? = some (F x) := by
  have : x = 0 ∨ x = 1 ∨ x = 2 ∨ x = 3 ∨ x = 4 ∨ x = 5 ∨ x = 6 := by omega
  rcases this with rfl | rfl | rfl | rfl | rfl | rfl | rfl <;> rfl
theorem zip_led {F : Fn} : ∀ {n : Nat} {lo : Nat} {k : List Int}, k.length = n → (∀ x ∈ k, 0 ≤ x ∧ x ≤ 6) → (((rngI lo n).map fun j => (rngI 0 7).map fun x => F j.toNat x).zip k).map gT = ledF F lo k
  | 0, _, [], _, _ => rfl
  | n + 1, lo, x :: k, h, hx => by
    have hh := hx x List.mem_cons_self
    show gT ((rngI 0 7).map fun x => F (lo : Int).toNat x, x) :: (((rngI ((lo : Int) + 1) n).map fun j => (rngI 0 7).map fun x => F j.toNat x).zip k).map gT = F lo x :: ledF F (lo + 1) k
    rw [show ((lo : Int) + 1) = ((lo + 1 : Nat) : Int) by omega, zip_led (n := n) (lo := lo + 1) (by simpa using h) fun w hw => hx w (List.mem_cons_of_mem _ hw)]
    congr 1
    unfold gT
    rw [gT_at hh.1 hh.2]
    rfl
theorem plain_intD : ∀ o : Option Int, (intD o).plain = true
  | none => rfl
  | some _ => rfl
theorem in_none {os : List (Option Int)} {h : Hs} : cmpop .isin (.d .none) (.d (.tuple (os.map intD))) h = some (os.any Option.isNone) := by
  show (if (true && (PyData.plainAll (os.map intD) && decide (0 ≤ deep))) = true then some ((os.map intD).any fun y => PyData.eqv y .none) else none) = _
  rw [plain_map plain_intD, if_pos (by decide), List.any_map]
  congr 1
  induction os with
  | nil => rfl
  | cons o os ih =>
    rw [List.any_cons, List.any_cons, ih]
    cases o <;> rfl
section
variable {P : Pg} (L : Lk P) {Q : PV → Hs → Prop} {h : Hs} {n i : Nat}
include L
theorem led_S {t : Int} {F : Fn} {k : List Int} (hk : KeyOk t k) (ht : t ≤ 3) (q : Q (.d (.tuple ((ledF F 0 k).map intD))) h) : Sat (callN P (n + 1) "led" [.d (tabsD (tabF t F)), .d (kD k)] h) Q := by
  have tl : line = 16777216 := rfl
  have kl := hk.1
  rw [call0 L.led rfl]
  simp [f_led, tabsD, kD]
  rw [pairs_map]
  refine sat_mapM (fun p => .d (intD (gT p))) ?_ ?_
  · rintro ⟨T, x⟩ hp
    obtain ⟨h1, h2⟩ := List.of_mem_zip hp
    obtain ⟨j, hj, rfl⟩ := List.mem_map.mp h1
    have hx := hk.2 x h2
    have e : L2.atI (((rngI 0 7).map fun x => F j.toNat x).map intD) x = some (intD (F j.toNat x)) := atI_int hx.1 (by rw [List.getElem?_map, gT_at hx.1 hx.2]; rfl)
    simp [Iw.wipe, asg, tabD]
    have g : gT ((rngI 0 7).map fun x => F j.toNat x, x) = F j.toNat x := by
      unfold gT
      rw [gT_at hx.1 hx.2]; rfl
    rw [g, ← List.map_map]
    exact e
  · have e := zip_led (F := F) (lo := 0) (n := t.toNat) (k := k) (by omega) hk.2
    rw [sat_lstF (ds := (((tabF t F).zip k).map gT).map intD) (by rw [List.map_map, List.map_map]; rfl)]
    rw [show ((tabF t F).zip k).map gT = ledF F 0 k from e]
    have ll := ledF_len (F := F) k 0
    refine ⟨by rw [List.length_map, ll]; omega, ?_⟩
    simp
    exact ⟨by omega, q⟩
theorem need_key_S {t : Int} {k : List Int} (hk : KeyOk t k) (ht : t ≤ 3) (q : Q (.d .none) h) : Sat (callN P (n + 5) "need_key" [.d (.int t), .d (kD k)] h) Q := by
  have tl : line = 16777216 := rfl
  have kl := hk.1
  rw [call0 L.need_key rfl]
  simp [f_need_key]
  refine is_key_by_S (n := n) L hk (by omega) ?_
  simpa using q
theorem need_times_S {m : Int} (hm : 0 ≤ m ∧ m ≤ 1000000000000) (q : Q (.d .none) h) : Sat (callN P (n + 3) "need_times" [.d (.int m)] h) Q := by
  rw [call0 L.need_times rfl]
  simp [f_need_times, is_among_ok L hm.1 hm.2]
  exact q
theorem often_by_S {t : Int} {F : Fn} {k : List Int} (hF : FnOk t F) (hk : KeyOk t k) (ht : t ≤ 3) (q : Q (natV (oftenF F 7 0 k)) h) : Sat (callN P (n + 2) "often_by" [.d (tabsD (tabF t F)), .d (kD k)] h) Q := by
  have tl : line = 16777216 := rfl
  rw [call0 L.often_by rfl]
  simp [f_often_by]
  refine ⟨by decide, ?_⟩
  rw [rngL_eq]
  generalize hg : oftenF F 7 0 k = g at q
  refine forF_ret (fun ys σ hh => ∃ (m : Nat) (k1 : List Int) (u : Option PV), σ = [some (.d (tabsD (tabF t F))), some (.d (kD k1)), u] ∧ hh = h ∧ KeyOk t k1 ∧ ys = rngI m ys.length ∧ oftenF F ys.length m k1 = g) ?_ _ _ _ ?_ ?_
  · rintro y ys σ hh ⟨m, k1, u, rfl, rfl, hk1, ey, eo⟩
    rw [List.length_cons] at ey eo
    obtain ⟨ey1, ey2⟩ := List.cons.inj (show y :: ys = (m : Int) :: rngI ((m : Int) + 1) ys.length from ey)
    subst ey1
    refine ⟨_, by simp [asg]; rfl, ?_⟩
    simp
    refine led_S (n := n) L hk1 ht ?_
    simp [asg, in_none]
    unfold oftenF at eo
    cases hn : nextF F k1 with
    | none =>
      rw [hn] at eo
      have := allS_none.mp hn
      have eo : some m = g := eo
      rw [← eo] at q
      exact .inr ⟨by simpa using this, by simpa [natV] using q⟩
    | some k2 =>
      rw [hn] at eo
      have e1 := allS_some hn
      refine .inl ⟨by rw [e1]; simp, m + 1, k2, ?_, nextF_ok hF hk1 hn, ?_, eo⟩
      · rw [e1, List.map_map]; rfl
      · rw [show ((m + 1 : Nat) : Int) = (m : Int) + 1 by omega]; exact ey2
  · exact ⟨0, k, _, rfl, rfl, hk, by rw [rngI_len]; rfl, by rw [rngI_len]; exact hg⟩
  · rintro σ hh ⟨m, k1, u, rfl, rfl, hk1, ey, eo⟩
    have eo : none = g := eo
    rw [← eo] at q
    simpa [natV] using q
end
end Hf
end

section
set_option Elab.async false
set_option linter.all false
set_option maxRecDepth 100000
/-! what rows make of heights: order, runs, rows behind one another -/
namespace Hf
open PySem Iw
/-- a row as a map of heights -/
abbrev Ho.F (H : Ho) (a : Int) (r : List De) : Fn := fun j x => H.hgt j a x r
theorem gap_in {H : Ho} {a : Int} {e : De} {j : Nat} (ok : HoOk H) (he : H.away a e = false) (hj : (j : Int) < H.t) : 0 ≤ (H.gap a e j).1 ∧ (H.gap a e j).2 ≤ 6 := by
  cases e with
  | go l =>
    have he : (H.dr a l).isNone = false := he
    show 0 ≤ (match H.dr a l with
      | some (_, x) => x.bx.getD j (0, 0)
      | none => (0, 0)).1 ∧ (match H.dr a l with
      | some (_, x) => x.bx.getD j (0, 0)
      | none => (0, 0)).2 ≤ 6
    cases e : H.dr a l with
    | none => rw [e] at he; cases he
    | some p =>
      obtain ⟨i, x⟩ := p
      obtain ⟨_, g, _⟩ := fdI_get e
      have hx := ok.d x (List.mem_of_getElem? g)
      have hb : j < x.bx.length := by have := hx.bx.1; omega
      have e1 : x.bx.getD j (0, 0) = x.bx[j] := by simp [List.getD, hb]
      dsimp only
      rw [e1]
      have := hx.bx.2 _ (List.getElem_mem hb)
      omega
  | file t =>
    show 0 ≤ (if t = j then ((1, 6) : Int × Int) else (0, 6)).1 ∧ (if t = j then ((1, 6) : Int × Int) else (0, 6)).2 ≤ 6
    split <;> simp
  | lift t =>
    have he : (H.sm a).isNone = false := he
    show 0 ≤ (if t = j then ((0, match H.sm a with | some s => s.2.1 - 1 | none => 0) : Int × Int) else (0, 6)).1 ∧ (if t = j then ((0, match H.sm a with | some s => s.2.1 - 1 | none => 0) : Int × Int) else (0, 6)).2 ≤ 6
    cases e : H.sm a with
    | none => rw [e] at he; cases he
    | some s =>
      have hs : s ∈ H.ss := by
        have go : ∀ ss : List (Int × Int × Int), fsm a ss = some s → s ∈ ss := by
          intro ss
          induction ss with
          | nil => intro e; cases e
          | cons z ss ih =>
            intro e
            unfold fsm at e
            split at e
            · cases e; exact List.mem_cons_self
            · exact List.mem_cons_of_mem _ (ih e)
        exact go _ e
      have := (ok.s s hs).l
      split
      · dsimp only; omega
      · simp
theorem wear_in {H : Ho} {a : Int} {e : De} {j : Nat} (ok : HoOk H) (hd : DeOk H e) (he : H.away a e = false) (hj : (j : Int) < H.t) {x : Int} (h1 : (H.gap a e j).1 ≤ x) (h2 : x ≤ (H.gap a e j).2) : (if H.wear e j < x then x - H.wear e j else 0) ≤ 6 := by
  have g := gap_in ok he hj
  cases e with
  | go l =>
    have h1' : l.toNat < H.ws.length := by have h1 := hd.1; have h2 := hd.2; omega
    have ew : H.ws[l.toNat]? = some H.ws[l.toNat] := by simp [h1']
    have hw := ok.w _ (List.getElem_mem h1')
    have h2' : j < (H.ws[l.toNat]).length := by have := hw.1; omega
    have ev : H.wear (.go l) j = (H.ws[l.toNat])[j] := by
      show (H.ws.getD l.toNat []).getD j 0 = _
      simp [List.getD, ew, h2']
    have := hw.2 _ (List.getElem_mem h2')
    rw [ev]
    split <;> omega
  | file t =>
    have ev : H.wear (.file t) j = 1 ∨ H.wear (.file t) j = 0 := by
      show (if t = j then (1 : Int) else 0) = 1 ∨ (if t = j then (1 : Int) else 0) = 0
      split <;> simp
    split <;> omega
  | lift t =>
    by_cases c : t = (j : Int)
    · have he : (H.sm a).isNone = false := he
      have g2 : (H.gap a (.lift t) j).2 = (match H.sm a with | some s => s.2.1 - 1 | none => 0) := by
        show (if t = j then ((0, match H.sm a with | some s => s.2.1 - 1 | none => 0) : Int × Int) else (0, 6)).2 = _
        rw [if_pos c]
      have ev : H.wear (.lift t) j = -1 := by
        show (if t = j then (-1 : Int) else 0) = -1
        rw [if_pos c]
      cases e : H.sm a with
      | none => rw [e] at he; cases he
      | some s =>
        have hs : s ∈ H.ss := by
          have go : ∀ ss : List (Int × Int × Int), fsm a ss = some s → s ∈ ss := by
            intro ss
            induction ss with
            | nil => intro e; cases e
            | cons z ss ih =>
              intro e
              unfold fsm at e
              split at e
              · cases e; exact List.mem_cons_self
              · exact List.mem_cons_of_mem _ (ih e)
          exact go _ e
        have := (ok.s s hs).l
        rw [e] at g2
        have g3 : (H.gap a (.lift t) j).2 = s.2.1 - 1 := g2
        rw [ev]
        clear g2
        split <;> omega
    · have ev : H.wear (.lift t) j = 0 := by
        show (if t = j then (-1 : Int) else 0) = 0
        rw [if_neg c]
      rw [ev]
      split <;> omega
theorem hgt_ok {H : Ho} (ok : HoOk H) {j : Nat} (hj : (j : Int) < H.t) : ∀ {r : List De} {a x y : Int}, Laid H a r → 0 ≤ x → x ≤ 6 → H.hgt j a x r = some y → 0 ≤ y ∧ y ≤ 6
  | [], a, x, y, _, h1, h2, e => by cases e; exact ⟨h1, h2⟩
  | d :: r, a, x, y, l, h1, h2, e => by
    have e : (if (H.gap a d j).1 ≤ x ∧ x ≤ (H.gap a d j).2 then H.hgt j (H.to a d) (if H.wear d j < x then x - H.wear d j else 0) r else none) = some y := e
    split at e
    · rename_i c
      refine hgt_ok ok hj l.2.2 ?_ (wear_in ok l.1 l.2.1 hj c.1 c.2) e
      split <;> omega
    · cases e
theorem fn_ok {H : Ho} (ok : HoOk H) {a : Int} {r : List De} (l : Laid H a r) : FnOk H.t (H.F a r) := fun j x y hj h1 h2 e => hgt_ok ok hj l h1 h2 e
theorem hgt_mono {H : Ho} {j : Nat} : ∀ {r : List De} {a x y x' y' : Int}, x ≤ y → H.hgt j a x r = some x' → H.hgt j a y r = some y' → x' ≤ y'
  | [], a, x, y, x', y', h, e1, e2 => by cases e1; cases e2; exact h
  | d :: r, a, x, y, x', y', h, e1, e2 => by
    have e1 : (if (H.gap a d j).1 ≤ x ∧ x ≤ (H.gap a d j).2 then H.hgt j (H.to a d) (if H.wear d j < x then x - H.wear d j else 0) r else none) = some x' := e1
    have e2 : (if (H.gap a d j).1 ≤ y ∧ y ≤ (H.gap a d j).2 then H.hgt j (H.to a d) (if H.wear d j < y then y - H.wear d j else 0) r else none) = some y' := e2
    split at e1
    · split at e2
      · refine hgt_mono (x := (if H.wear d j < x then x - H.wear d j else 0)) (y := (if H.wear d j < y then y - H.wear d j else 0)) ?_ e1 e2
        split <;> split <;> omega
      · cases e2
    · cases e1
theorem hgt_conv {H : Ho} {j : Nat} : ∀ {r : List De} {a x y z : Int}, x ≤ y → y ≤ z → (H.hgt j a x r).isSome = true → (H.hgt j a z r).isSome = true → (H.hgt j a y r).isSome = true
  | [], _, _, _, _, _, _, _, _ => rfl
  | d :: r, a, x, y, z, h1, h2, e1, e2 => by
    have e1 : (if (H.gap a d j).1 ≤ x ∧ x ≤ (H.gap a d j).2 then H.hgt j (H.to a d) (if H.wear d j < x then x - H.wear d j else 0) r else none).isSome = true := e1
    have e2 : (if (H.gap a d j).1 ≤ z ∧ z ≤ (H.gap a d j).2 then H.hgt j (H.to a d) (if H.wear d j < z then z - H.wear d j else 0) r else none).isSome = true := e2
    show (if (H.gap a d j).1 ≤ y ∧ y ≤ (H.gap a d j).2 then H.hgt j (H.to a d) (if H.wear d j < y then y - H.wear d j else 0) r else none).isSome = true
    split at e1
    · split at e2
      · rw [if_pos (by omega)]
        refine hgt_conv (x := (if H.wear d j < x then x - H.wear d j else 0)) (z := (if H.wear d j < z then z - H.wear d j else 0)) ?_ ?_ e1 e2
        · split <;> split <;> omega
        · split <;> split <;> omega
      · cases e2
    · cases e1
theorem hgt_app {H : Ho} {j : Nat} : ∀ {r s : List De} {a x : Int}, H.hgt j a x (r ++ s) = (H.hgt j a x r).bind fun y => H.hgt j (H.toR a r) y s
  | [], _, _, _ => rfl
  | d :: r, s, a, x => by
    show (if (H.gap a d j).1 ≤ x ∧ x ≤ (H.gap a d j).2 then H.hgt j (H.to a d) (if H.wear d j < x then x - H.wear d j else 0) (r ++ s) else none) = (if (H.gap a d j).1 ≤ x ∧ x ≤ (H.gap a d j).2 then H.hgt j (H.to a d) (if H.wear d j < x then x - H.wear d j else 0) r else none).bind fun y => H.hgt j (H.toR (H.to a d) r) y s
    split
    · exact hgt_app
    · rfl
/-! keys and rows -/
theorem led_bar {H : Ho} {a : Int} {e : De} {r : List De} : ∀ {k : List Int} {j : Nat}, H.bar a e j k = none → ledF (H.F a (e :: r)) j k = ledF (H.F (H.to a e) r) j (H.step e j k)
  | [], _, _ => rfl
  | x :: k, j, h => by
    unfold Ho.bar at h
    split at h
    · cases h
    · split at h
      · cases h
      · have e2 := led_bar (r := r) h
        show H.hgt j a x (e :: r) :: ledF (H.F a (e :: r)) (j + 1) k = H.hgt j (H.to a e) (if x - H.wear e j > 0 then x - H.wear e j else 0) r :: ledF (H.F (H.to a e) r) (j + 1) (H.step e (j + 1) k)
        rw [e2]
        congr 1
        show (if (H.gap a e j).1 ≤ x ∧ x ≤ (H.gap a e j).2 then H.hgt j (H.to a e) (if H.wear e j < x then x - H.wear e j else 0) r else none) = _
        rw [if_pos (by omega)]
        congr 1
        split <;> split <;> omega
theorem led_bar2 {H : Ho} {a : Int} {e : De} {r : List De} {p : Bool × Nat} : ∀ {k : List Int} {j : Nat}, H.bar a e j k = some p → (ledF (H.F a (e :: r)) j k).any Option.isNone = true
  | [], _, h => by cases h
  | x :: k, j, h => by
    show (H.hgt j a x (e :: r) :: ledF (H.F a (e :: r)) (j + 1) k).any Option.isNone = true
    rw [List.any_cons]
    have eh : H.hgt j a x (e :: r) = (if (H.gap a e j).1 ≤ x ∧ x ≤ (H.gap a e j).2 then H.hgt j (H.to a e) (if H.wear e j < x then x - H.wear e j else 0) r else none) := rfl
    unfold Ho.bar at h
    split at h
    · rw [eh, if_neg (by omega)]; rfl
    · split at h
      · rw [eh, if_neg (by omega)]; rfl
      · rw [led_bar2 (r := r) h, Bool.or_true]
theorem led_nil {H : Ho} {a : Int} : ∀ {k : List Int} {j : Nat}, ledF (H.F a []) j k = k.map some
  | [], _ => rfl
  | x :: k, j => congrArg (some x :: ·) (led_nil (k := k) (j := j + 1))
theorem allS_map : ∀ k : List Int, allS (k.map some) = some k
  | [] => rfl
  | x :: k => by show (allS (k.map some)).map (x :: ·) = _; rw [allS_map k]; rfl
theorem bars_next {H : Ho} : ∀ {r : List De} {a : Int} {k : List Int} {i : Nat}, match nextF (H.F a r) k with
    | some k' => H.bars a k i r = none ∧ H.ends a k r = (H.toR a r, k')
    | none => ∃ p b j, H.bars a k i r = some (p, b, j) ∧ i ≤ p ∧ p < i + r.length
  | [], a, k, i => by
    unfold nextF
    rw [led_nil, allS_map]
    exact ⟨rfl, rfl⟩
  | e :: r, a, k, i => by
    cases hb : H.bar a e 0 k with
    | none =>
      have ih := bars_next (H := H) (r := r) (a := H.to a e) (k := H.step e 0 k) (i := i + 1)
      have e1 : nextF (H.F a (e :: r)) k = nextF (H.F (H.to a e) r) (H.step e 0 k) := congrArg allS (led_bar hb)
      rw [e1]
      have e2 : H.bars a k i (e :: r) = H.bars (H.to a e) (H.step e 0 k) (i + 1) r := by
        show (match H.bar a e 0 k with
          | some (b, j) => some (i, b, j)
          | none => Ho.bars H (H.to a e) (H.step e 0 k) (i + 1) r) = _
        rw [hb]
      cases hn : nextF (H.F (H.to a e) r) (H.step e 0 k) with
      | none =>
        rw [hn] at ih
        obtain ⟨p, b, j, h1, h2, h3⟩ := ih
        exact ⟨p, b, j, by rw [e2]; exact h1, by omega, by rw [List.length_cons]; omega⟩
      | some k' =>
        rw [hn] at ih
        exact ⟨by rw [e2]; exact ih.1, ih.2⟩
    | some p =>
      have e1 : nextF (H.F a (e :: r)) k = none := allS_none.mpr (led_bar2 hb)
      rw [e1]
      obtain ⟨b, j⟩ := p
      refine ⟨i, b, j, ?_, Nat.le_refl _, by rw [List.length_cons]; omega⟩
      show (match H.bar a e 0 k with
        | some (b, j) => some (i, b, j)
        | none => Ho.bars H (H.to a e) (H.step e 0 k) (i + 1) r) = _
      rw [hb]
theorem led_comp {F G : Fn} : ∀ {k : List Int} {j : Nat}, allS (ledF (fun j x => (F j x).bind (G j)) j k) = (allS (ledF F j k)).bind fun k' => allS (ledF G j k')
  | [], _ => rfl
  | x :: k, j => by
    have ih := led_comp (F := F) (G := G) (k := k) (j := j + 1)
    show allS ((F j x).bind (G j) :: ledF (fun j x => (F j x).bind (G j)) (j + 1) k) = (allS (F j x :: ledF F (j + 1) k)).bind _
    cases hF : F j x with
    | none => rfl
    | some y =>
      show allS (G j y :: ledF (fun j x => (F j x).bind (G j)) (j + 1) k) = ((allS (ledF F (j + 1) k)).map (y :: ·)).bind _
      cases hG : G j y with
      | none =>
        cases hA : allS (ledF F (j + 1) k) with
        | none => rfl
        | some k' => show none = allS (G j y :: ledF G (j + 1) k'); rw [hG]; rfl
      | some z =>
        show (allS (ledF (fun j x => (F j x).bind (G j)) (j + 1) k)).map (z :: ·) = _
        rw [ih]
        cases hA : allS (ledF F (j + 1) k) with
        | none => rfl
        | some k' => show (allS (ledF G (j + 1) k')).map (z :: ·) = allS (G j y :: ledF G (j + 1) k'); rw [hG]; rfl
def powF (F : Fn) : Nat → Fn
  | 0 => fun _ x => some x
  | n + 1 => fun j x => (F j x).bind (powF F n j)
theorem powF_end {F : Fn} : ∀ {n j : Nat} {x : Int}, powF F (n + 1) j x = (powF F n j x).bind (F j)
  | 0, j, x => by show (F j x).bind _ = F j x; cases F j x <;> rfl
  | n + 1, j, x => by
    show (F j x).bind (powF F (n + 1) j) = ((F j x).bind (powF F n j)).bind (F j)
    cases hF : F j x with
    | none => rfl
    | some y => exact powF_end (n := n) (j := j) (x := y)
theorem led_one : ∀ {k : List Int} {j : Nat}, ledF (fun _ x => some x) j k = k.map some
  | [], _ => rfl
  | x :: k, j => congrArg (some x :: ·) (led_one (k := k) (j := j + 1))
theorem iter_pow {F : Fn} : ∀ {n : Nat} {k : List Int}, iterF F n k = nextF (powF F n) k
  | 0, k => by
    show some k = allS (ledF (fun _ x => some x) 0 k)
    rw [led_one, allS_map]
  | n + 1, k => by
    show (nextF F k).bind (iterF F n) = allS (ledF (fun j x => (F j x).bind (powF F n j)) 0 k)
    rw [led_comp]
    show (nextF F k).bind _ = (nextF F k).bind _
    congr 1
    funext k'
    exact iter_pow
/-- a row put behind itself -/
def rep (n : Nat) (r : List De) : List De := (List.replicate n r).flatten
theorem rep_succ {n : Nat} {r : List De} : rep (n + 1) r = r ++ rep n r := by simp [rep, List.replicate_succ]
theorem rep_len {n : Nat} {r : List De} : (rep n r).length = n * r.length := by
  induction n with
  | zero => simp [rep]
  | succ n ih => rw [rep_succ, List.length_append, ih, Nat.succ_mul]; omega
theorem toR_app {H : Ho} : ∀ {r s : List De} {a : Int}, H.toR a (r ++ s) = H.toR (H.toR a r) s
  | [], _, _ => rfl
  | d :: r, s, a => toR_app (r := r)
theorem laid_app {H : Ho} : ∀ {r s : List De} {a : Int}, Laid H a r → Laid H (H.toR a r) s → Laid H a (r ++ s)
  | [], _, _, _, l => l
  | d :: r, s, a, l1, l2 => ⟨l1.1, l1.2.1, laid_app l1.2.2 l2⟩
theorem rep_toR {H : Ho} {a : Int} {r : List De} (e : H.toR a r = a) : ∀ n, H.toR a (rep n r) = a
  | 0 => rfl
  | n + 1 => by rw [rep_succ, toR_app, e]; exact rep_toR e n
theorem rep_laid {H : Ho} {a : Int} {r : List De} (e : H.toR a r = a) (l : Laid H a r) : ∀ n, Laid H a (rep n r)
  | 0 => trivial
  | n + 1 => by rw [rep_succ]; exact laid_app l (by rw [e]; exact rep_laid e l n)
theorem rep_F {H : Ho} {a : Int} {r : List De} (e : H.toR a r = a) : ∀ n, H.F a (rep n r) = powF (H.F a r) n
  | 0 => rfl
  | n + 1 => by
    funext j x
    show H.hgt j a x (rep (n + 1) r) = (H.hgt j a x r).bind (powF (H.F a r) n j)
    rw [rep_succ, hgt_app, e, ← rep_F e n]
theorem bars_rep {H : Ho} {a : Int} {r : List De} (e : H.toR a r = a) : ∀ {n : Nat} {k : List Int} {i : Nat}, match H.bars a k i (rep n r) with
    | none => (iterF (H.F a r) n k).isSome = true
    | some (p, _, _) => ∃ m, m < n ∧ (iterF (H.F a r) m k).isSome = true ∧ iterF (H.F a r) (m + 1) k = none ∧ i + m * r.length ≤ p ∧ p < i + (m + 1) * r.length
  | 0, k, i => by show (iterF (H.F a r) 0 k).isSome = true; rfl
  | n + 1, k, i => by
    have app : ∀ {r s : List De} {a : Int} {k : List Int} {i : Nat}, H.bars a k i (r ++ s) = match H.bars a k i r with
        | some b => some b
        | none => H.bars (H.ends a k r).1 (H.ends a k r).2 (i + r.length) s := by
      intro r s
      induction r with
      | nil => intro a k i; rfl
      | cons d r ih =>
        intro a k i
        show (match H.bar a d 0 k with
          | some (b, j) => some (i, b, j)
          | none => Ho.bars H (H.to a d) (H.step d 0 k) (i + 1) (r ++ s)) = (match (match H.bar a d 0 k with
          | some (b, j) => some (i, b, j)
          | none => Ho.bars H (H.to a d) (H.step d 0 k) (i + 1) r) with
          | some b => some b
          | none => H.bars (H.ends a k (d :: r)).1 (H.ends a k (d :: r)).2 (i + (r.length + 1)) s)
        cases H.bar a d 0 k with
        | some p => rfl
        | none =>
          dsimp only
          rw [ih]
          rw [show i + 1 + r.length = i + (r.length + 1) by omega]
          rfl
    rw [rep_succ, app]
    have b := bars_next (H := H) (r := r) (a := a) (k := k) (i := i)
    cases hn : nextF (H.F a r) k with
    | none =>
      rw [hn] at b
      obtain ⟨p, b, j, h1, h2, h3⟩ := b
      rw [h1]
      refine ⟨0, by omega, rfl, ?_, by omega, by omega⟩
      show (nextF (H.F a r) k).bind _ = none
      rw [hn]; rfl
    | some k' =>
      rw [hn] at b
      rw [b.1]
      dsimp only
      rw [b.2, e]
      have it : ∀ m, iterF (H.F a r) (m + 1) k = iterF (H.F a r) m k' := fun m => by
        show (nextF (H.F a r) k).bind _ = _
        rw [hn]; rfl
      have ih := bars_rep e (n := n) (k := k') (i := i + r.length)
      cases hb : H.bars a k' (i + r.length) (rep n r) with
      | none => rw [hb] at ih; show (iterF (H.F a r) (n + 1) k).isSome = true; rw [it]; exact ih
      | some q =>
        rw [hb] at ih
        obtain ⟨p, b, j⟩ := q
        obtain ⟨m, h1, h2, h3, h4, h5⟩ := ih
        refine ⟨m + 1, by omega, by rw [it]; exact h2, by rw [it]; exact h3, ?_, ?_⟩
        · rw [Nat.succ_mul]; omega
        · rw [Nat.succ_mul]; omega
end Hf
end

section
set_option Elab.async false
set_option linter.all false
set_option maxRecDepth 100000
/-! plays: how often, far keys -/
namespace Hf
open PySem Iw
def MonoF (F : Fn) : Prop := ∀ (j : Nat) (x y x' y' : Int), x ≤ y → F j x = some x' → F j y = some y' → x' ≤ y'
def ConvF (F : Fn) : Prop := ∀ (j : Nat) (x y z : Int), x ≤ y → y ≤ z → (F j x).isSome = true → (F j z).isSome = true → (F j y).isSome = true
theorem mono_row {H : Ho} {a : Int} {r : List De} : MonoF (H.F a r) := fun j x y x' y' h e1 e2 => hgt_mono h e1 e2
theorem conv_row {H : Ho} {a : Int} {r : List De} : ConvF (H.F a r) := fun j x y z h1 h2 e1 e2 => hgt_conv h1 h2 e1 e2
theorem pow_ok {t : Int} {F : Fn} (hF : FnOk t F) : ∀ n, FnOk t (powF F n)
  | 0 => fun j x y hj h1 h2 e => by cases e; exact ⟨h1, h2⟩
  | n + 1 => fun j x y hj h1 h2 e => by
    obtain ⟨z, e1, e2⟩ := Option.bind_eq_some_iff.mp (show (F j x).bind (powF F n j) = some y from e)
    obtain ⟨g1, g2⟩ := hF j x z hj h1 h2 e1
    exact pow_ok hF n j z y hj g1 g2 e2
theorem pow_mono {F : Fn} (hF : MonoF F) : ∀ n, MonoF (powF F n)
  | 0 => fun j x y x' y' h e1 e2 => by cases e1; cases e2; exact h
  | n + 1 => fun j x y x' y' h e1 e2 => by
    obtain ⟨u, a1, a2⟩ := Option.bind_eq_some_iff.mp (show (F j x).bind (powF F n j) = some x' from e1)
    obtain ⟨v, b1, b2⟩ := Option.bind_eq_some_iff.mp (show (F j y).bind (powF F n j) = some y' from e2)
    exact pow_mono hF n j u v x' y' (hF j x y u v h a1 b1) a2 b2
theorem pow_conv {F : Fn} (hM : MonoF F) (hF : ConvF F) : ∀ n, ConvF (powF F n)
  | 0 => fun j x y z h1 h2 e1 e2 => rfl
  | n + 1 => fun j x y z h1 h2 e1 e2 => by
    show ((F j y).bind (powF F n j)).isSome = true
    have e1 : ((F j x).bind (powF F n j)).isSome = true := e1
    have e2 : ((F j z).bind (powF F n j)).isSome = true := e2
    cases hx : F j x with
    | none => rw [hx] at e1; cases e1
    | some u =>
      cases hz : F j z with
      | none => rw [hz] at e2; cases e2
      | some w =>
        rw [hx] at e1
        rw [hz] at e2
        have := hF j x y z h1 h2 (by rw [hx]; rfl) (by rw [hz]; rfl)
        cases hy : F j y with
        | none => rw [hy] at this; cases this
        | some v => exact pow_conv hM hF n j u v w (hM j x y u v h1 hx hy) (hM j y z v w h2 hy hz) e1 e2
/-- seven plays: the last one turns nothing -/
theorem pow_fix {t : Int} {F : Fn} (hF : FnOk t F) (hM : MonoF F) {j : Nat} {x z : Int} (hj : (j : Int) < t) (h1 : 0 ≤ x) (h2 : x ≤ 6) (e : powF F 7 j x = some z) : powF F 6 j x = some z ∧ F j z = some z := by
  obtain ⟨x1, a1, e⟩ := Option.bind_eq_some_iff.mp (show (F j x).bind (powF F 6 j) = some z from e)
  obtain ⟨x2, a2, e⟩ := Option.bind_eq_some_iff.mp (show (F j x1).bind (powF F 5 j) = some z from e)
  obtain ⟨x3, a3, e⟩ := Option.bind_eq_some_iff.mp (show (F j x2).bind (powF F 4 j) = some z from e)
  obtain ⟨x4, a4, e⟩ := Option.bind_eq_some_iff.mp (show (F j x3).bind (powF F 3 j) = some z from e)
  obtain ⟨x5, a5, e⟩ := Option.bind_eq_some_iff.mp (show (F j x4).bind (powF F 2 j) = some z from e)
  obtain ⟨x6, a6, e⟩ := Option.bind_eq_some_iff.mp (show (F j x5).bind (powF F 1 j) = some z from e)
  obtain ⟨x7, a7, e⟩ := Option.bind_eq_some_iff.mp (show (F j x6).bind (powF F 0 j) = some z from e)
  cases e
  have b1 := hF j x x1 hj h1 h2 a1
  have b2 := hF j x1 x2 hj b1.1 b1.2 a2
  have b3 := hF j x2 x3 hj b2.1 b2.2 a3
  have b4 := hF j x3 x4 hj b3.1 b3.2 a4
  have b5 := hF j x4 x5 hj b4.1 b4.2 a5
  have b6 := hF j x5 x6 hj b5.1 b5.2 a6
  have b7 := hF j x6 z hj b6.1 b6.2 a7
  have up : ∀ {u v u' v' : Int}, F j u = some u' → F j v = some v' → (u ≤ v → u' ≤ v') ∧ (v ≤ u → v' ≤ u') := fun p q => ⟨fun h => hM j _ _ _ _ h p q, fun h => hM j _ _ _ _ h q p⟩
  have c1 := up a1 a2
  have c2 := up a2 a3
  have c3 := up a3 a4
  have c4 := up a4 a5
  have c5 := up a5 a6
  have c6 := up a6 a7
  have e6 : x6 = z := by omega
  subst e6
  refine ⟨?_, a7⟩
  show (F j x).bind (powF F 5 j) = some x6
  rw [a1]; show (F j x1).bind (powF F 4 j) = some x6
  rw [a2]; show (F j x2).bind (powF F 3 j) = some x6
  rw [a3]; show (F j x3).bind (powF F 2 j) = some x6
  rw [a4]; show (F j x4).bind (powF F 1 j) = some x6
  rw [a5]; show (F j x5).bind (powF F 0 j) = some x6
  rw [a6]; rfl
theorem pow_far {t : Int} {F : Fn} (hF : FnOk t F) (hM : MonoF F) {j : Nat} {x z : Int} (hj : (j : Int) < t) (h1 : 0 ≤ x) (h2 : x ≤ 6) (e : powF F 7 j x = some z) : ∀ n, powF F (6 + n) j x = some z
  | 0 => (pow_fix hF hM hj h1 h2 e).1
  | n + 1 => by
    rw [show 6 + (n + 1) = (6 + n) + 1 by omega, powF_end, pow_far hF hM hj h1 h2 e n]
    exact (pow_fix hF hM hj h1 h2 e).2
/-- a map of heights alike for all that a key may have -/
theorem led_congr {F G : Fn} : ∀ {k : List Int} {j : Nat}, (∀ (i : Nat) (x : Int), k[i]? = some x → F (j + i) x = G (j + i) x) → ledF F j k = ledF G j k
  | [], _, _ => rfl
  | x :: k, j, e => by
    show F j x :: ledF F (j + 1) k = G j x :: ledF G (j + 1) k
    rw [show F j x = G j x from e 0 x rfl, led_congr (F := F) (G := G) (k := k) (j := j + 1) (fun i x h => (by rw [show j + 1 + i = j + (i + 1) by omega]; exact e (i + 1) x (by simpa using h)))]
theorem next_congr {F G : Fn} {k : List Int} (e : ∀ (i : Nat) (x : Int), k[i]? = some x → F i x = G i x) : nextF F k = nextF G k := congrArg allS (led_congr fun i x h => by rw [Nat.zero_add]; exact e i x h)
theorem KeyOk.at {t : Int} {k : List Int} (hk : KeyOk t k) {i : Nat} {x : Int} (h : k[i]? = some x) : (i : Int) < t ∧ 0 ≤ x ∧ x ≤ 6 := by
  have := (List.getElem?_eq_some_iff.mp h).1
  have := hk.1
  have := hk.2 x (List.mem_of_getElem? h)
  omega
theorem ledF_at {F : Fn} : ∀ {k : List Int} {j i : Nat} {x : Int}, k[i]? = some x → (ledF F j k)[i]? = some (F (j + i) x)
  | [], _, _, _, h => by simp at h
  | y :: k, j, 0, x, h => by simp at h; subst h; rfl
  | y :: k, j, i + 1, x, h => by
    show (ledF F (j + 1) k)[i]? = _
    rw [ledF_at (by simpa using h), show j + 1 + i = j + (i + 1) by omega]
/-- a key behind: tooth by tooth -/
theorem next_at {F : Fn} {k k' : List Int} (e : nextF F k = some k') {i : Nat} {x : Int} (h : k[i]? = some x) : ∃ y, k'[i]? = some y ∧ F i x = some y := by
  have e1 := allS_some e
  have e2 := ledF_at (F := F) (j := 0) h
  rw [e1, List.getElem?_map, Nat.zero_add] at e2
  cases hk : k'[i]? with
  | none => rw [hk] at e2; cases e2
  | some y => rw [hk] at e2; exact ⟨y, rfl, (Option.some.inj e2).symm⟩
theorem next_len {F : Fn} {k k' : List Int} (e : nextF F k = some k') : k'.length = k.length := by
  have := congrArg List.length (allS_some e)
  rw [ledF_len, List.length_map] at this
  exact this.symm
theorem next_some {F : Fn} {k : List Int} (h : ∀ (i : Nat) (x : Int), k[i]? = some x → (F i x).isSome = true) : (nextF F k).isSome = true := by
  cases hn : nextF F k with
  | some _ => rfl
  | none =>
    obtain ⟨o, ho, hi⟩ := List.any_eq_true.mp (allS_none.mp hn)
    obtain ⟨i, hi2⟩ := List.getElem?_of_mem ho
    have hl : i < k.length := by
      have := (List.getElem?_eq_some_iff.mp hi2).1
      rwa [ledF_len] at this
    have e := ledF_at (F := F) (j := 0) (List.getElem?_eq_getElem hl)
    rw [hi2, Nat.zero_add] at e
    have := h i _ (List.getElem?_eq_getElem hl)
    rw [← Option.some.inj e] at this
    cases o with
    | none => cases this
    | some _ => cases hi
/-- seven times is for ever -/
theorem iter_far {t : Int} {F : Fn} (hF : FnOk t F) (hM : MonoF F) {k : List Int} (hk : KeyOk t k) (e : (iterF F 7 k).isSome = true) (n : Nat) : iterF F (6 + n) k = iterF F 7 k := by
  rw [iter_pow] at e
  rw [iter_pow, iter_pow]
  obtain ⟨k', ek⟩ := Option.isSome_iff_exists.mp e
  refine next_congr fun i x h => ?_
  obtain ⟨h1, h2, h3⟩ := hk.at h
  obtain ⟨y, _, h4⟩ := next_at ek h
  rw [h4]
  exact pow_far hF hM h1 h2 h3 h4 n
theorem natV_none {o : Option Nat} {h : Hs} {k : Nat} : handed h k (natV o) = some (natV o) := by cases o <;> rfl
section
variable {P : Pg} (L : Lk P) {Q : PV → Hs → Prop} {h : Hs} {n i : Nat}
include L
theorem need_round_S {H : Ho} {a : Int} {row : List De} (ok : HoOk H) (h1 : 0 ≤ a) (h2 : a < H.n) (hl : Laid H a row) (he : H.toR a row = a) (hr : row.length < line) (q : Q (.d .none) h) : Sat (callN P (n + 13) "need_round" [.d H.d, .d (.int a), .d (rwD row)] h) Q := by
  rw [call0 L.need_round rfl]
  simp [f_need_round]
  refine need_laid_S (n := n) L ok h1 h2 hl (Nat.le_of_lt hr) ?_
  refine halls_of_S (n := n + 9) L hl hr ?_
  simp
  have : ∃ hs, H.halls a row = hs ++ [a] := by
    have e := halls_last (H := H) (r := row) (a := a)
    have l := halls_len (H := H) (r := row) (a := a)
    refine ⟨(H.halls a row).take row.length, ?_⟩
    rw [he] at e
    have h3 : row.length < (H.halls a row).length := by omega
    have e2 : (H.halls a row).drop row.length = [a] := by
      rw [List.drop_eq_getElem_cons h3, List.drop_of_length_le (by omega)]
      rw [List.getElem?_eq_getElem h3] at e
      injection e with e
      rw [e]
    rw [← e2, List.take_append_drop]
  obtain ⟨hs, e⟩ := this
  rw [e, List.map_append]
  refine ⟨_, atI_last, ?_⟩
  simp
  exact q
theorem how_often_S {H : Ho} {a : Int} {row : List De} {k : List Int} (ok : HoOk H) (h1 : 0 ≤ a) (h2 : a < H.n) (hl : Laid H a row) (he : H.toR a row = a) (hr : row.length < line) (hk : KeyOk H.t k) (q : Q (natV (oftenF (H.F a row) 7 0 k)) h) : Sat (callN P (n + 14) "how_often" [.d H.d, .d (.int a), .d (rwD row), .d (kD k)] h) Q := by
  have ht := ok.t
  rw [call0 L.how_often rfl]
  simp [f_how_often]
  refine need_round_S (n := n) L ok h1 h2 hl he hr ?_
  refine need_key_S (n := n + 8) L hk ht.2 ?_
  refine does_by_S (n := n + 9) L ok hl ?_
  rw [tabs_F]
  refine often_by_S (n := n + 11) L (fn_ok ok hl) hk ht.2 ?_
  simp [natV_none]
  exact q
theorem key_far_S {H : Ho} {a m : Int} {row : List De} {k k' : List Int} (ok : HoOk H) (h1 : 0 ≤ a) (h2 : a < H.n) (hl : Laid H a row) (he : H.toR a row = a) (hr : row.length < line) (hk : KeyOk H.t k) (hm : 0 ≤ m ∧ m ≤ 1000000000000) (ho : ∀ i, oftenF (H.F a row) 7 0 k = some i → m ≤ i) (hi : iterF (H.F a row) (if 7 < m then 7 else m.toNat) k = some k') (q : Q (.d (kD k')) h) : Sat (callN P (n + 15) "key_far" [.d H.d, .d (.int a), .d (rwD row), .d (kD k), .d (.int m)] h) Q := by
  have ht := ok.t
  have tl : line = 16777216 := rfl
  rw [call0 L.key_far rfl]
  simp [f_key_far]
  refine how_often_S (n := n) L ok h1 h2 hl he hr hk ?_
  simp [asg]
  refine need_times_S (n := n + 11) L hm ?_
  have hc : (if 7 < m then (7 : Int) else m).toNat = (if 7 < m then 7 else m.toNat) := by split <;> rfl
  rcases eo : oftenF (H.F a row) 7 0 k with _ | i
  · simp [natV, isNonV]
    refine does_by_S (n := n + 10) L ok hl ?_
    rw [tabs_F]
    refine ⟨by split <;> omega, ?_⟩
    rw [rngL_eq]
    rw [hc]
    refine forF_allM (fun ys σ hh => ∃ (k1 : List Int) (u : Option PV), σ = [some (.d H.d), some (.d (.int a)), some (.d (rwD row)), some (.d (kD k1)), some (.d (.int m)), some (.d .none), some (.d (tabsD (tabF H.t (H.F a row)))), u] ∧ hh = h ∧ KeyOk H.t k1 ∧ iterF (H.F a row) ys.length k1 = some k') ?_ _ _ _ ?_ ?_
    · rintro y ys σ hh ⟨k1, u, rfl, rfl, hk1, ei⟩
      obtain ⟨k2, e1, e2⟩ := Option.bind_eq_some_iff.mp (show (nextF (H.F a row) k1).bind (iterF (H.F a row) ys.length) = some k' from ei)
      refine ⟨_, by simp [asg]; rfl, ?_⟩
      simp
      refine led_S (n := n + 13) L hk1 ht.2 ?_
      simp [asg]
      refine ⟨k2, ?_, nextF_ok (fn_ok ok hl) hk1 e1, e2⟩
      rw [allS_some e1, List.map_map]; rfl
    · exact ⟨k, _, rfl, rfl, hk, by rw [rngI_len]; exact hi⟩
    · rintro σ hh ⟨k1, u, rfl, rfl, hk1, ei⟩
      cases ei
      simpa using q
  · have hb := ho i eo
    simp [natV, isNonV, hb]
    refine .inl ?_
    refine does_by_S (n := n + 10) L ok hl ?_
    rw [tabs_F]
    refine ⟨by split <;> omega, ?_⟩
    rw [rngL_eq]
    rw [hc]
    refine forF_allM (fun ys σ hh => ∃ (k1 : List Int) (u : Option PV), σ = [some (.d H.d), some (.d (.int a)), some (.d (rwD row)), some (.d (kD k1)), some (.d (.int m)), some (.d (.int i)), some (.d (tabsD (tabF H.t (H.F a row)))), u] ∧ hh = h ∧ KeyOk H.t k1 ∧ iterF (H.F a row) ys.length k1 = some k') ?_ _ _ _ ?_ ?_
    · rintro y ys σ hh ⟨k1, u, rfl, rfl, hk1, ei⟩
      obtain ⟨k2, e1, e2⟩ := Option.bind_eq_some_iff.mp (show (nextF (H.F a row) k1).bind (iterF (H.F a row) ys.length) = some k' from ei)
      refine ⟨_, by simp [asg]; rfl, ?_⟩
      simp
      refine led_S (n := n + 13) L hk1 ht.2 ?_
      simp [asg]
      refine ⟨k2, ?_, nextF_ok (fn_ok ok hl) hk1 e1, e2⟩
      rw [allS_some e1, List.map_map]; rfl
    · exact ⟨k, _, rfl, rfl, hk, by rw [rngI_len]; exact hi⟩
    · rintro σ hh ⟨k1, u, rfl, rfl, hk1, ei⟩
      cases ei
      simpa using q
end
end Hf
end

section
set_option Elab.async false
set_option linter.all false
set_option maxRecDepth 100000
/-! boxes of tables -/
namespace Hf
open PySem Iw
def rowF (F : Fn) (j : Nat) : List (Option Int) := (rngI 0 7).map (F j)
theorem tabF_row {t : Int} {F : Fn} : tabF t F = (rngI 0 t.toNat).map fun j => rowF F j.toNat := rfl
theorem zip_same {α β γ : Type} {f : α → β} {g : α → γ} : ∀ xs : List α, (xs.map f).zip (xs.map g) = xs.map fun x => (f x, g x)
  | [] => rfl
  | x :: xs => congrArg ((f x, g x) :: ·) (zip_same xs)
theorem enums_rng {g : Int → PyData} : ∀ (n : Nat) (lo : Nat), enums lo ((rngI lo n).map g) = (rngI lo n).map fun x => PV.d (.tuple [.int x, g x])
  | 0, _ => rfl
  | n + 1, lo => by
    show PV.d (.tuple [.int lo, g lo]) :: enums (lo + 1) ((rngI ((lo : Int) + 1) n).map g) = _
    have := enums_rng (g := g) n (lo + 1)
    rw [show ((lo + 1 : Nat) : Int) = (lo : Int) + 1 by omega] at this
    rw [this]
    rfl
def runF (F : Fn) (j : Nat) : List Int := (rngI 0 7).filter fun x => (F j x).isSome
def endsR (r : List Int) : Int × Int := (r.headD 0, r.getLastD 0)
def runsF (t : Int) (F : Fn) : List (List Int) := (rngI 0 t.toNat).map fun j => runF F j.toNat
def boxF (t : Int) (F : Fn) : Option (List (Int × Int)) := if (runsF t F).any List.isEmpty = true then none else some ((runsF t F).map endsR)
def boxV : Option (List (Int × Int)) → PV
  | none => .d .none
  | some b => .d (bD b)
def iD (r : List Int) : PyData := .list (r.map .int)
theorem plain_iD (r : List Int) : (iD r).plain = true := plain_ints r
theorem in_runs {rs : List (List Int)} {h : Hs} : cmpop .isin (.d (.list [])) (.d (.list (rs.map iD))) h = some (rs.any List.isEmpty) := by
  show (if (true && (PyData.plainAll (rs.map iD) && decide (1 ≤ deep))) = true then some ((rs.map iD).any fun y => PyData.eqv y (.list [])) else none) = _
  rw [plain_map plain_iD, if_pos (by decide), List.any_map]
  congr 1
  induction rs with
  | nil => rfl
  | cons r rs ih =>
    rw [List.any_cons, List.any_cons, ih]
    cases r <;> rfl
theorem atI_head {α : Type} {x : α} {r : List α} : L2.atI (x :: r) 0 = some x := by simp [L2.atI, L2.ixN]
theorem atI_end {r : List Int} (h : r ≠ []) : L2.atI (r.map PyData.int) (-1) = some (.int (r.getLastD 0)) := by
  have e : r = r.dropLast ++ [r.getLastD 0] := by
    cases r with
    | nil => exact absurd rfl h
    | cons x r =>
      rw [List.getLastD_cons, ← List.getLast_eq_getLastD]
      exact (List.dropLast_concat_getLast (by simp)).symm
  rw [e, List.map_append]
  have := atI_last (xs := r.dropLast.map PyData.int) (x := PyData.int (r.getLastD 0))
  simpa using this
@[simp] theorem b_mulT {xs : List PyData} {k : Int} {h : Hs} {Q : PV → Hs → Prop} : Sat (binop .mul (.d (.tuple xs)) (.d (.int k)) h) Q ↔ (0 ≤ k ∧ k ≤ 1000 ∧ xs.length ≤ 1000) ∧ Q (.d (.tuple (List.replicate k.toNat xs).flatten)) h := by
  show Sat (if 0 ≤ k ∧ k ≤ 1000 ∧ xs.length ≤ 1000 then _ else _) Q ↔ _
  rw [sat_if, sat_ok]
theorem rngv_T {i j : Int} {h : Hs} {Q : PV → Hs → Prop} : Sat (rngv true false (.d (.int i)) (.d (.int j)) h) Q ↔ (-line ≤ i ∧ i ≤ line ∧ -line ≤ j ∧ j ≤ line ∧ (j - i).toNat ≤ line) ∧ Q (.d (.tuple ((rngI i (j - i).toNat).map .int))) h := by
  show Sat (if -line ≤ i ∧ i ≤ line ∧ -line ≤ j ∧ j ≤ line ∧ (j - i).toNat ≤ line then R.ok (PV.d (.tuple (rngD i (j - i).toNat))) h else .bad) Q ↔ _
  rw [sat_if, sat_ok, rngD_eq]
theorem rep_one {c : PyData} : ∀ {n : Nat} {lo : Int}, (List.replicate n [c]).flatten = (rngI lo n).map fun _ => c
  | 0, _ => rfl
  | n + 1, lo => by
    rw [List.replicate_succ, List.flatten_cons, rep_one (n := n) (lo := lo + 1)]
    rfl
section
variable {P : Pg} (L : Lk P) {Q : PV → Hs → Prop} {h : Hs} {n i : Nat}
include L
theorem put_behind_S {t : Int} {F G : Fn} (hF : FnOk t F) (ht : 1 ≤ t ∧ t ≤ 3) (q : Q (.d (tabsD (tabF t fun j x => (F j x).bind (G j)))) h) : Sat (callN P (n + 1) "put_behind" [.d (tabsD (tabF t F)), .d (tabsD (tabF t G))] h) Q := by
  have tl : line = 16777216 := rfl
  rw [call0 L.put_behind rfl]
  simp [f_put_behind, asg]
  have ez : pairs ((tabF t F).map tabD) ((tabF t G).map tabD) = (rngI 0 t.toNat).map fun j => PV.d (.tuple [tabD (rowF F j.toNat), tabD (rowF G j.toNat)]) := by
    rw [pairs_map, tabF_row, tabF_row, zip_same, List.map_map]
    rfl
  simp only [tabsD, it_zipT, sat_ok]
  rw [ez]
  refine forF_allM (fun ys σ hh => ∃ (ts : List (List (Option Int))) (lo : Int) (u v w : Option PV), σ = [some (.d (.tuple ((tabF t F).map tabD))), some (.d (.tuple ((tabF t G).map tabD))), some (.ref h.length), u, v, w] ∧ hh = h ++ [.lst (ts.map fun T => .d (tabD T))] ∧ ys = rngI lo ys.length ∧ 0 ≤ lo ∧ lo + ys.length = t ∧ ts ++ ys.map (fun j => rowF (fun j x => (F j x).bind (G j)) j.toNat) = tabF t fun j x => (F j x).bind (G j)) ?_ _ _ _ ?_ ?_
  · rintro j ys σ hh ⟨ts, lo, u, v, w, rfl, rfl, ey, l0, le, et⟩
    have e0 : (h ++ [Ob.lst (ts.map fun T => PV.d (tabD T))])[h.length]? = some (.lst (ts.map fun T => .d (tabD T))) := by simp
    rw [List.length_cons] at ey le
    obtain ⟨e1, e2⟩ := List.cons.inj (show j :: ys = lo :: rngI (lo + 1) ys.length from ey)
    subst e1
    refine ⟨_, by simp [asg]; rfl, ?_⟩
    have hj : ((j.toNat : Nat) : Int) < t := by omega
    simp
    refine ⟨lstAt_ref e0, ?_⟩
    simp only [tabD, it_tuple, sat_ok]
    rw [List.map_map]
    refine sat_mapM (f := PV.d ∘ intD) (xs := rowF F j.toNat) (fun o => .d (intD (o.bind (G j.toNat)))) ?_ ?_
    · intro o ho
      obtain ⟨x, hx, eo⟩ := List.mem_map.mp ho
      have hx := rngI_mem hx
      cases o with
      | none => simp [Iw.wipe, asg, intD, isNonV]
      | some y =>
        have hy := hF _ x y hj (by omega) (by omega) eo
        have ea : L2.atI ((rowF G j.toNat).map intD) y = some (intD (G j.toNat y)) := atI_int hy.1 (by rw [List.getElem?_map, rowF, gT_at hy.1 hy.2]; rfl)
        simp [Iw.wipe, asg, intD, isNonV]
        rw [ea]
        rfl
    · rw [sat_lstF (ds := ((rowF F j.toNat).map fun o => o.bind (G j.toNat)).map intD) (by rw [List.map_map, List.map_map]; rfl)]
      refine ⟨by rw [List.length_map, List.length_map, rowF, List.length_map, rngI_len]; decide, ?_⟩
      rw [bi_tupL]
      refine ⟨by rw [List.length_map, List.length_map, rowF, List.length_map, rngI_len]; decide, ?_⟩
      have tl2 : ts.length < line := by
        have := congrArg List.length et
        rw [List.length_append, tabF, List.length_map, List.length_map, rngI_len] at this
        omega
      refine (app_ref e0 (by rw [List.length_map]; exact tl2)).mpr ?_
      simp
      refine ⟨ts ++ [rowF (fun j x => (F j x).bind (G j)) j.toNat], ?_, j + 1, e2, by omega, by omega, ?_⟩
      · rw [List.map_append]
        show _ = _ ++ [PV.d (tabD _)]
        rw [show rowF (fun j x => (F j x).bind (G j)) j.toNat = (rowF F j.toNat).map fun o => o.bind (G j.toNat) from by rw [rowF, rowF, List.map_map]; rfl]
        simp [tabD]
      · rw [← et, List.append_assoc]; rfl
  · exact ⟨[], 0, _, _, _, rfl, by simp, by rw [rngI_len], by omega, by rw [rngI_len]; omega, rfl⟩
  · rintro σ hh ⟨ts, lo, u, v, w, rfl, rfl, ey, l0, le, et⟩
    have e0 : (h ++ [Ob.lst (ts.map fun T => PV.d (tabD T))])[h.length]? = some (.lst ((ts.map tabD).map .d)) := by simp
    simp
    refine (bi_tupR e0).mpr ⟨?_, ?_⟩
    · have := congrArg List.length et
      rw [List.length_append, tabF, List.length_map, List.length_map, rngI_len] at this
      rw [List.length_map]
      omega
    · rw [List.map_nil, List.append_nil] at et
      simp
      rw [et]
      exact q
theorem box_by_S {t : Int} {F : Fn} (ht : 1 ≤ t ∧ t ≤ 3) (q : Q (boxV (boxF t F)) h) : Sat (callN P (n + 1) "box_by" [.d (tabsD (tabF t F))] h) Q := by
  have tl : line = 16777216 := rfl
  rw [call0 L.box_by rfl]
  simp only [tabsD, tabF_row, List.map_map]
  simp [f_box_by]
  have fl : ∀ j, (runF F j).length ≤ 7 := fun j => Nat.le_trans (List.length_filter_le _ _) (by rw [rngI_len]; exact Nat.le_refl _)
  have rl : (runsF t F).length ≤ 3 := by rw [runsF, List.length_map, rngI_len]; omega
  refine sat_mapM (f := fun j : Int => .d (tabD (rowF F j.toNat))) (fun j : Int => .d (iD (runF F j.toNat))) ?_ ?_
  · intro j hj
    simp [Iw.wipe, asg]
    simp only [tabD, rowF, List.map_map, it_enT, sat_ok]
    have e := enums_rng (g := intD ∘ F j.toNat) 7 0
    rw [show ((0 : Nat) : Int) = 0 from rfl] at e
    rw [e]
    refine sat_filtM (f := fun x => .d (.tuple [.int x, intD (F j.toNat x)])) (fun x => (F j.toNat x).isSome) (fun x => .d (.int x)) ?_ ?_
    · intro x hx
      cases ho : F j.toNat x <;> simp [Iw.wipe, asg, intD, isNonV]
    · rw [sat_lstF (ds := (runF F j.toNat).map .int) (by rw [List.map_map]; rfl)]
      refine ⟨by rw [List.length_map]; have := fl j.toNat; omega, ?_⟩
      exact ⟨rfl, rfl⟩
  · rw [sat_lstF (ds := (runsF t F).map iD) (by rw [runsF, List.map_map, List.map_map]; rfl)]
    refine ⟨by rw [List.length_map]; omega, ?_⟩
    simp [asg]
    rw [in_runs]
    unfold boxF at q
    cases hb : (runsF t F).any List.isEmpty with
    | true =>
      rw [hb] at q
      simp
      exact q
    | false =>
      rw [hb] at q
      have ne : ∀ r ∈ runsF t F, r ≠ [] := by
        intro r hr e
        have : (runsF t F).any List.isEmpty = true := List.any_eq_true.mpr ⟨r, hr, by rw [e]; rfl⟩
        rw [hb] at this; cases this
      simp
      generalize runsF t F = rs at ne rl q
      refine sat_mapM (f := PV.d ∘ iD) (fun r => .d (gD (endsR r))) ?_ ?_
      · intro r hr
        have n0 := ne r hr
        have e1 := atI_end n0
        simp [Iw.wipe, asg, iD]
        refine ⟨.int (r.headD 0), ?_, ?_⟩
        · cases r with
          | nil => exact absurd rfl n0
          | cons x r => exact atI_head
        · rw [e1]
          simp [gD, endsR]
      · rw [sat_lstF (ds := (rs.map endsR).map gD) (by rw [List.map_map, List.map_map]; rfl)]
        refine ⟨by rw [List.length_map, List.length_map]; omega, ?_⟩
        simp
        exact ⟨by omega, by simpa [boxV, bD] using q⟩
omit L in
theorem tabF_congr {t : Int} {F G : Fn} (e : ∀ (j : Nat) (x : Int), (j : Int) < t → 0 ≤ x → x ≤ 6 → F j x = G j x) : tabF t F = tabF t G := by
  refine List.map_congr_left fun j hj => List.map_congr_left fun x hx => ?_
  have := rngI_mem hj
  have := rngI_mem hx
  exact e _ _ (by omega) (by omega) (by omega)
theorem box_far_S {H : Ho} {a m : Int} {row : List De} (ok : HoOk H) (h1 : 0 ≤ a) (h2 : a < H.n) (hl : Laid H a row) (he : H.toR a row = a) (hr : row.length < line) (hm : 0 ≤ m ∧ m ≤ 1000000000000) (q : Q (boxV (boxF H.t (powF (H.F a row) (if 7 < m then 7 else m.toNat)))) h) : Sat (callN P (n + 14) "box_far" [.d H.d, .d (.int a), .d (rwD row), .d (.int m)] h) Q := by
  have ht := ok.t
  have tl : line = 16777216 := rfl
  have hc : (if 7 < m then (7 : Int) else m).toNat = (if 7 < m then 7 else m.toNat) := by split <;> rfl
  rw [call0 L.box_far rfl]
  simp [f_box_far]
  refine need_round_S (n := n) L ok h1 h2 hl he hr ?_
  refine need_times_S (n := n + 10) L hm ?_
  refine does_by_S (n := n + 9) L ok hl ?_
  simp [rngv_T]
  refine ⟨by decide, by omega, ?_⟩
  refine ⟨_, rfl, ?_⟩
  simp
  refine ⟨by split <;> omega, ?_⟩
  rw [rngL_eq, hc, tabs_F]
  generalize hg : powF (H.F a row) (if 7 < m then 7 else m.toNat) = G at q
  refine forF_allM (fun ys σ hh => ∃ (k : Nat) (u : Option PV), σ = [some (.d H.d), some (.d (.int a)), some (.d (rwD row)), some (.d (.int m)), u, some (.d (tabsD (tabF H.t (H.F a row)))), some (.d (tabsD (tabF H.t (powF (H.F a row) k))))] ∧ hh = h ∧ powF (H.F a row) (k + ys.length) = G) ?_ _ _ _ ?_ ?_
  · rintro y ys σ hh ⟨k, u, rfl, rfl, eg⟩
    refine ⟨_, by simp [asg]; rfl, ?_⟩
    simp
    refine put_behind_S (n := n + 12) L (pow_ok (fn_ok ok hl) k) ht ?_
    simp [asg]
    rw [List.length_cons] at eg
    refine ⟨k + 1, ?_, by rw [← eg]; congr 1; omega⟩
    congr 2
    funext j x
    exact powF_end.symm
  · have e : tabsD (tabF H.t (powF (H.F a row) 0)) = .tuple (List.replicate H.t.toNat (.tuple ((rngI 0 7).map .int))) := by
      show PyData.tuple ((tabF H.t (powF (H.F a row) 0)).map tabD) = _
      rw [tabF, List.map_map]
      have e2 : (rngI 0 H.t.toNat).map (tabD ∘ fun j => (rngI 0 7).map fun x => powF (H.F a row) 0 j.toNat x) = (rngI 0 H.t.toNat).map fun _ => PyData.tuple ((rngI 0 7).map .int) := rfl
      rw [e2, List.map_const', rngI_len]
    exact ⟨0, none, by rw [e], rfl, by rw [rngI_len, Nat.zero_add]; exact hg⟩
  · rintro σ hh ⟨k, u, rfl, rfl, eg⟩
    simp
    refine box_by_S (n := n + 12) L ht ?_
    have eg : powF (H.F a row) k = G := eg
    rw [eg]
    cases hb : boxF H.t G with
    | none => rw [hb] at q; simpa [boxV] using q
    | some b => rw [hb] at q; simpa [boxV] using q
theorem box_of_S {H : Ho} {a : Int} {row : List De} (ok : HoOk H) (h1 : 0 ≤ a) (h2 : a < H.n) (hl : Laid H a row) (hr : row.length ≤ line) (q : Q (boxV (boxF H.t (H.F a row))) h) : Sat (callN P (n + 14) "box_of" [.d H.d, .d (.int a), .d (rwD row)] h) Q := by
  rw [call0 L.box_of rfl]
  simp [f_box_of]
  refine does_S (n := n) L ok h1 h2 hl hr ?_
  rw [tabs_F]
  refine box_by_S (n := n + 12) L ok.t ?_
  cases hb : boxF H.t (H.F a row) with
  | none => rw [hb] at q; simpa [boxV] using q
  | some b => rw [hb] at q; simpa [boxV] using q
end
end Hf
end

section
set_option Elab.async false
set_option linter.all false
set_option maxRecDepth 100000
/-! what the boxes of tables hold; equal data -/
namespace Iw
open PySem L2
theorem depthAll_le {n : Nat} : ∀ {ds : List PyData}, (∀ d ∈ ds, d.depth ≤ n) → PyData.depthAll ds ≤ n
  | [], _ => Nat.zero_le _
  | d :: ds, h => by
    show max d.depth (PyData.depthAll ds) ≤ n
    exact Nat.max_le.mpr ⟨h d List.mem_cons_self, depthAll_le fun x hx => h x (List.mem_cons_of_mem _ hx)⟩
theorem eqOk_self {x : PyData} (hp : x.plain = true) (hd : x.depth ≤ deep) : eqOk x x = true := by
  unfold eqOk
  rw [hp, Nat.min_self]
  simpa using hd
theorem ne_self {x : PyData} {h : Hs} (hp : x.plain = true) (hd : x.depth ≤ deep) : cmpop .ne (.d x) (.d x) h = some false := by
  rw [cmp_d (by decide)]
  show (if eqOk x x = true then some (!PyData.eqv x x) else none) = _
  rw [if_pos (eqOk_self hp hd), PySem.SeqAt.eqv_refl_plain x hp]
  rfl
theorem eq_self' {x : PyData} {h : Hs} (hp : x.plain = true) (hd : x.depth ≤ deep) : cmpop .eq (.d x) (.d x) h = some true := by
  rw [cmp_d (by decide)]
  show (if eqOk x x = true then some (PyData.eqv x x) else none) = _
  rw [if_pos (eqOk_self hp hd), PySem.SeqAt.eqv_refl_plain x hp]
end Iw
namespace Hf
open PySem Iw
theorem plain_kD (k : List Int) : (kD k).plain = true := plain_ints k
theorem plain_gD (g : Int × Int) : (gD g).plain = true := rfl
theorem plain_bD (b : List (Int × Int)) : (bD b).plain = true := plain_map plain_gD b
theorem depth_kD (k : List Int) : (kD k).depth ≤ 1 := Nat.succ_le_succ (depthAll_le fun d hd => by obtain ⟨x, _, rfl⟩ := List.mem_map.mp hd; exact Nat.le_refl _)
theorem depth_gD (g : Int × Int) : (gD g).depth ≤ 1 := Nat.succ_le_succ (depthAll_le fun d hd => by
  rcases List.mem_cons.mp hd with rfl | hd
  · exact Nat.le_refl _
  · rcases List.mem_cons.mp hd with rfl | hd
    · exact Nat.le_refl _
    · cases hd)
theorem depth_bD (b : List (Int × Int)) : (bD b).depth ≤ 2 := Nat.succ_le_succ (depthAll_le fun d hd => by obtain ⟨x, _, rfl⟩ := List.mem_map.mp hd; exact depth_gD x)
theorem depth_stD (a : Int) (k : List Int) : (stD a k).depth ≤ 2 := Nat.succ_le_succ (depthAll_le fun d hd => by
  rcases List.mem_cons.mp hd with rfl | hd
  · exact Nat.zero_le _
  · rcases List.mem_cons.mp hd with rfl | hd
    · exact depth_kD k
    · cases hd)
theorem plain_stD (a : Int) (k : List Int) : (stD a k).plain = true := by
  show (true && ((kD k).plain && true)) = true
  rw [plain_kD]; rfl
theorem depth_de (e : De) : e.d.depth ≤ 1 := by cases e <;> exact Nat.le_refl _
theorem depth_rwD (r : List De) : (rwD r).depth ≤ 2 := Nat.succ_le_succ (depthAll_le fun d hd => by obtain ⟨x, _, rfl⟩ := List.mem_map.mp hd; exact depth_de x)
theorem eq_rw0 {r : List De} {h : Hs} : cmpop .eq (.d (rwD r)) (.d (.tuple [])) h = some r.isEmpty := by
  rw [cmp_d (by decide)]
  have ok : eqOk (rwD r) (.tuple []) = true := by
    show (PyData.plainAll (r.map De.d) && (true && decide (min (rwD r).depth 1 ≤ deep))) = true
    rw [plain_map plain_de, decide_eq_true (Nat.le_trans (Nat.min_le_right _ _) (by decide))]
    rfl
  show (if eqOk (rwD r) (.tuple []) = true then some (PyData.eqv (rwD r) (.tuple [])) else none) = _
  rw [if_pos ok]
  cases r <;> rfl
theorem plain_boxV {o : Option (List (Int × Int))} : ∃ x, boxV o = .d x ∧ x.plain = true ∧ x.depth ≤ deep := by
  cases o with
  | none => exact ⟨_, rfl, rfl, Nat.zero_le _⟩
  | some b => exact ⟨_, rfl, plain_bD b, Nat.le_trans (depth_bD b) (by decide)⟩
theorem ne_boxV {o : Option (List (Int × Int))} {h : Hs} : cmpop .ne (boxV o) (boxV o) h = some false := by
  obtain ⟨x, e, h1, h2⟩ := plain_boxV (o := o)
  rw [e]
  exact ne_self h1 h2
/-! the boxes -/
theorem runF_mem {F : Fn} {j : Nat} {x : Int} : x ∈ runF F j ↔ (0 ≤ x ∧ x ≤ 6) ∧ (F j x).isSome = true := by
  unfold runF
  rw [List.mem_filter]
  refine and_congr_left fun _ => ⟨fun h => by have := rngI_mem h; omega, fun h => ?_⟩
  have : x = 0 ∨ x = 1 ∨ x = 2 ∨ x = 3 ∨ x = 4 ∨ x = 5 ∨ x = 6 := by omega
  rcases this with rfl | rfl | rfl | rfl | rfl | rfl | rfl <;> decide
theorem run_ends {r : List Int} (hp : List.Pairwise (· < ·) r) (hn : r ≠ []) : (endsR r).1 ∈ r ∧ (endsR r).2 ∈ r ∧ ∀ x ∈ r, (endsR r).1 ≤ x ∧ x ≤ (endsR r).2 := by
  cases r with
  | nil => exact absurd rfl hn
  | cons y r =>
    have h1 : (endsR (y :: r)).1 = y := rfl
    have h2 : (endsR (y :: r)).2 = (y :: r).getLast (by simp) := by
      show (y :: r).getLastD 0 = _
      rw [List.getLastD_cons, ← List.getLast_eq_getLastD]
    rw [h1, h2]
    refine ⟨List.mem_cons_self, List.getLast_mem _, fun x hx => ⟨?_, ?_⟩⟩
    · rcases List.mem_cons.mp hx with rfl | hx
      · exact Int.le_refl _
      · exact Int.le_of_lt ((List.pairwise_cons.mp hp).1 x hx)
    · have e := List.dropLast_concat_getLast (l := y :: r) (by simp)
      have hp2 := hp
      rw [← e] at hp2 hx
      rcases List.mem_append.mp hx with hx | hx
      · exact Int.le_of_lt ((List.pairwise_append.mp hp2).2.2 x hx _ (List.mem_singleton.mpr rfl))
      · rw [List.mem_singleton.mp hx]; exact Int.le_refl _
theorem runF_pw {F : Fn} {j : Nat} : List.Pairwise (· < ·) (runF F j) := (rngI_pw 7 0).filter _
theorem rngI_at : ∀ {k : Nat} {lo : Int} {i : Nat}, i < k → (rngI lo k)[i]? = some (lo + i)
  | k + 1, lo, 0, _ => by simp [rngI]
  | k + 1, lo, i + 1, h => by
    show (rngI (lo + 1) k)[i]? = _
    rw [rngI_at (by omega)]
    congr 1
    omega
structure BoxIs (t : Int) (F : Fn) (b : List (Int × Int)) : Prop where
  len : (b.length : Int) = t
  at_ : ∀ (i : Nat) (g : Int × Int), b[i]? = some g → (0 ≤ g.1 ∧ g.1 ≤ g.2 ∧ g.2 ≤ 6) ∧ (F i g.1).isSome = true ∧ (F i g.2).isSome = true ∧ ∀ x, 0 ≤ x → x ≤ 6 → (F i x).isSome = true → g.1 ≤ x ∧ x ≤ g.2
theorem box_some {t : Int} {F : Fn} {b : List (Int × Int)} (ht : 0 ≤ t) (e : boxF t F = some b) : BoxIs t F b := by
  unfold boxF at e
  split at e
  · cases e
  · rename_i hn
    cases e
    refine ⟨by rw [List.length_map, runsF, List.length_map, rngI_len]; omega, fun i g hg => ?_⟩
    rw [runsF, List.map_map, List.getElem?_map] at hg
    obtain ⟨j, hj, rfl⟩ := Option.map_eq_some_iff.mp hg
    have hi : i < t.toNat := by
      have := (List.getElem?_eq_some_iff.mp hj).1
      rwa [rngI_len] at this
    rw [rngI_at hi] at hj
    cases hj
    have ej : ((0 : Int) + (i : Int)).toNat = i := by omega
    show _ ∧ _ ∧ _ ∧ _
    simp only [Function.comp, ej]
    have ne : runF F i ≠ [] := fun z => hn (List.any_eq_true.mpr ⟨runF F i, List.mem_map.mpr ⟨(i : Int), List.mem_of_getElem? (i := i) (by rw [rngI_at hi]; congr 1; omega), by rw [Int.toNat_natCast]⟩, by rw [z]; rfl⟩)
    obtain ⟨h1, h2, h3⟩ := run_ends runF_pw ne
    have a1 := runF_mem.mp h1
    have a2 := runF_mem.mp h2
    exact ⟨⟨a1.1.1, (h3 _ h1).2, a2.1.2⟩, a1.2, a2.2, fun x g1 g2 g3 => h3 x (runF_mem.mpr ⟨⟨g1, g2⟩, g3⟩)⟩
theorem box_none {t : Int} {F : Fn} (e : boxF t F = none) : ∃ i : Nat, (i : Int) < t ∧ ∀ x, 0 ≤ x → x ≤ 6 → F i x = none := by
  unfold boxF at e
  split at e
  · rename_i hn
    obtain ⟨r, hr, h0⟩ := List.any_eq_true.mp hn
    obtain ⟨j, hj, rfl⟩ := List.mem_map.mp hr
    have := rngI_mem hj
    refine ⟨j.toNat, by omega, fun x h1 h2 => ?_⟩
    cases hx : F j.toNat x with
    | none => rfl
    | some y =>
      have hm := runF_mem.mpr ⟨⟨h1, h2⟩, (by rw [hx]; rfl : (F j.toNat x).isSome = true)⟩
      rw [List.isEmpty_iff.mp h0] at hm
      cases hm
  · cases e
end Hf
end

section
set_option Elab.async false
set_option linter.all false
set_option maxRecDepth 100000
/-! more of rows behind themselves, of boxes -/
namespace Hf
open PySem Iw
theorem rep_map {n : Nat} {r : List De} : (List.replicate n (r.map De.d)).flatten = (rep n r).map De.d := by
  unfold rep
  rw [List.map_flatten, List.map_replicate]
theorem iter_nil {F : Fn} (hF : ∀ j x, F j x = some x) : ∀ {n : Nat} {k : List Int}, iterF F n k = some k
  | 0, _ => rfl
  | n + 1, k => by
    show (nextF F k).bind (iterF F n) = some k
    have : nextF F k = some k := by
      rw [next_congr (G := fun _ x => some x) fun i x _ => hF i x]
      unfold nextF
      rw [led_one, allS_map]
    rw [this]
    exact iter_nil hF
theorem iter_uniq {F : Fn} {k : List Int} {m m' : Nat} (a : (iterF F m k).isSome = true) (b : iterF F (m + 1) k = none) (c : (iterF F m' k).isSome = true) (d : iterF F (m' + 1) k = none) : m = m' := by
  rcases Nat.lt_trichotomy m m' with h | h | h
  · have := iterF_less (m := m + 1) (n := m') (by omega) c
    rw [b] at this; cases this
  · exact h
  · have := iterF_less (m := m' + 1) (n := m) (by omega) a
    rw [d] at this; cases this
def enumA {α : Type} : Nat → List α → List (Nat × α)
  | _, [] => []
  | i, x :: r => (i, x) :: enumA (i + 1) r
theorem enumA_eq {α : Type} {f : α → PyData} : ∀ {xs : List α} {i : Nat}, enums i (xs.map f) = (enumA i xs).map fun p => PV.d (.tuple [.int p.1, f p.2])
  | [], _ => rfl
  | x :: xs, i => congrArg (PV.d (.tuple [.int i, f x]) :: ·) enumA_eq
theorem enumA_cons {α : Type} {b : List α} {i j : Nat} {g : α} {ys : List (Nat × α)} (e : enumA i (b.drop i) = (j, g) :: ys) : i = j ∧ b[j]? = some g ∧ ys = enumA (j + 1) (b.drop (j + 1)) := by
  cases hd : b.drop i with
  | nil => rw [hd] at e; cases e
  | cons x r =>
    rw [hd] at e
    obtain ⟨e1, e2⟩ := List.cons.inj (show (i, x) :: enumA (i + 1) r = (j, g) :: ys from e)
    cases e1
    refine ⟨rfl, ?_, ?_⟩
    · have := congrArg (fun l : List α => l[0]?) hd
      simpa using this
    · rw [← e2, ← List.drop_drop, hd]; rfl
def boxD : Option (List (Int × Int)) → PyData
  | none => .none
  | some b => bD b
theorem boxV_D (o : Option (List (Int × Int))) : boxV o = .d (boxD o) := by cases o <;> rfl
theorem ne_boxD {o : Option (List (Int × Int))} {h : Hs} : cmpop .ne (.d (boxD o)) (.d (boxD o)) h = some false := by
  rw [← boxV_D]; exact ne_boxV
theorem eq_boxD {o : Option (List (Int × Int))} {h : Hs} : cmpop .eq (.d (boxD o)) (.d (boxD o)) h = some true := by
  obtain ⟨x, e, h1, h2⟩ := plain_boxV (o := o)
  rw [← boxV_D, e]
  exact eq_self' h1 h2
theorem c_neB {a b : Bool} {h : Hs} : cmpop .ne (.d (.bool a)) (.d (.bool b)) h = some (a != b) := by
  rw [cmp_d (by decide)]
  cases a <;> cases b <;> rfl
theorem pow_one {F : Fn} : powF F 1 = F := by
  funext j x
  show (F j x).bind _ = F j x
  cases F j x <;> rfl
theorem pow_two_two {F : Fn} : powF (powF F 2) 2 = powF F 4 := by
  funext j x
  show ((F j x).bind (powF F 1 j)).bind (fun y => ((F j y).bind (powF F 1 j)).bind some) = (F j x).bind fun y => (F j y).bind fun z => (F j z).bind fun w => (F j w).bind some
  rw [pow_one]
  cases F j x with
  | none => rfl
  | some y =>
    show (F j y).bind (fun y => ((F j y).bind (F j)).bind some) = (F j y).bind fun z => (F j z).bind fun w => (F j w).bind some
    congr 1
    funext z
    cases F j z <;> rfl
theorem pow_fewer {F : Fn} {j : Nat} {x : Int} {n : Nat} (h : (powF F (n + 1) j x).isSome = true) : (powF F n j x).isSome = true := by
  rw [powF_end] at h
  cases e : powF F n j x with
  | none => rw [e] at h; cases h
  | some _ => rfl
theorem box_whole {t : Int} : boxF t (fun _ x => some x) = some (List.replicate t.toNat (0, 6)) := by
  have e : runsF t (fun _ x => some x) = List.replicate t.toNat [0, 1, 2, 3, 4, 5, 6] := by
    unfold runsF
    have e2 : (rngI 0 t.toNat).map (fun j => runF (fun _ x => some x) j.toNat) = (rngI 0 t.toNat).map fun _ => [0, 1, 2, 3, 4, 5, 6] := rfl
    rw [e2, List.map_const', rngI_len]
  unfold boxF
  rw [e, if_neg, List.map_replicate]
  · rfl
  · intro z
    obtain ⟨r, hr, h0⟩ := List.any_eq_true.mp z
    rw [(List.mem_replicate.mp hr).2] at h0
    cases h0
/-- a box within another one -/
def In (b c : List (Int × Int)) : Prop := b.length = c.length ∧ ∀ (i : Nat) (g g' : Int × Int), b[i]? = some g → c[i]? = some g' → g'.1 ≤ g.1 ∧ g.2 ≤ g'.2
theorem box_in {t : Int} {F G : Fn} {b c : List (Int × Int)} (hb : BoxIs t F b) (hc : BoxIs t G c) (h : ∀ (j : Nat) (x : Int), 0 ≤ x → x ≤ 6 → (F j x).isSome = true → (G j x).isSome = true) : In b c := by
  refine ⟨by have := hb.len; have := hc.len; omega, fun i g g' e1 e2 => ?_⟩
  obtain ⟨⟨g1, g2, g3⟩, s1, s2, _⟩ := hb.at_ i g e1
  obtain ⟨_, _, _, s3⟩ := hc.at_ i g' e2
  have a1 := s3 g.1 g1 (by omega) (h i _ g1 (by omega) s1)
  have a2 := s3 g.2 (by omega) g3 (h i _ (by omega) g3 s2)
  omega
theorem BoxIs.ok {t : Int} {F : Fn} {b : List (Int × Int)} (hb : BoxIs t F b) : BoxOk t b := ⟨hb.len, fun g hg => by
  obtain ⟨i, hi⟩ := List.getElem?_of_mem hg
  exact (hb.at_ i g hi).1⟩
theorem zip_in : ∀ {b c : List (Int × Int)}, In b c → (c.zip b).map (fun p => (if p.2.1 > p.1.1 then p.2.1 else p.1.1, if p.2.2 < p.1.2 then p.2.2 else p.1.2)) = b
  | [], c, _ => by simp
  | g :: b, [], h => by have := h.1; simp at this
  | g :: b, g' :: c, h => by
    have h0 := h.2 0 g g' rfl rfl
    have ih := zip_in (b := b) (c := c) ⟨by have := h.1; simpa using this, fun i x y e1 e2 => h.2 (i + 1) x y (by simpa using e1) (by simpa using e2)⟩
    rw [List.zip_cons_cons, List.map_cons, ih]
    congr 1
    obtain ⟨g1, g2⟩ := g
    obtain ⟨g3, g4⟩ := g'
    dsimp only at h0 ⊢
    congr 1
    · split <;> omega
    · split <;> omega
def hasK (b : List (Int × Int)) (k : List Int) : Bool := (k.zip b).all fun p => decide (p.2.1 ≤ p.1 ∧ p.1 ≤ p.2.2)
def hasO : Option (List (Int × Int)) → List Int → Bool
  | none, _ => false
  | some b, k => hasK b k
theorem hasK_nil {b : List (Int × Int)} {k : List Int} : hasK b k = ((k.zip b).filter fun p => !decide (p.2.1 ≤ p.1 ∧ p.1 ≤ p.2.2)).isEmpty := by
  unfold hasK
  induction k.zip b with
  | nil => rfl
  | cons p r ih =>
    rw [List.all_cons, List.filter_cons, ih]
    by_cases c : p.2.1 ≤ p.1 ∧ p.1 ≤ p.2.2
    · simp [c]
    · simp [c]
theorem eq_nilL {ds : List PyData} {h : Hs} (hp : PyData.plainAll ds = true) : cmpop .eq (.d (.list ds)) (.d (.list [])) h = some ds.isEmpty := by
  rw [cmp_d (by decide)]
  have ok : eqOk (.list ds) (.list []) = true := by
    show (PyData.plainAll ds && (true && decide (min (PyData.depth (.list ds)) 1 ≤ deep))) = true
    rw [hp]
    have : min (PyData.depth (.list ds)) 1 ≤ deep := Nat.le_trans (Nat.min_le_right _ _) (by decide)
    simp [this]
  show (if eqOk (.list ds) (.list []) = true then some (PyData.eqv (.list ds) (.list [])) else none) = _
  rw [if_pos ok]
  cases ds <;> rfl
theorem hasK_iff {b : List (Int × Int)} {k : List Int} : hasK b k = true ↔ ∀ (i : Nat) (x : Int) (g : Int × Int), k[i]? = some x → b[i]? = some g → g.1 ≤ x ∧ x ≤ g.2 := by
  unfold hasK
  rw [List.all_eq_true]
  constructor
  · intro h i x g e1 e2
    have := h (x, g) (List.mem_of_getElem? (i := i) (by rw [List.getElem?_zip_eq_some]; exact ⟨e1, e2⟩))
    simpa using this
  · rintro h ⟨x, g⟩ hp
    obtain ⟨i, hi⟩ := List.getElem?_of_mem hp
    rw [List.getElem?_zip_eq_some] at hi
    simpa using h i x g hi.1 hi.2
/-- what a row makes of a box's ends -/
def behF (G : Fn) : Nat → List (Int × Int) → List (Int × Int)
  | _, [] => []
  | i, g :: b => ((G i g.1).getD 0, (G i g.2).getD 0) :: behF G (i + 1) b
theorem behF_at {G : Fn} : ∀ {b : List (Int × Int)} {i j : Nat} {g : Int × Int}, b[j]? = some g → (behF G i b)[j]? = some ((G (i + j) g.1).getD 0, (G (i + j) g.2).getD 0)
  | [], _, _, _, h => by simp at h
  | x :: b, i, 0, g, h => by simp at h; subst h; rfl
  | x :: b, i, j + 1, g, h => by
    show (behF G (i + 1) b)[j]? = _
    rw [behF_at (by simpa using h), show i + 1 + j = i + (j + 1) by omega]
theorem behF_len {G : Fn} : ∀ {b : List (Int × Int)} {i : Nat}, (behF G i b).length = b.length
  | [], _ => rfl
  | x :: b, i => congrArg (· + 1) (behF_len (b := b))
section
variable {P : Pg} (L : Lk P) {Q : PV → Hs → Prop} {h : Hs} {n i : Nat}
include L
theorem need_teeth_S {t : Int} (ht : 1 ≤ t ∧ t ≤ 3) (q : Q (.d .none) h) : Sat (callN P (n + 3) "need_teeth" [.d (.int t)] h) Q := by
  rw [call0 L.need_teeth rfl]
  simp [f_need_teeth, is_among_ok L ht.1 ht.2]
  exact q
theorem need_box_S {t : Int} {b : List (Int × Int)} (ht : t ≤ 3) (hb : BoxOk t b) (q : Q (.d .none) h) : Sat (callN P (n + 6) "need_box" [.d (.int t), .d (bD b)] h) Q := by
  have tl : line = 16777216 := rfl
  have bl := hb.1
  rw [call0 L.need_box rfl]
  simp [f_need_box]
  refine is_box_by_S (n := n) L hb (by omega) ?_
  simpa using q
theorem common_by_S {t : Int} {b c : List (Int × Int)} (ht : t ≤ 3) (hb : BoxOk t b) (hc : BoxOk t c) (hi : In b c) (q : Q (.d (bD b)) h) : Sat (callN P (n + 1) "common_by" [.d (bD c), .d (bD b)] h) Q := by
  have tl : line = 16777216 := rfl
  have bl := hb.1
  have cl := hc.1
  rw [call0 L.common_by rfl]
  simp [f_common_by, bD]
  rw [pairs_map]
  refine sat_mapM (fun p => .d (gD (if p.2.1 > p.1.1 then p.2.1 else p.1.1, if p.2.2 < p.1.2 then p.2.2 else p.1.2))) ?_ ?_
  · rintro ⟨g, g'⟩ hp
    simp [Iw.wipe, asg, gD, L2.atI, L2.ixN]
  · have e := zip_in hi
    have e3 : (c.zip b).map (fun p => gD (if p.2.1 > p.1.1 then p.2.1 else p.1.1, if p.2.2 < p.1.2 then p.2.2 else p.1.2)) = b.map gD := by
      conv => rhs; rw [← e]
      rw [List.map_map]; rfl
    rw [sat_lstF (ds := b.map gD) (by rw [← e3, List.map_map]; rfl)]
    refine ⟨by rw [List.length_map]; omega, ?_⟩
    simp
    refine ⟨by omega, ?_⟩
    refine ⟨_, rfl, ?_⟩
    simp
    refine sat_all (xs := b.map (PV.d ∘ gD)) (by rw [List.length_map]; omega) ?_ ?_
    · intro v hv
      obtain ⟨g, hg, rfl⟩ := List.mem_map.mp hv
      have := hb.2 g hg
      simp [Iw.wipe, asg, gD, this]
    · intro bs e1 e2
      exact .inr ⟨e2, by simpa [bD] using q⟩
theorem common_S {t : Int} {b c : List (Int × Int)} (ht : 1 ≤ t ∧ t ≤ 3) (hb : BoxOk t b) (hc : BoxOk t c) (hi : In b c) (q : Q (.d (bD b)) h) : Sat (callN P (n + 7) "common" [.d (.int t), .d (bD c), .d (bD b)] h) Q := by
  rw [call0 L.common rfl]
  simp [f_common]
  refine need_teeth_S (n := n + 3) L ht ?_
  refine need_box_S (n := n) L ht.2 hc ?_
  refine need_box_S (n := n) L ht.2 hb ?_
  refine common_by_S (n := n + 5) L ht.2 hb hc hi ?_
  simpa using q
theorem box_behind_S {H : Ho} {a : Int} {row : List De} (ok : HoOk H) (h1 : 0 ≤ a) (h2 : a < H.n) (hl : Laid H a row) (hr : row.length ≤ line) (q : ∀ o, (match boxF H.t (H.F a row) with
    | none => o = PV.d .none
    | some b => o = .d (bD (behF (H.F a row) 0 b))) → Q o h) : Sat (callN P (n + 14) "box_behind" [.d H.d, .d (.int a), .d (rwD row)] h) Q := by
  have tl : line = 16777216 := rfl
  have ht := ok.t
  rw [call0 L.box_behind rfl]
  simp [f_box_behind]
  refine does_S (n := n) L ok h1 h2 hl hr ?_
  rw [show H.tabs a row = tabF H.t (H.F a row) from rfl]
  generalize H.F a row = G at q ⊢
  simp [asg]
  refine box_by_S (n := n + 12) L ok.t ?_
  cases hb : boxF H.t G with
  | none =>
    rw [hb] at q
    simp [boxV, isNonV]
    exact q _ rfl
  | some b =>
    rw [hb] at q
    have bi := box_some (by omega) hb
    have bl := bi.len
    simp [boxV, isNonV, asg]
    simp only [bD, tabsD, it_zipT, sat_ok]
    rw [pairs_map]
    refine .inl ⟨trivial, ?_⟩
    refine sat_mapM (fun p : List (Option Int) × (Int × Int) => .d (.tuple [intD (gT (p.1, p.2.1)), intD (gT (p.1, p.2.2))])) ?_ ?_
    · rintro ⟨T, g⟩ hp
      obtain ⟨q1, q2⟩ := List.of_mem_zip hp
      obtain ⟨j, hj, rfl⟩ := List.mem_map.mp q1
      have hg := bi.ok.2 g q2
      have e1 : L2.atI (((rngI 0 7).map fun x => G j.toNat x).map intD) g.1 = some (intD (G j.toNat g.1)) := atI_int (by omega) (by rw [List.getElem?_map, gT_at (by omega) (by omega)]; rfl)
      have e2 : L2.atI (((rngI 0 7).map fun x => G j.toNat x).map intD) g.2 = some (intD (G j.toNat g.2)) := atI_int (by omega) (by rw [List.getElem?_map, gT_at (by omega) (by omega)]; rfl)
      have e3 : ∀ x, 0 ≤ x → x ≤ 6 → gT ((rngI 0 7).map fun x => G j.toNat x, x) = G j.toNat x := fun x a b => by
        unfold gT
        rw [gT_at a b]; rfl
      rw [List.map_map] at e1 e2
      simp [Iw.wipe, asg, gD, tabD, e1, e2, e3 g.1 (by omega) (by omega), e3 g.2 (by omega) (by omega)]
    · have go : ∀ {m : Nat} {lo : Nat} {b : List (Int × Int)}, b.length = m → (∀ (i : Nat) (g : Int × Int), b[i]? = some g → (0 ≤ g.1 ∧ g.1 ≤ g.2 ∧ g.2 ≤ 6) ∧ (G (lo + i) g.1).isSome = true ∧ (G (lo + i) g.2).isSome = true) → (((rngI lo m).map fun j => (rngI 0 7).map fun x => G j.toNat x).zip b).map (fun p => PyData.tuple [intD (gT (p.1, p.2.1)), intD (gT (p.1, p.2.2))]) = (behF G lo b).map gD := by
        intro m
        induction m with
        | zero => intro lo b hb _; rw [List.length_eq_zero_iff.mp hb]; rfl
        | succ m ih =>
          intro lo b hb hh
          cases b with
          | nil => cases hb
          | cons g b =>
            obtain ⟨a1, a2, a3⟩ := hh 0 g rfl
            rw [Nat.add_zero] at a2 a3
            have e3 : ∀ x, 0 ≤ x → x ≤ 6 → gT ((rngI 0 7).map fun x => G lo x, x) = G lo x := fun x a b => by
              unfold gT
              rw [gT_at a b]; rfl
            show PyData.tuple [intD (gT ((rngI 0 7).map fun x => G (lo : Int).toNat x, g.1)), intD (gT ((rngI 0 7).map fun x => G (lo : Int).toNat x, g.2))] :: (((rngI ((lo : Int) + 1) m).map fun j => (rngI 0 7).map fun x => G j.toNat x).zip b).map _ = gD ((G lo g.1).getD 0, (G lo g.2).getD 0) :: (behF G (lo + 1) b).map gD
            rw [show ((lo : Int) + 1) = ((lo + 1 : Nat) : Int) by omega, ih (by simpa using hb) fun i g' e => by have := hh (i + 1) g' (by simpa using e); rw [show lo + 1 + i = lo + (i + 1) by omega]; exact this]
            congr 1
            rw [Int.toNat_natCast, e3 g.1 (by omega) (by omega), e3 g.2 (by omega) (by omega)]
            obtain ⟨y, ey⟩ := Option.isSome_iff_exists.mp a2
            obtain ⟨z, ez⟩ := Option.isSome_iff_exists.mp a3
            rw [ey, ez]
            rfl
      have e := go (m := H.t.toNat) (lo := 0) (b := b) (by omega) fun i g hg => by
        obtain ⟨x1, x2, x3, _⟩ := bi.at_ i g hg
        rw [Nat.zero_add]
        exact ⟨x1, x2, x3⟩
      have bl2 := behF_len (G := G) (b := b) (i := 0)
      rw [sat_lstF (ds := (behF G 0 b).map gD) (by rw [← e, List.map_map]; rfl)]
      refine ⟨by rw [List.length_map]; omega, ?_⟩
      simp
      exact ⟨by omega, by simpa [bD] using q _ rfl⟩
end
end Hf
end

section
set_option Elab.async false
set_option linter.all false
set_option maxRecDepth 100000
/-! drawn heights: sorted, from a place on still -/
namespace Iw
open PySem L2
section
variable {Q : PV → Hs → Prop} {h : Hs} {n k : Nat}
theorem srtD_int (xs : List Int) : srtD (xs.map .int) = (xs.mergeSort fun x y => decide (x ≤ y)).map .int := by
  unfold srtD
  refine (List.map_mergeSort (f := PyData.int) fun x _ y _ => ?_).symm
  have := congrFun (congrFun (PySem.W.dataLe_int (fun x : Int => x)) x) y
  exact this.symm
theorem srt_up {xs : List Int} (hp : List.Pairwise (fun x y : Int => x ≤ y) xs) : srtD (xs.map .int) = xs.map .int := srt_ints hp
theorem srt_down {xs : List Int} (hp : List.Pairwise (fun x y : Int => y ≤ x) xs) : srtD (xs.map .int) = xs.reverse.map .int := by
  rw [srtD_int]
  congr 1
  refine List.Perm.eq_of_pairwise (le := fun x y : Int => x ≤ y) (fun a b _ _ h1 h2 => Int.le_antisymm h1 h2) ?_ ?_ ((List.mergeSort_perm _ _).trans (List.reverse_perm xs).symm)
  · have := List.pairwise_mergeSort (le := fun x y : Int => decide (x ≤ y)) (fun a b c h1 h2 => by simp at h1 h2 ⊢; omega) (fun a b => by simp; omega) xs
    exact this.imp fun e => of_decide_eq_true e
  · exact List.pairwise_reverse.mpr hp
theorem srt_lst {xs : List Int} (hl : xs.length ≤ line) : Sat (biop (.srt1 false) [.d (.list (xs.map .int))] h) Q ↔ Q (PV.d (.list (srtD (xs.map .int)))) h := by
  have ok : srtOk (xs.map .int) = true := by
    unfold srtOk sortable
    simp only [Bool.and_eq_true, Bool.or_eq_true, List.all_map, List.all_eq_true, Function.comp, decide_eq_true_eq, List.length_map]
    exact ⟨fun x _ y _ => rfl, .inr fun x _ => trivial, hl, fun x _ => Nat.zero_le _⟩
  have e2 : biop (.srt1 false) [.d (.list (xs.map .int))] h = .ok (PV.d (.list (srtD (xs.map .int)))) h := by
    show (match (keysAll h (.d (.list (xs.map .int)))).bind datas with
      | some ds => if srtOk ds = true then mkL false ((srtD ds).map PV.d) h else .bad
      | none => .bad) = _
    rw [show keysAll h (.d (.list (xs.map .int))) = some ((xs.map PyData.int).map PV.d) from rfl]
    rw [show (some ((xs.map PyData.int).map PV.d)).bind datas = some (xs.map .int) from datas_map' _]
    dsimp only
    rw [if_pos ok]
    show R.of ((datas ((srtD (xs.map .int)).map PV.d)).map fun ds => PV.d (.list ds)) h = _
    rw [datas_map']
    rfl
  rw [e2, sat_ok]
@[simp] theorem rev_lst {ds : List PyData} : Sat (revv (.d (.list ds)) h) Q ↔ Q (PV.d (.list ds.reverse)) h := by
  have : revv (.d (.list ds)) h = .ok (PV.d (.list ds.reverse)) h := by
    show R.of ((datas (ds.map PV.d).reverse).map fun ds => PV.d (.list ds)) h = _
    rw [← List.map_reverse, datas_map']
    rfl
  rw [this, sat_ok]
theorem c_nin2 {x a b : PyData} (hx : x.plain = true) (ha : a.plain = true) (hb : b.plain = true) (hd : x.depth ≤ deep) (e : a = x ∨ b = x) : cmpop .nin (.d x) (.d (.tuple [a, b])) h = some false := by
  show (if (x.plain && ((a.plain && (b.plain && true)) && decide (x.depth ≤ deep))) = true then some ([a, b].any fun y => PyData.eqv y x) else none).map (!·) = _
  rw [hx, ha, hb, if_pos (by simpa using hd)]
  rcases e with rfl | rfl
  · simp [PySem.SeqAt.eqv_refl_plain _ hx]
  · simp [PySem.SeqAt.eqv_refl_plain _ hx]
theorem c_inB {b : Bool} {D : List Bool} : cmpop .isin (.d (.bool b)) (.d (.list (D.map .bool))) h = some (D.contains b) := by
  show (if (true && (PyData.plainAll (D.map .bool) && decide (0 ≤ deep))) = true then some ((D.map PyData.bool).any fun y => PyData.eqv y (.bool b)) else none) = _
  rw [Hf.plain_map (f := PyData.bool) (fun _ => rfl), if_pos (by decide), List.any_map]
  congr 1
  induction D with
  | nil => rfl
  | cons d D ih =>
    rw [List.any_cons, List.contains_cons, ih]
    congr 1
    cases d <;> cases b <;> rfl
theorem layB : ∀ D : List Bool, PyData.canLayAll0 (D.map .bool) = true
  | [] => rfl
  | b :: D => by
    show (true && PyData.canLayAll0 (D.map .bool)) = true
    rw [layB D]; rfl
theorem depB : ∀ D : List Bool, PyData.depthAll (D.map .bool) = 0
  | [] => rfl
  | b :: D => by
    show max 0 (PyData.depthAll (D.map .bool)) = 0
    rw [depB D]; rfl
theorem shapedB {D : List Bool} : SeqAt.shaped (.list (D.map .bool)) = true := by
  show (PyData.canLayAll0 (D.map .bool) && decide (PyData.depthAll (D.map .bool) + 1 ≤ 64)) = true
  rw [layB, depB]
  decide
theorem idx_false {p q : Nat} : Sat (idxv (.d (.list ((List.replicate p true ++ List.replicate (q + 1) false).map .bool))) (.d (.bool false)) h) Q ↔ Q (.d (.int p)) h := by
  have e1 : ((List.replicate p true ++ List.replicate (q + 1) false).map PyData.bool).findIdx? (fun z => PyData.eqv z (.bool false)) = some p := by
    induction p with
    | zero => rfl
    | succ p ih =>
      rw [List.replicate_succ, List.cons_append, List.map_cons, List.findIdx?_cons, ih]
      rfl
  have : idxv (.d (.list ((List.replicate p true ++ List.replicate (q + 1) false).map .bool))) (.d (.bool false)) h = .ok (.d (.int p)) h := by
    show (if (SeqAt.shaped (.list ((List.replicate p true ++ List.replicate (q + 1) false).map .bool)) && SeqAt.shaped (.bool false)) = true then R.of ((((List.replicate p true ++ List.replicate (q + 1) false).map PyData.bool).findIdx? (fun z => PyData.eqv z (.bool false))).map fun j : Nat => int j) h else .bad) = _
    rw [e1, if_pos]
    · rfl
    · rw [shapedB]; rfl
  rw [this, sat_ok]
theorem flags : ∀ {D : List Bool}, List.Pairwise (fun a b => a = false → b = false) D → ∃ p q, D = List.replicate p true ++ List.replicate q false
  | [], _ => ⟨0, 0, rfl⟩
  | true :: D, hp => by
    obtain ⟨p, q, e⟩ := flags (List.pairwise_cons.mp hp).2
    exact ⟨p + 1, q, by rw [e]; rfl⟩
  | false :: D, hp => by
    refine ⟨0, D.length + 1, ?_⟩
    have : D = List.replicate D.length false := List.eq_replicate_of_mem fun b hb => (List.pairwise_cons.mp hp).1 b hb rfl
    rw [List.replicate_zero, List.nil_append, List.replicate_succ, ← this]
end
end Iw

namespace Hf
open PySem Iw
theorem up_all {y : Nat → Int} {N : Nat} (h : ∀ i, i + 1 < N → y i ≤ y (i + 1)) : ∀ d i, i + d < N → y i ≤ y (i + d)
  | 0, i, _ => Int.le_refl _
  | d + 1, i, hd => Int.le_trans (up_all h d i (by omega)) (h (i + d) (by omega))
theorem dn_all {y : Nat → Int} {N : Nat} (h : ∀ i, i + 1 < N → y (i + 1) ≤ y i) : ∀ d i, i + d < N → y (i + d) ≤ y i
  | 0, i, _ => Int.le_refl _
  | d + 1, i, hd => Int.le_trans (h (i + d) (by omega)) (dn_all h d i (by omega))
/-- one after the other by a rule that keeps the order -/
structure Runs (G : Int → Option Int) (y : Nat → Int) (N : Nat) : Prop where
  nx : ∀ i, i + 1 < N → G (y i) = some (y (i + 1))
  mo : ∀ a b a' b', a ≤ b → G a = some a' → G b = some b' → a' ≤ b'
variable {G : Int → Option Int} {y : Nat → Int} {N : Nat}
theorem Runs.up (r : Runs G y N) (h : y 0 ≤ y 1) : ∀ i, i + 1 < N → y i ≤ y (i + 1)
  | 0, _ => h
  | i + 1, hi => r.mo _ _ _ _ (Runs.up r h i (by omega)) (r.nx i (by omega)) (r.nx (i + 1) hi)
theorem Runs.dn (r : Runs G y N) (h : y 1 ≤ y 0) : ∀ i, i + 1 < N → y (i + 1) ≤ y i
  | 0, _ => h
  | i + 1, hi => r.mo _ _ _ _ (Runs.dn r h i (by omega)) (r.nx (i + 1) hi) (r.nx i (by omega))
theorem Runs.still (r : Runs G y N) {i : Nat} (h : y i = y (i + 1)) : ∀ d, i + d + 1 < N → y (i + d) = y (i + d + 1)
  | 0, _ => h
  | d + 1, hd => by
    have a := Runs.still r h d (by omega)
    have e1 := r.nx (i + d) (by omega)
    have e2 := r.nx (i + d + 1) hd
    rw [a] at e1
    rw [e1] at e2
    exact Option.some.inj e2
theorem Runs.ways (r : Runs G y N) : List.Pairwise (fun a b : Int => a ≤ b) ((rngI 0 N).map fun i => y i.toNat) ∨ List.Pairwise (fun a b : Int => b ≤ a) ((rngI 0 N).map fun i => y i.toNat) := by
  rcases Int.le_total (y 0) (y 1) with h | h
  · left
    refine List.pairwise_map.mpr ((rngI_pw N 0).imp_of_mem fun {a b} ha hb lt => ?_)
    have := rngI_mem ha
    have := rngI_mem hb
    have := up_all (r.up h) (b.toNat - a.toNat) a.toNat (by omega)
    rwa [show a.toNat + (b.toNat - a.toNat) = b.toNat by omega] at this
  · right
    refine List.pairwise_map.mpr ((rngI_pw N 0).imp_of_mem fun {a b} ha hb lt => ?_)
    have := rngI_mem ha
    have := rngI_mem hb
    have := dn_all (r.dn h) (b.toNat - a.toNat) a.toNat (by omega)
    rwa [show a.toNat + (b.toNat - a.toNat) = b.toNat by omega] at this
theorem Runs.flags (r : Runs G y (N + 1)) : List.Pairwise (fun a b : Bool => a = false → b = false) ((rngI 0 N).map fun i => y i.toNat != y (i.toNat + 1)) := by
  refine List.pairwise_map.mpr ((rngI_pw N 0).imp_of_mem fun {a b} ha hb lt e => ?_)
  have := rngI_mem ha
  have := rngI_mem hb
  have e : y a.toNat = y (a.toNat + 1) := by simpa using e
  have := r.still e (b.toNat - a.toNat) (by omega)
  rw [show a.toNat + (b.toNat - a.toNat) = b.toNat by omega] at this
  simpa using this
theorem zip_next {f : Int → PyData} : ∀ {n : Nat} {lo : Int}, pairs ((rngI lo (n + 1)).map f) ((rngI lo (n + 1)).map f).tail = (rngI lo n).map fun i => PV.d (.tuple [f i, f (i + 1)])
  | 0, lo => rfl
  | n + 1, lo => by
    show PV.d (.tuple [f lo, f (lo + 1)]) :: pairs ((rngI (lo + 1) (n + 1)).map f) ((rngI (lo + 1) (n + 1)).map f).tail = _
    rw [zip_next (n := n) (lo := lo + 1)]
    rfl
end Hf
end

section
set_option Elab.async false
set_option linter.all false
set_option maxRecDepth 100000
namespace Hd
open PySem Iw
def f_law_right : S := (.seq (.asg (.nm 5) (.call "how_often" (.cons (.loc 1) (.cons (.loc 2) (.cons (.loc 3) (.cons (.loc 4) .nil)))))) (.seq (.ife (.and (.notNon (.loc 5)) (.not (.chain .le .le (.lit (.int 0)) (.loc 5) (.lit (.int 6))))) (.seq (.ret (.lit (.bool false))) .skip) .skip) (.seq (.asg (.nm 6) (.comp false [11] (.nm 11) (.iR1 (.ite (.isNon (.loc 5)) (.lit (.int 7)) (.bin .add (.loc 5) (.lit (.int 1))))) .nop (.call "key_far" (.cons (.loc 1) (.cons (.loc 2) (.cons (.loc 3) (.cons (.loc 4) (.cons (.loc 11) .nil)))))))) (.seq (.for_ (.nm 7) (.iR1 (.bi .len (.cons (.loc 4) .nil))) (.seq (.asg (.nm 9) (.comp false [12] (.nm 12) (.iVal (.loc 6)) .nop (.ix (.loc 12) (.loc 7)))) (.seq (.ife (.cmp .nin (.loc 9) (.tup (.cons (.bi (.srt1 false) (.cons (.loc 9) .nil)) (.cons (.rev (.bi (.srt1 false) (.cons (.loc 9) .nil))) .nil)))) (.seq (.ret (.lit (.bool false))) .skip) .skip) (.seq (.asg (.nm 10) (.comp false [12, 13] (.cons (.nm 12) (.cons (.nm 13) .nil)) (.iZip (.loc 9) (.sl (.loc 9) (.prt (.lit (.int 1))) .nop)) .nop (.cmp .ne (.loc 12) (.loc 13)))) (.seq (.ife (.cmp .isin (.lit (.bool true)) (.sl (.loc 10) (.prt (.ite (.cmp .isin (.lit (.bool false)) (.loc 10)) (.idx (.loc 10) (.lit (.bool false))) (.bi .len (.cons (.loc 10) .nil)))) .nop)) (.seq (.ret (.lit (.bool false))) .skip) .skip) .skip))))) (.seq (.ife (.notNon (.loc 5)) (.seq (.ret (.lit (.bool true))) .skip) .skip) (.seq (.asg (.nm 8) (.ix (.loc 6) (.lit (.int 6)))) (.seq (.ife (.or (.cmp .ne (.call "behind" (.cons (.loc 1) (.cons (.tup (.cons (.loc 2) (.cons (.loc 8) .nil))) (.cons (.loc 3) .nil)))) (.tup (.cons (.loc 2) (.cons (.loc 8) .nil)))) (.notNon (.call "how_often" (.cons (.loc 1) (.cons (.loc 2) (.cons (.loc 3) (.cons (.loc 8) .nil))))))) (.seq (.ret (.lit (.bool false))) .skip) .skip) (.seq (.ret (.cmp .eq (.call "key_far" (.cons (.loc 1) (.cons (.loc 2) (.cons (.loc 3) (.cons (.loc 4) (.cons (.bin .add (.lit (.int 6)) (.call "_law_draw" (.cons (.loc 0) (.cons (.bin .pow (.lit (.int 10)) (.lit (.int 11))) .nil)))) .nil)))))) (.loc 8))) .skip))))))))
def f_law : S := (.seq (.for_ (.nm 1) (.iR1 (.bi .max2 (.cons (.lit (.int 1)) (.cons (.bi .min2 (.cons (.bi .len (.cons (.loc 0) .nil)) (.cons (.lit (.int 4)) .nil))) .nil)))) (.seq (.asg (.nm 2) (.call "_law_pen" (.cons (.call "_law_cell_at" (.cons (.loc 0) (.cons (.loc 1) .nil))) .nil))) (.seq (.for_ (.nm 3) (.iR1 (.lit (.int 4))) (.seq (.asg (.nm 4) (.call "_law_drawn_house" (.cons (.loc 2) (.cons (.bin .add (.lit (.int 1)) (.call "_law_draw" (.cons (.loc 2) (.cons (.lit (.int 3)) .nil)))) (.cons (.lit (.int 3)) .nil))))) (.seq (.asg (.nm 5) (.call "_law_draw" (.cons (.loc 2) (.cons (.ix (.loc 4) (.lit (.int 1))) .nil)))) (.seq (.asg (.nm 6) (.call "_law_round_row" (.cons (.loc 2) (.cons (.loc 4) (.cons (.loc 5) (.cons (.lit (.int 10)) .nil)))))) (.seq (.for_ (.nm 7) (.iR1 (.lit (.int 4))) (.seq (.ife (.not (.call "_law_right" (.cons (.loc 2) (.cons (.loc 4) (.cons (.loc 5) (.cons (.loc 6) (.cons (.call "_law_key" (.cons (.loc 2) (.cons (.ix (.loc 4) (.lit (.int 0))) .nil))) .nil))))))) (.seq (.ret (.lit (.bool false))) .skip) .skip) .skip)) .skip))))) .skip))) (.seq (.ret (.lit (.bool true))) .skip))
def fd (x : Str) (a b : Nat) (k : Bool) (s : S) : Str × Fd := (x, ⟨a, b, k, s⟩)
def Q0 : Pg := [
  fd "is_whole" 1 1 false Hf.f_is_whole,
  fd "is_among" 3 3 false Hf.f_is_among,
  fd "are_some" 3 3 false Hf.f_are_some,
  fd "rises" 1 3 false Hf.f_rises,
  fd "is_height" 1 1 false Hf.f_is_height,
  fd "is_key_by" 2 3 false Hf.f_is_key_by,
  fd "need_key" 2 2 false Hf.f_need_key,
  fd "is_gap" 1 2 false Hf.f_is_gap,
  fd "is_box_by" 2 3 false Hf.f_is_box_by,
  fd "is_wear" 2 3 false Hf.f_is_wear,
  fd "is_door" 4 5 false Hf.f_is_door,
  fd "are_doors" 4 6 false Hf.f_are_doors,
  fd "is_smith" 2 2 false Hf.f_is_smith,
  fd "are_benches" 2 3 false Hf.f_are_benches,
  fd "are_smiths" 2 3 false Hf.f_are_smiths,
  fd "is_house" 1 8 false Hf.f_is_house,
  fd "need_house" 1 1 false Hf.f_need_house,
  fd "is_hall" 2 2 false Hf.f_is_hall,
  fd "need_hall" 2 2 false Hf.f_need_hall,
  fd "is_stand" 2 2 false Hf.f_is_stand,
  fd "need_stand" 2 2 false Hf.f_need_stand,
  fd "is_deed" 2 2 false Hf.f_is_deed,
  fd "door_at" 3 5 false Hf.f_door_at,
  fd "smith_at" 2 3 false Hf.f_smith_at,
  fd "is_away" 3 3 false Hf.f_is_away,
  fd "hall_behind" 3 3 false Hf.f_hall_behind,
  fd "wear_of" 3 3 false Hf.f_wear_of,
  fd "gap_of" 4 4 false Hf.f_gap_of,
  fd "bar_of" 3 9 false Hf.f_bar_of,
  fd "done_by" 3 8 false Hf.f_done_by,
  fd "need_row" 2 3 false Hf.f_need_row,
  fd "bar_at" 3 6 false Hf.f_bar_at,
  fd "first_barred" 3 3 false Hf.f_first_barred,
  fd "behind_by" 3 4 false Hf.f_behind_by,
  fd "behind" 3 3 false Hf.f_behind,
  fd "away_at" 3 5 false Hf.f_away_at,
  fd "first_away" 3 3 false Hf.f_first_away,
  fd "need_laid" 3 3 false Hf.f_need_laid,
  fd "halls_of" 3 5 false Hf.f_halls_of,
  fd "height_behind" 5 8 false Hf.f_height_behind,
  fd "does_by" 3 6 false Hf.f_does_by,
  fd "led" 2 4 false Hf.f_led,
  fd "need_round" 3 3 false Hf.f_need_round,
  fd "need_times" 1 1 false Hf.f_need_times,
  fd "often_by" 2 3 false Hf.f_often_by,
  fd "how_often" 4 4 false Hf.f_how_often,
  fd "key_far" 5 8 false Hf.f_key_far,
  fd "_law_cell_at" 2 2 false Hf.fD_law_cell_at,
  fd "_law_pen" 1 1 true Hf.fD_law_pen,
  fd "_law_draw" 2 4 false Hf.fD_law_draw,
  fd "_law_pick" 2 2 false Hf.fB_law_pick,
  fd "_law_gaps" 2 5 false Hf.fB_law_gaps,
  fd "_law_drawn_house" 3 13 false Hf.fB_law_drawn_house,
  fd "_law_doors" 2 6 true Hf.fB_law_doors,
  fd "_law_deeds" 2 7 false Hf.fB_law_deeds,
  fd "_law_to" 3 3 false Hf.fB_law_to,
  fd "_law_laid_row" 4 7 false Hf.fB_law_laid_row,
  fd "_law_round_row" 4 9 false Hf.fB_law_round_row,
  fd "_law_key" 2 3 false Hf.fK_law_key,
  fd "_law_right" 5 14 false f_law_right,
  fd "law" 1 8 false f_law]
def ex : Pg := [
  fd "does" 3 3 false Hf.f_does,
  fd "box_by" 1 6 false Hf.f_box_by,
  fd "box_of" 3 3 false Hf.f_box_of,
  fd "box_behind" 3 8 false Hf.f_box_behind,
  fd "need_teeth" 1 1 false Hf.f_need_teeth,
  fd "is_key" 2 2 false Hf.f_is_key,
  fd "is_box" 2 2 false Hf.f_is_box,
  fd "need_box" 2 2 false Hf.f_need_box,
  fd "common_by" 2 7 false Hf.f_common_by,
  fd "common" 3 3 false Hf.f_common,
  fd "has_key" 2 5 false Hf.f_has_key,
  fd "keys_in" 1 7 false Hf.f_keys_in,
  fd "left_out" 3 5 false Hf.f_left_out,
  fd "moved_end" 3 3 false Hf.f_moved_end,
  fd "filled_from" 2 8 true Hf.f_filled_from,
  fd "is_greatest" 3 4 false Hf.f_is_greatest,
  fd "greatest_by" 1 5 false Hf.f_greatest_by,
  fd "greatest" 2 3 false Hf.f_greatest,
  fd "ends_in" 3 3 false Hf.f_ends_in,
  fd "coins_by" 3 5 false Hf.f_coins_by,
  fd "coins_of" 3 3 false Hf.f_coins_of,
  fd "whole_box" 1 1 false Hf.f_whole_box,
  fd "parts" 4 14 false Hf.f_parts,
  fd "put_behind" 2 6 false Hf.f_put_behind,
  fd "box_far" 4 7 false Hf.f_box_far]
def Q : Pg := Q0 ++ ex
theorem lkQ : Hf.Lk Q := by constructor <;> rfl
theorem lkD : Hf.LkD Q := by constructor <;> rfl
theorem lkK : Hf.LkK Q := by constructor <;> rfl
theorem lkB : Hf.LkB Q := by constructor <;> rfl
def fs : List S := [Hf.f_is_whole, Hf.f_is_among, Hf.f_are_some, Hf.f_rises, Hf.f_is_height, Hf.f_is_key_by, Hf.f_need_key, Hf.f_is_gap, Hf.f_is_box_by, Hf.f_is_wear, Hf.f_is_door, Hf.f_are_doors, Hf.f_is_smith, Hf.f_are_benches, Hf.f_are_smiths, Hf.f_is_house, Hf.f_need_house, Hf.f_is_hall, Hf.f_need_hall, Hf.f_is_stand, Hf.f_need_stand, Hf.f_is_deed, Hf.f_door_at, Hf.f_smith_at, Hf.f_is_away, Hf.f_hall_behind, Hf.f_wear_of, Hf.f_gap_of, Hf.f_bar_of, Hf.f_done_by, Hf.f_need_row, Hf.f_bar_at, Hf.f_first_barred, Hf.f_behind_by, Hf.f_behind, Hf.f_away_at, Hf.f_first_away, Hf.f_need_laid, Hf.f_halls_of, Hf.f_height_behind, Hf.f_does_by, Hf.f_led, Hf.f_need_round, Hf.f_need_times, Hf.f_often_by, Hf.f_how_often, Hf.f_key_far, Hf.fD_law_cell_at, Hf.fD_law_pen, Hf.fD_law_draw, Hf.fB_law_pick, Hf.fB_law_gaps, Hf.fB_law_drawn_house, Hf.fB_law_doors, Hf.fB_law_deeds, Hf.fB_law_to, Hf.fB_law_laid_row, Hf.fB_law_round_row, Hf.fK_law_key, f_law_right, f_law]
end Hd
end

section
set_option Elab.async false
set_option linter.all false
set_option maxRecDepth 100000
namespace Hd
open PySem Iw Hf
section
variable {Q' : PV → Hs → Prop} {h : Hs} {n i : Nat}
def ksF (G : Fn) (k : List Int) (i : Nat) : List Int := (iterF G i k).getD []
def yF (G : Fn) (j : Nat) (x : Int) (i : Nat) : Int := (powF G i j x).getD 0
theorem ks_some {G : Fn} {k : List Int} {i : Nat} (e : (iterF G i k).isSome = true) : iterF G i k = some (ksF G k i) := by
  unfold ksF
  cases h : iterF G i k with
  | none => rw [h] at e; cases e
  | some w => rfl
theorem ks_at {G : Fn} {k : List Int} {i j : Nat} {x : Int} (e : (iterF G i k).isSome = true) (h : k[j]? = some x) : (ksF G k i)[j]? = some (yF G j x i) ∧ powF G i j x = some (yF G j x i) := by
  have e1 := ks_some e
  rw [iter_pow] at e1
  obtain ⟨y, h1, h2⟩ := next_at e1 h
  have : yF G j x i = y := by unfold yF; rw [h2]; rfl
  rw [this]
  exact ⟨h1, h2⟩
theorem runs_of {H : Ho} {a : Int} {row : List De} {k : List Int} {N j : Nat} {x : Int} (h : k[j]? = some x) (e : ∀ i, i < N → (iterF (H.F a row) i k).isSome = true) : Runs (H.F a row j) (yF (H.F a row) j x) N where
  nx := fun i hi => by
    have a1 := (ks_at (e i (by omega)) h).2
    have a2 := (ks_at (e (i + 1) hi) h).2
    rw [powF_end, a1] at a2
    exact a2
  mo := fun u v u' v' l e1 e2 => mono_row j u v u' v' l e1 e2
def loopT : S := (.for_ (.nm 7) (.iR1 (.bi .len (.cons (.loc 4) .nil))) (.seq (.asg (.nm 9) (.comp false [12] (.nm 12) (.iVal (.loc 6)) .nop (.ix (.loc 12) (.loc 7)))) (.seq (.ife (.cmp .nin (.loc 9) (.tup (.cons (.bi (.srt1 false) (.cons (.loc 9) .nil)) (.cons (.rev (.bi (.srt1 false) (.cons (.loc 9) .nil))) .nil)))) (.seq (.ret (.lit (.bool false))) .skip) .skip) (.seq (.asg (.nm 10) (.comp false [12, 13] (.cons (.nm 12) (.cons (.nm 13) .nil)) (.iZip (.loc 9) (.sl (.loc 9) (.prt (.lit (.int 1))) .nop)) .nop (.cmp .ne (.loc 12) (.loc 13)))) (.seq (.ife (.cmp .isin (.lit (.bool true)) (.sl (.loc 10) (.prt (.ite (.cmp .isin (.lit (.bool false)) (.loc 10)) (.idx (.loc 10) (.lit (.bool false))) (.bi .len (.cons (.loc 10) .nil)))) .nop)) (.seq (.ret (.lit (.bool false))) .skip) .skip) .skip)))))
def tailR : S := (.seq (.ife (.notNon (.loc 5)) (.seq (.ret (.lit (.bool true))) .skip) .skip) (.seq (.asg (.nm 8) (.ix (.loc 6) (.lit (.int 6)))) (.seq (.ife (.or (.cmp .ne (.call "behind" (.cons (.loc 1) (.cons (.tup (.cons (.loc 2) (.cons (.loc 8) .nil))) (.cons (.loc 3) .nil)))) (.tup (.cons (.loc 2) (.cons (.loc 8) .nil)))) (.notNon (.call "how_often" (.cons (.loc 1) (.cons (.loc 2) (.cons (.loc 3) (.cons (.loc 8) .nil))))))) (.seq (.ret (.lit (.bool false))) .skip) .skip) (.seq (.ret (.cmp .eq (.call "key_far" (.cons (.loc 1) (.cons (.loc 2) (.cons (.loc 3) (.cons (.loc 4) (.cons (.bin .add (.lit (.int 6)) (.call "_law_draw" (.cons (.loc 0) (.cons (.bin .pow (.lit (.int 10)) (.lit (.int 11))) .nil)))) .nil)))))) (.loc 8))) .skip))))
theorem cut_nat {α : Type} {xs : List α} {p : Nat} (hp : p ≤ xs.length) : cut xs (some (p : Int)) none = xs.drop p := by
  have e1 : HT.sIx xs.length 0 (some (p : Int)) = p := by
    show (if (p : Int) < 0 then ((p : Int) + (xs.length : Int)).toNat else min (p : Int).toNat xs.length) = p
    rw [if_neg (by omega)]; omega
  unfold cut
  rw [e1, show HT.sIx xs.length xs.length none = xs.length from rfl]
  exact List.take_of_length_le (by rw [List.length_drop]; omega)
def keysL (G : Fn) (k : List Int) (N : Nat) : PyData := .list ((rngI 0 N).map fun i => kD (ksF G k i.toNat))
theorem loop_S {G : Fn} {H : Ho} {a : Int} {row : List De} {k : List Int} {m N : Nat} {o : Option Nat} {v7 v8 v9 v10 v11 v12 v13 : Option PV} {T : S} (eG : G = H.F a row) (hk : KeyOk H.t k) (ht : H.t ≤ 3) (hN : N + 1 ≤ 7) (hV : ∀ i, i < N + 1 → (iterF G i k).isSome = true)
    (q : ∀ v7 v8 v9 v10 v11 v12 v13 : Option PV, Sat (evS (callN Q (n + 15)) h.length T [some (.ref m), some (.d H.d), some (.d (.int a)), some (.d (rwD row)), some (.d (kD k)), some (natV o), some (.d (keysL G k (N + 1))), v7, v8, v9, v10, v11, v12, v13] h) (endQ h.length Q')) :
    Sat (evS (callN Q (n + 15)) h.length (.seq loopT T) [some (.ref m), some (.d H.d), some (.d (.int a)), some (.d (rwD row)), some (.d (kD k)), some (natV o), some (.d (keysL G k (N + 1))), v7, v8, v9, v10, v11, v12, v13] h) (endQ h.length Q') := by
  have tl : line = 16777216 := rfl
  have kl := hk.1
  simp [loopT, kD]
  refine ⟨by omega, ?_⟩
  rw [rngL_eq]
  refine forF_ret (fun (ys : List Int) σ hh => (∃ v7 v8 v9 v10 v11 v12 v13 : Option PV, σ = [some (.ref m), some (.d H.d), some (.d (.int a)), some (.d (rwD row)), some (.d (kD k)), some (natV o), some (.d (keysL G k (N + 1))), v7, v8, v9, v10, v11, v12, v13]) ∧ hh = h ∧ ∀ y ∈ ys, 0 ≤ y ∧ y < (k.length : Int)) ?_ _ _ _ ?_ ?_
  · rintro y ys σ hh ⟨⟨v7, v8, v9, v10, v11, v12, v13, rfl⟩, rfl, all⟩
    obtain ⟨y0, y1⟩ := all y (List.mem_cons_self)
    have all := fun z hz => all z (List.mem_cons_of_mem _ hz)
    refine ⟨_, by simp [asg]; rfl, ?_⟩
    have yl : y.toNat < k.length := by omega
    have ex := List.getElem?_eq_getElem yl
    generalize k[y.toNat] = x at ex
    have rn := runs_of (H := H) (a := a) (row := row) (N := N + 1) ex (by rw [← eG]; exact hV)
    have ysm := fun i hi => (ks_at (hV i hi) ex).1
    rw [← eG] at rn
    simp [keysL, Iw.wipe, asg]
    refine sat_mapM (f := fun i : Int => .d (kD (ksF G k i.toNat))) (fun i => .d (.int (yF G y.toNat x i.toNat))) ?_ ?_
    · intro i hi
      have := rngI_mem hi
      simp [asg, kD, Iw.wipe]
      exact atI_int y0 (by rw [List.getElem?_map, ysm _ (by omega)]; rfl)
    · have eX : (rngI 0 (N + 1)).map (fun i => PyData.int (yF G y.toNat x i.toNat)) = ((rngI 0 (N + 1)).map fun i => yF G y.toNat x i.toNat).map PyData.int := by rw [List.map_map]; rfl
      have sZ : ∃ Z : List Int, srtD (((rngI 0 (N + 1)).map fun i => yF G y.toNat x i.toNat).map PyData.int) = Z.map PyData.int ∧ (Z = (rngI 0 (N + 1)).map (fun i => yF G y.toNat x i.toNat) ∨ Z.reverse = (rngI 0 (N + 1)).map (fun i => yF G y.toNat x i.toNat)) := by
        rcases rn.ways with w | w
        · exact ⟨_, srt_up w, .inl rfl⟩
        · exact ⟨_, srt_down w, .inr (List.reverse_reverse _)⟩
      obtain ⟨Z, eZ, hZ⟩ := sZ
      rw [sat_lstF (ds := (rngI 0 (N + 1)).map (fun i => PyData.int (yF G y.toNat x i.toNat))) (by rw [List.map_map]; rfl)]
      refine ⟨by rw [List.length_map, rngI_len]; omega, ?_⟩
      have lX : ((rngI 0 (N + 1)).map fun i => yF G y.toNat x i.toNat).length ≤ line := by rw [List.length_map, rngI_len]; omega
      have pX : ∀ W : List Int, (PyData.list (W.map PyData.int)).plain = true := fun W => plain_ints W
      have dX : ∀ W : List Int, (PyData.list (W.map PyData.int)).depth ≤ deep := fun W => Nat.le_trans (Nat.succ_le_succ (depthAll_le (n := 0) fun d hd => by obtain ⟨w, _, rfl⟩ := List.mem_map.mp hd; exact Nat.le_refl _)) (by decide)
      have zn := zip_next (f := fun i => PyData.int (yF G y.toNat x i.toNat)) (n := N) (lo := 0)
      rw [eX] at zn ⊢
      rw [srt_lst lX, srt_lst lX, eZ]
      simp [-List.map_map]
      refine .inl ⟨c_nin2 (pX _) (pX _) (by rw [← List.map_reverse]; exact pX _) (dX _) ?_, ?_⟩
      · rcases hZ with rfl | hZ
        · exact .inl rfl
        · exact .inr (by rw [← List.map_reverse, hZ])
      · refine ⟨some 1, rfl, ?_⟩
        rw [cut_1, zn]
        refine sat_mapM (f := fun i : Int => PV.d (.tuple [PyData.int (yF G y.toNat x i.toNat), PyData.int (yF G y.toNat x (i + 1).toNat)])) (fun i => .d (.bool (yF G y.toNat x i.toNat != yF G y.toNat x (i.toNat + 1)))) ?_ ?_
        · intro i hi
          have := rngI_mem hi
          rw [show (i + 1).toNat = i.toNat + 1 by omega]
          simp [asg, Iw.wipe]
          by_cases c : yF G y.toNat x i.toNat = yF G y.toNat x (i.toNat + 1)
          · exact .inl c
          · exact .inr c
        · have eD : (rngI 0 N).map (fun i => PV.d (.bool (yF G y.toNat x i.toNat != yF G y.toNat x (i.toNat + 1)))) = ((((rngI 0 N).map fun i => yF G y.toNat x i.toNat != yF G y.toNat x (i.toNat + 1)).map PyData.bool).map PV.d) := by rw [List.map_map, List.map_map]; rfl
          have lD : ((rngI 0 N).map fun i => yF G y.toNat x i.toNat != yF G y.toNat x (i.toNat + 1)).length = N := by rw [List.length_map, rngI_len]
          obtain ⟨p, r, eF⟩ := flags rn.flags
          rw [sat_lstF (ds := ((rngI 0 N).map fun i => yF G y.toNat x i.toNat != yF G y.toNat x (i.toNat + 1)).map PyData.bool) eD]
          refine ⟨by rw [List.length_map, lD]; omega, ?_⟩
          rw [eF]
          cases r with
          | zero =>
            refine .inl ⟨by rw [c_inB]; simp, ?_⟩
            refine ⟨p, by simp, some p, rfl, ?_⟩
            simp only [List.replicate_zero, List.append_nil]
            rw [sl_lst, sat_ok, cut_nat (by simp)]
            refine .inl ⟨?_, rfl, all⟩
            rw [← List.map_drop, c_inB]
            simp
          | succ r =>
            refine .inr ⟨by rw [c_inB]; simp, rfl, ?_⟩
            rw [idx_false]
            refine ⟨some p, rfl, ?_⟩
            rw [sl_lst, sat_ok, cut_nat (by simp)]
            refine .inl ⟨?_, rfl, all⟩
            rw [← List.map_drop, c_inB]
            simp
  · exact ⟨⟨_, _, _, _, _, _, _, rfl⟩, rfl, fun y hy => by have := rngI_mem hy; omega⟩
  · rintro σ hh ⟨⟨v7, v8, v9, v10, v11, v12, v13, rfl⟩, rfl, _⟩
    exact q _ _ _ _ _ _ _
theorem iterF_end {F : Fn} : ∀ {n : Nat} {k : List Int}, iterF F (n + 1) k = (iterF F n k).bind (nextF F)
  | 0, k => by
    show (nextF F k).bind (iterF F 0) = nextF F k
    cases nextF F k <;> rfl
  | n + 1, k => by
    show (nextF F k).bind (iterF F (n + 1)) = ((nextF F k).bind (iterF F n)).bind (nextF F)
    cases nextF F k with
    | none => rfl
    | some k' => exact iterF_end (n := n) (k := k')
theorem iter_still {F : Fn} {k : List Int} (e : nextF F k = some k) : ∀ {n : Nat}, iterF F n k = some k
  | 0 => rfl
  | n + 1 => by
    show (nextF F k).bind (iterF F n) = some k
    rw [e]
    exact iter_still e (n := n)
theorem tail_S {H : Ho} {a : Int} {row : List De} {k : List Int} {m B N : Nat} {o : Option Nat} {v7 v8 v9 v10 v11 v12 v13 : Option PV} (ok : HoOk H) (h1 : 0 ≤ a) (h2 : a < H.n) (hl : Laid H a row) (he : H.toR a row = a) (hr : row.length ≤ 10) (hk : KeyOk H.t k) (ho : oftenF (H.F a row) 7 0 k = o) (hN : o = none → N = 6) (hp : PenAt h m (B + 1)) (q : ∀ h', PenAt h' m B → Fr m h h' → Q' (.d (.bool true)) h') :
    Sat (evS (callN Q (n + 15)) h.length tailR [some (.ref m), some (.d H.d), some (.d (.int a)), some (.d (rwD row)), some (.d (kD k)), some (natV o), some (.d (keysL (H.F a row) k (N + 1))), v7, v8, v9, v10, v11, v12, v13] h) (endQ h.length Q') := by
  have tl : line = 16777216 := rfl
  have ht := ok.t
  have kl := hk.1
  have fo := fn_ok ok hl
  cases o with
  | some i =>
    simp [tailR, natV, isNonV]
    exact q h (hp.less (by omega)) Fr.refl
  | none =>
    cases hN rfl
    have i7 := often_none.mp ho
    have i6 : (iterF (H.F a row) 6 k).isSome = true := iterF_less (by omega) i7
    have e6 := ks_some i6
    have k6 : KeyOk H.t (ksF (H.F a row) k 6) := iterF_ok fo hk e6
    have e7 := iter_far fo mono_row hk i7 0
    have far := iter_far fo mono_row hk i7
    -- the row turns nothing more
    have n6 : nextF (H.F a row) (ksF (H.F a row) k 6) = some (ksF (H.F a row) k 6) := by
      rw [Nat.add_zero, e6, iterF_end (n := 6), e6] at e7
      exact e7.symm
    have o6 : oftenF (H.F a row) 7 0 (ksF (H.F a row) k 6) = none := often_none.mpr (by rw [iter_still n6]; rfl)
    have hb := bars_next (H := H) (r := row) (a := a) (k := ksF (H.F a row) k 6) (i := 0)
    rw [n6] at hb
    have a6 : L2.atI ((rngI 0 7).map fun i => kD (ksF (H.F a row) k i.toNat)) 6 = some (kD (ksF (H.F a row) k 6)) := rfl
    generalize ksF (H.F a row) k 6 = k' at *
    simp [tailR, natV, isNonV, keysL, a6, asg]
    refine behind_S (n := n + 3) lkQ ok h1 h2 hl (by omega) k6 hb.1 ?_
    rw [hb.2, he]
    refine .inl ⟨ne_self (plain_stD _ _) (Nat.le_trans (depth_stD _ _) (by decide)), ?_⟩
    refine how_often_S (n := n + 1) lkQ ok h1 h2 hl he (by omega) k6 ?_
    rw [o6]
    refine .inl ⟨rfl, ?_⟩
    refine draw_S (i := n + 14) lkD (m := 100000000000) (B := B) hp (by omega) (by omega) ?_
    intro d h' d1 d2 f1 p1
    simp
    refine key_far_S (n := n) (m := 6 + d) (k' := k') lkQ ok h1 h2 hl he (by omega) hk ⟨by omega, by omega⟩ (fun i hi => by rw [ho] at hi; cases hi) ?_ ?_
    · have e7 := far 0
      rw [Nat.add_zero, e6] at e7
      by_cases c : 7 < 6 + d
      · rw [if_pos c, ← e7]
      · rw [if_neg c]
        have : (6 + d).toNat = 6 ∨ (6 + d).toNat = 7 := by omega
        rcases this with e | e <;> rw [e]
        · exact e6
        · exact e7.symm
    · refine .inr ⟨eq_self' (plain_kD _) (Nat.le_trans (depth_kD _) (by decide)), ?_⟩
      rw [List.take_of_length_le (by rw [f1.len]; omega)]
      exact q h' p1 f1
def checkO : S := (.ife (.and (.notNon (.loc 5)) (.not (.chain .le .le (.lit (.int 0)) (.loc 5) (.lit (.int 6))))) (.seq (.ret (.lit (.bool false))) .skip) .skip)
def keysO : S := (.asg (.nm 6) (.comp false [11] (.nm 11) (.iR1 (.ite (.isNon (.loc 5)) (.lit (.int 7)) (.bin .add (.loc 5) (.lit (.int 1))))) .nop (.call "key_far" (.cons (.loc 1) (.cons (.loc 2) (.cons (.loc 3) (.cons (.loc 4) (.cons (.loc 11) .nil))))))))
def restO : S := .seq loopT tailR
theorem right_S {H : Ho} {a : Int} {row : List De} {k : List Int} {m B : Nat} (ok : HoOk H) (h1 : 0 ≤ a) (h2 : a < H.n) (hl : Laid H a row) (he : H.toR a row = a) (hr : row.length ≤ 10) (hk : KeyOk H.t k) (hp : PenAt h m (B + 1)) (q : ∀ h', PenAt h' m B → Q' (.d (.bool true)) h') : Sat (callN Q (n + 16) "_law_right" [.ref m, .d H.d, .d (.int a), .d (rwD row), .d (kD k)] h) Q' := by
  have tl : line = 16777216 := rfl
  have ht := ok.t
  have kl := hk.1
  have fo := fn_ok ok hl
  have q0 : ∀ h', PenAt h' m (B + 1) → Q' (.d (.bool true)) h' := fun h' p => q h' (p.less (by omega))
  rw [call0 rfl rfl]
  rw [show f_law_right = .seq (.asg (.nm 5) (.call "how_often" (.cons (.loc 1) (.cons (.loc 2) (.cons (.loc 3) (.cons (.loc 4) .nil)))))) (.seq checkO (.seq keysO restO)) from rfl]
  simp
  refine how_often_S (n := n + 1) lkQ ok h1 h2 hl he (by omega) hk ?_
  simp [asg]
  have key : ∀ N : Nat, N + 1 ≤ 7 → (∀ i, oftenF (H.F a row) 7 0 k = some i → i = N) → (oftenF (H.F a row) 7 0 k = none → N = 6) → (∀ i, i < N + 1 → (iterF (H.F a row) i k).isSome = true) → Sat (compGo (compSt [11] (.nm 11) (den (callN Q (n + 15)) h.length .nop).t (den (callN Q (n + 15)) h.length (.call "key_far" (.cons (.loc 1) (.cons (.loc 2) (.cons (.loc 3) (.cons (.loc 4) (.cons (.loc 11) .nil))))))).e [some (.ref m), some (.d H.d), some (.d (.int a)), some (.d (rwD row)), some (.d (kD k)), some (natV (oftenF (H.F a row) 7 0 k)), none, none, none, none, none, none, none, none]) (.fx ((rngI 0 (N + 1)).map fun i => .d (.int i))) h) (fun xs h2 => h2 = h ∧ xs = (rngI 0 (N + 1)).map fun i => .d (kD (ksF (H.F a row) k i.toNat))) := by
    intro N hN7 hs hn hV
    refine sat_mapM (f := fun i : Int => .d (.int i)) (fun i => .d (kD (ksF (H.F a row) k i.toNat))) ?_ ⟨rfl, rfl⟩
    intro i hi
    have := rngI_mem hi
    simp [asg, Iw.wipe]
    refine key_far_S (n := n) (m := i) (k' := ksF (H.F a row) k i.toNat) lkQ ok h1 h2 hl he (by omega) hk ⟨by omega, by omega⟩ (fun j hj => by have := hs j hj; omega) ?_ ⟨rfl, rfl⟩
    rw [if_neg (by omega)]
    exact ks_some (hV _ (by omega))
  have done : ∀ N : Nat, N + 1 ≤ 7 → (oftenF (H.F a row) 7 0 k = none → N = 6) → (∀ i, i < N + 1 → (iterF (H.F a row) i k).isSome = true) → Sat (lstOf false ((rngI 0 (N + 1)).map fun i => .d (kD (ksF (H.F a row) k i.toNat))) h) (fun v h1 => ∃ σ1, asg (.nm 6) v [some (.ref m), some (.d H.d), some (.d (.int a)), some (.d (rwD row)), some (.d (kD k)), some (natV (oftenF (H.F a row) 7 0 k)), none, none, none, none, none, none, none, none] = some σ1 ∧ Sat (evS (callN Q (n + 15)) h.length restO σ1 h1) (endQ h.length Q')) := by
    intro N hN7 hn hV
    rw [sat_lstF (ds := (rngI 0 (N + 1)).map fun i => kD (ksF (H.F a row) k i.toNat)) (by rw [List.map_map]; rfl)]
    refine ⟨by rw [List.length_map, rngI_len]; omega, _, rfl, ?_⟩
    refine loop_S (n := n) (G := H.F a row) (H := H) (a := a) (row := row) (N := N) (T := tailR) rfl hk ht.2 hN7 hV ?_
    intro v7 v8 v9 v10 v11 v12 v13
    exact tail_S (n := n) (N := N) (B := B) ok h1 h2 hl he hr hk rfl hn hp fun h' p _ => q h' p
  cases ho : oftenF (H.F a row) 7 0 k with
  | none =>
    rw [ho] at key done
    have i7 := often_none.mp ho
    have all : ∀ i, i < 6 + 1 → (iterF (H.F a row) i k).isSome = true := fun i hi => iterF_less (by omega) i7
    simp [checkO, keysO, natV, isNonV]
    refine ⟨by omega, ?_⟩
    rw [rngL_eq]
    refine (key 6 (by omega) (fun i hi => by cases hi) (fun _ => rfl) all).mono ?_
    rintro xs h2 ⟨rfl, rfl⟩
    exact done 6 (by omega) (fun _ => rfl) all
  | some i =>
    rw [ho] at key done
    obtain ⟨_, i7, q1, _⟩ := often_some ho
    rw [Nat.sub_zero] at q1
    have all : ∀ j, j < i + 1 → (iterF (H.F a row) j k).isSome = true := fun j hj => iterF_less (by omega) q1
    simp [checkO, keysO, natV, isNonV]
    refine .inr ⟨by omega, by omega, ?_⟩
    rw [rngL_eq]
    refine (key i (by omega) (fun j hj => by cases hj; rfl) (fun hj => by cases hj) all).mono ?_
    rintro xs h2 ⟨rfl, rfl⟩
    exact done i (by omega) (fun hj => by cases hj) all
end
theorem law_runs : ∀ ns : List Int, ns.length ≤ 63 → callN Q 101 "law" [.scr ns] [] = .ok (bool true) [] := by
  intro ns hn
  have tl : line = 16777216 := rfl
  refine Sat.eq ?_
  rw [call0 (P := Q) (f := "law") (s := f_law) rfl rfl]
  simp [f_law]
  refine ⟨by repeat' split
             all_goals omega, ?_⟩
  rw [rngL_eq]
  refine forF_ret (fun ys σ hh => (∃ x1 x2 x3 x4 x5 x6 x7 : Option PV, σ = [some (.scr ns), x1, x2, x3, x4, x5, x6, x7]) ∧ ∀ x ∈ ys, ∃ k : Nat, x = (k : Int)) ?_ _ _ _ ?_ ?_
  · rintro x ys σ hh ⟨⟨x1, x2, x3, x4, x5, x6, x7, rfl⟩, all⟩
    obtain ⟨k, rfl⟩ := all x (List.mem_cons_self)
    have all := fun y hy => all y (List.mem_cons_of_mem _ hy)
    refine ⟨_, by simp [asg]; rfl, ?_⟩
    simp
    refine cell_at_S (i := 99) lkD ?_
    intro c
    refine pen_S (i := 99) lkD ?_
    intro pa pb pa0 pb0 pb1
    have p0 : PenAt (hh ++ [penL pa pb 0]) hh.length (4 * 249) := ⟨pa, pb, 0, by simp, pa0, pb0, pb1, by omega, by omega⟩
    generalize hh ++ [penL pa pb 0] = h0 at p0
    generalize hh.length = m at p0
    simp [asg]
    refine ⟨by decide, ?_⟩
    rw [rngL_eq]
    refine forF_ret (fun ts σ hh => (∃ x3 x4 x5 x6 x7 : Option PV, σ = [some (.scr ns), some (.d (.int k)), some (.ref m), x3, x4, x5, x6, x7]) ∧ PenAt hh m (ts.length * 249)) ?_ _ _ _ ?_ ?_
    · rintro t ts σ hh ⟨⟨x3, x4, x5, x6, x7, rfl⟩, p1⟩
      refine ⟨_, by simp [asg]; rfl, ?_⟩
      rw [List.length_cons] at p1
      simp
      refine draw_S (i := 99) lkD (m := 3) (B := ts.length * 249 + 248) (p1.less (by omega)) (by omega) (by omega) ?_
      intro d h1 d1 d2 f1 p2
      simp
      refine drawn_house_S (i := 97) lkD lkB (t := 1 + d) (m := 3) (B := ts.length * 249 + 38) (by omega) (by omega) (p2.less (by omega)) ?_
      intro H h2 ok Ht f2 p3
      have n1 := ok.n
      simp [asg]
      refine draw_S (i := 99) lkD (m := H.n) (B := ts.length * 249 + 37) p3 (by omega) (by omega) ?_
      intro a h3 a1 a2 f3 p4
      refine round_row_S (i := 96) lkD lkB (m := 10) (B := ts.length * 249 + 16) ok a1 a2 (by omega) p4 ?_
      intro row h4 ld rt rl f4 p5
      refine ⟨by decide, ?_⟩
      rw [rngL_eq]
      refine forF_ret (fun us σ hh => (∃ x7 : Option PV, σ = [some (.scr ns), some (.d (.int k)), some (.ref m), some (.d (.int t)), some (.d H.d), some (.d (.int a)), some (.d (rwD row)), x7]) ∧ PenAt hh m (ts.length * 249 + us.length * 4)) ?_ _ _ _ ?_ ?_
      · rintro u us σ hh ⟨⟨x7, rfl⟩, p6⟩
        refine ⟨_, by simp [asg]; rfl, ?_⟩
        rw [List.length_cons] at p6
        simp
        refine key_S (i := 98) (B := ts.length * 249 + us.length * 4 + 1) lkD lkK ok.t (p6.less (by omega)) ?_
        intro ky h7 kok f7 p9
        refine right_S (n := 84) (B := ts.length * 249 + us.length * 4) ok a1 a2 ld rt (by omega) kok p9 ?_
        intro h8 p10
        simp
        exact p10
      · exact ⟨⟨_, rfl⟩, p5.less (by rw [rngI_len]; omega)⟩
      · rintro σ hh ⟨⟨x7, rfl⟩, p6⟩
        simp
        exact p6.less (by simp)
    · exact ⟨⟨_, _, _, _, _, rfl⟩, p0.less (by rw [rngI_len]; omega)⟩
    · rintro σ hh ⟨⟨x3, x4, x5, x6, x7, rfl⟩, p1⟩
      simp
      exact all
  · refine ⟨⟨_, _, _, _, _, _, _, rfl⟩, ?_⟩
    intro x hx
    have := rngI_mem hx
    exact ⟨x.toNat, by omega⟩
  · rintro σ hh ⟨⟨x1, x2, x3, x4, x5, x6, x7, rfl⟩, _⟩
    simp
end Hd
end

section
set_option Elab.async false
set_option linter.all false
set_option maxRecDepth 100000
set_option maxHeartbeats 0
namespace Hd
open PySem PySem.Spec PyProof.Rows L2 Iw
def top (i : Nat) : Stmt := PySem.Challenge.pw_wearkeys_k29_whole_six_plays_are_enough.main.body.getD i (.Pass ⟨0, 0, 0, 0⟩)
def recs : List Rec := [
  Rec.mk "is_whole" 14 ["thing"] [] false true,
  Rec.mk "is_among" 15 ["thing", "low", "high"] [] false true,
  Rec.mk "are_some" 16 ["thing", "low", "high"] [] false true,
  Rec.mk "rises" 17 ["thing", "one", "later"] [] false true,
  Rec.mk "is_height" 18 ["thing"] [] false true,
  Rec.mk "is_key_by" 19 ["teeth", "thing", "one"] [] false true,
  Rec.mk "need_key" 20 ["teeth", "thing"] [] false true,
  Rec.mk "is_gap" 21 ["thing", "one"] [] false true,
  Rec.mk "is_box_by" 22 ["teeth", "thing", "one"] [] false true,
  Rec.mk "is_wear" 35 ["teeth", "thing", "one"] [] false true,
  Rec.mk "is_door" 36 ["teeth", "halls", "letters", "thing", "hall"] [] false true,
  Rec.mk "are_doors" 37 ["teeth", "halls", "letters", "thing", "door", "one"] [] false true,
  Rec.mk "is_smith" 38 ["halls", "thing"] [] false true,
  Rec.mk "are_benches" 39 ["halls", "thing", "one"] [] false true,
  Rec.mk "are_smiths" 40 ["halls", "thing", "one"] [] false true,
  Rec.mk "is_house" 41 ["thing", "teeth", "halls", "wears", "doors", "benches", "smiths", "one"] [] false true,
  Rec.mk "need_house" 42 ["thing"] [] false true,
  Rec.mk "is_hall" 43 ["house", "thing"] [] false true,
  Rec.mk "need_hall" 44 ["house", "thing"] [] false true,
  Rec.mk "is_stand" 45 ["house", "thing"] [] false true,
  Rec.mk "need_stand" 46 ["house", "thing"] [] false true,
  Rec.mk "is_deed" 47 ["house", "thing"] [] false true,
  Rec.mk "door_at" 48 ["house", "hall", "letter", "number", "door"] [] false true,
  Rec.mk "smith_at" 49 ["house", "hall", "smith"] [] false true,
  Rec.mk "is_away" 50 ["house", "hall", "deed"] [] false true,
  Rec.mk "hall_behind" 51 ["house", "hall", "deed"] [] false true,
  Rec.mk "wear_of" 52 ["house", "deed", "tooth"] [] false true,
  Rec.mk "gap_of" 53 ["house", "hall", "deed", "tooth"] [] false true,
  Rec.mk "bar_of" 54 ["house", "stand", "deed", "hall", "key", "tooth", "height", "low", "high"] [] false true,
  Rec.mk "done_by" 55 ["house", "stand", "deed", "later", "hall", "key", "tooth", "height"] [] false true,
  Rec.mk "need_row" 57 ["house", "thing", "deed"] [] false true,
  Rec.mk "bar_at" 58 ["house", "stand", "row", "place", "deed", "bar"] [] false true,
  Rec.mk "first_barred" 59 ["house", "stand", "row"] [] false true,
  Rec.mk "behind_by" 60 ["house", "stand", "row", "deed"] [] false true,
  Rec.mk "behind" 61 ["house", "stand", "row"] [] false true,
  Rec.mk "away_at" 62 ["house", "hall", "row", "place", "deed"] [] false true,
  Rec.mk "first_away" 63 ["house", "hall", "row"] [] false true,
  Rec.mk "need_laid" 64 ["house", "hall", "row"] [] false true,
  Rec.mk "halls_of" 65 ["house", "hall", "row", "found", "deed"] ["found"] false true,
  Rec.mk "height_behind" 66 ["house", "hall", "row", "tooth", "height", "deed", "low", "high"] [] false true,
  Rec.mk "does_by" 67 ["house", "hall", "row", "found", "tooth", "one"] ["found"] false true,
  Rec.mk "led" 68 ["tables", "key", "table", "height"] [] false true,
  Rec.mk "need_round" 72 ["house", "hall", "row"] [] false true,
  Rec.mk "need_times" 73 ["thing"] [] false true,
  Rec.mk "often_by" 74 ["tables", "key", "many"] [] false true,
  Rec.mk "how_often" 75 ["house", "hall", "row", "key"] [] false true,
  Rec.mk "key_far" 76 ["house", "hall", "row", "key", "times", "often", "tables", "lap"] [] false true,
  Rec.mk "_law_cell_at" 78 ["_law_script", "_law_k"] [] false true,
  Rec.mk "_law_pen" 79 ["_law_cell"] [] true true,
  Rec.mk "_law_draw" 80 ["_law_pen_here", "_law_many", "_law_stir", "_law_digit"] ["_law_pen_here"] false true,
  Rec.mk "_law_pick" 81 ["_law_pen_here", "_law_some"] [] false true,
  Rec.mk "_law_gaps" 82 ["_law_pen_here", "_law_teeth", "_law_found", "_law_tooth", "_law_low"] ["_law_found"] false true,
  Rec.mk "_law_drawn_house" 83 ["_law_pen_here", "_law_teeth", "_law_most", "_law_letter", "_law_hall", "_law_benches", "_law_smiths", "_law_halls", "_law_letters", "_law_wears", "_law_doors_here", "_law_smith", "_law_tooth"] ["_law_doors_here", "_law_wears"] false true,
  Rec.mk "_law_doors" 84 ["_law_house", "_law_hall", "_law_at", "_law_letter", "_law_to_here", "_law_gaps_here"] [] true true,
  Rec.mk "_law_deeds" 85 ["_law_house", "_law_hall", "_law_found", "_law_teeth", "_law_letter", "_law_tooth", "_law_smith"] [] false true,
  Rec.mk "_law_to" 86 ["_law_house", "_law_hall", "_law_deed"] [] false true,
  Rec.mk "_law_laid_row" 87 ["_law_pen_here", "_law_house", "_law_hall", "_law_most", "_law_found", "_law_turn", "_law_some"] [] false true,
  Rec.mk "_law_round_row" 88 ["_law_pen_here", "_law_house", "_law_hall", "_law_most", "_law_row", "_law_here", "_law_found", "_law_at", "_law_deed"] [] false true,
  Rec.mk "_law_key" 89 ["_law_pen_here", "_law_teeth", "_law_tooth"] [] false true,
  Rec.mk "_law_right" 90 ["_law_pen_here", "_law_house", "_law_hall", "_law_row", "_law_key_here", "_law_often", "_law_keys", "_law_tooth", "_law_far", "_law_heights", "_law_steps", "_law_times", "_law_one", "_law_later"] [] false true,
  Rec.mk "law" 91 ["_law_script", "_law_k", "_law_pen_here", "_law_turn", "_law_house", "_law_hall", "_law_row", "_law_lap"] [] false true]
def free : List Str := ["all", "bool", "dict", "enumerate", "int", "isinstance", "len", "list", "max", "min", "range", "sorted", "str", "tuple", "zip"]
def lits : List (Str × PyData) := [("MOST_HEIGHT", .int 6), ("MOST_TEETH", .int 3), ("MOST_HALLS", .int 6), ("MOST_LETTERS", .int 6), ("MOST_WEAR", .int 3), ("MOST_DOORS", .int 10), ("MOST_PRICE", .int 9), ("GO", .str "go"), ("FILE", .str "file"), ("LIFT", .str "lift"), ("AWAY", .str "away"), ("LOW", .str "low"), ("HIGH", .str "high"), ("MOST_TIMES", .int 1000000000000), ("ENOUGH", .int 7)]
theorem chk : recs.map (irOf top recs free lits) = fs := by kernel_rfl
theorem chkQ : Q = pgOf top recs fs ++ ex := congrArg (· ++ ex) (show Q0 = pgOf top recs fs by kernel_rfl)
theorem chkR : recs.all (okR top) = true := by kernel_rfl
theorem chkN : (recs.map (·.x)).Nodup := by decide +kernel
theorem chkL : lits.all (fun p => litOk p.2) = true := by kernel_rfl
def fn : List He.DefD := fnOf top recs
def fa : List He.Fa := faOf recs free lits
abbrev R0 : PySem.W.OpenRow := PySem.W.OpenLaw.row PySem.Challenge.rw_wearkeys_k29_whole_six_plays_are_enough
abbrev hk : PySem.W.Hook := He.hookD 4 fa fn
def ob (s : PySem.W.SharedT) : He.AlD := He.obsDG 4 fa fn (HandSHeadRun.getT s)
theorem ob_eq (s : PySem.W.SharedT) : ob s = hk.obs s.abs := He.obsDG_eq (HandSHeadRun.getT_eq s)
def nm0 : List PySem.Str := ["WearError", "NoKey", "NoHouse", "NoStand", "Barred", "NoRow", "NoHall", "NotLaid", "NotRound", "NoTimes", "MOST_HEIGHT", "MOST_TEETH", "is_whole", "is_among", "are_some", "rises", "is_height", "is_key_by", "need_key", "is_gap", "is_box_by", "MOST_HALLS", "MOST_LETTERS", "MOST_WEAR", "MOST_DOORS", "MOST_PRICE", "GO", "FILE", "LIFT", "AWAY"]
def nm1 : List PySem.Str := ["LOW", "HIGH", "is_wear", "is_door", "are_doors", "is_smith", "are_benches", "are_smiths", "is_house", "need_house", "is_hall", "need_hall", "is_stand", "need_stand", "is_deed", "door_at", "smith_at", "is_away", "hall_behind", "wear_of", "gap_of", "bar_of", "done_by", "need_row", "bar_at", "first_barred", "behind_by", "behind", "away_at", "first_away"]
def nm2 : List PySem.Str := ["need_laid", "halls_of", "height_behind", "does_by", "led", "MOST_TIMES", "ENOUGH", "need_round", "need_times", "often_by", "how_often", "key_far", "_law_cell_at", "_law_pen", "_law_draw", "_law_pick", "_law_gaps", "_law_drawn_house", "_law_doors", "_law_deeds", "_law_to", "_law_laid_row", "_law_round_row", "_law_key", "_law_right"]
def names : List PySem.Str := nm0 ++ nm1 ++ nm2
theorem run (w : World) : HandSHeadRun.RunEq R0 (PySem.W.view R0.prog [91]) hk ob 40000 names w := by
  intro os
  kernel_rfl
end Hd
end

section
set_option Elab.async false
set_option linter.all false
set_option maxRecDepth 100000
set_option maxHeartbeats 0
open PySem PySem.W PySem.Calls PyProof.Rows
theorem PySem.Challenge.cw_wearkeys_k29_whole_six_plays_are_enough_holds : PySem.Challenge.rw_wearkeys_k29_whole_six_plays_are_enough.Holds := by
  w_on; o_law
  refine HandSHeadRun.head_any (r := OpenLaw.row PySem.Challenge.rw_wearkeys_k29_whole_six_plays_are_enough) (q := view (OpenLaw.row PySem.Challenge.rw_wearkeys_k29_whole_six_plays_are_enough).prog [91]) (H := Hd.hk) (ob := Hd.ob) (M := 40000) (loose := Hd.names) (d := HandSHeadRun.topDef (OpenLaw.row PySem.Challenge.rw_wearkeys_k29_whole_six_plays_are_enough).prog 91) (kwd := []) Hd.ob_eq
    (by kernel_rfl) (fun s => by kernel_rfl) Hd.run (by kernel_rfl) (by kernel_rfl) (by kernel_rfl) (by rfl) (by first | assumption | decide +kernel) (by decide +kernel) ⟨rfl, rfl, rfl, rfl, rfl, by decide +kernel⟩ ?hw ?hc
  case hw => w_witness2
  case hc =>
    refine Iw.walk_G (l := PySem.Challenge.rw_wearkeys_k29_whole_six_plays_are_enough) (n := 63) (k := 101) (x := "_law_script") rfl (by decide) (by kernel_rfl) ⟨rfl, by decide, by decide⟩ ?F
    intro w mg fa h Y G hmg0
    obtain ⟨K, KX, c⟩ := Y
    have hmg : mg ("law" : PySem.Str) = some (.ref fa) := by
      have e : (HandSHeadRun.topDef (OpenLaw.row PySem.Challenge.rw_wearkeys_k29_whole_six_plays_are_enough).prog 91).name = ("law" : PySem.Str) := by kernel_rfl
      rw [← e]
      exact hmg0
    obtain ⟨fd, sp, hb, hsp, hF⟩ := Iw.law_of (l := PySem.Challenge.rw_wearkeys_k29_whole_six_plays_are_enough) (w := w) (n := 100) (rl := Hd.recs[60]'(by decide +kernel)) KX G c Hd.chkQ Hd.chk Hd.chkN Hd.chkR Hd.chkL (List.getElem_mem _) (by kernel_rfl) (by kernel_rfl) hmg Hd.law_runs
    exact ⟨K, fd, sp, KX, hb, hsp, hF⟩
end
