import PyProof.Rows.All
import HandS.HeadHook1
import HandS.HeadHook2
import HandS.ForMost
import HandS.Head0
import HandS.Head1
import HandS.Head2
import Lean
import PySem.Challenge.RW_wearkeys_k24_plays_and_halls_by_names
import Wide.All
import OpenK.AllK
import Wide.FinOn
import KE.DataAny
import KE.DataCmp
import KE.DataIsa
import KE.SortData
import PyProof.ReprReads
import KE.KDictKeyed
import HandS.TupAny
import HandS.TupMul
import HandS.IsInst
import HandS.Zip
import HandS.Walk
import HandS.Conv
import HandS.ExcOwn
import HandS.WordsExc
import HandS.Defaults
import HandS.Style
import HandS.Flow
import KE.KDictPairs
import HandS.Deep
import KE.KDictWalk
import HandS.Wide
import KE.KDictSum
import HandS.TupSets
import KE.KDictZip
import HandS.DictTup
import HandS.SetKeys
import KE.GoesMore
import KE.KDictDisplayH
import KE.DataFind
import HandS.DictComp
import HandS.Ends
import HandS.HeadEnd
section
set_option Elab.async false
set_option linter.all false
set_option maxRecDepth 100000
/-! a law's tables -/
namespace Iw
open PySem PySem.Spec PyProof.Rows L2
structure Rec where
  x : Str
  i : Nat
  N : List Str
  mn : List Str
  kp : Bool
  dt : Bool
section
variable (top : Nat → Stmt) (recs : List Rec) (free : List Str) (lits : List (Str × PyData))
def fnsOf : List Str := recs.map (·.x)
def mkD (r : Rec) : He.DefD := ⟨(r.x, none), r.x, r.x, defArgs (top r.i), defBody (top r.i), defScope (top r.i), [], []⟩
def fnOf : List He.DefD := recs.map (mkD top)
def litF : Str × PyData → He.Fa
  | (x, .int i) => .int x i
  | (x, .str z) => .str x z
  | (x, _) => .glo x
def faOf : List He.Fa := (fnsOf recs).map .glo ++ (free.map .free ++ lits.map litF)
end
end Iw
end

section
set_option Elab.async false
set_option linter.all false
set_option maxRecDepth 100000
set_option maxHeartbeats 0
namespace Hd
open PySem PySem.Spec PyProof.Rows L2 Iw
def top (i : Nat) : Stmt := PySem.Challenge.pw_wearkeys_k24_plays_and_halls_by_names.main.body.getD i (.Pass ⟨0, 0, 0, 0⟩)
def recs : List Rec := [
  Rec.mk "is_whole" 13 ["thing"] [] false true,
  Rec.mk "is_among" 14 ["thing", "low", "high"] [] false true,
  Rec.mk "are_some" 15 ["thing", "low", "high"] [] false true,
  Rec.mk "rises" 16 ["thing", "one", "later"] [] false true,
  Rec.mk "is_height" 17 ["thing"] [] false true,
  Rec.mk "is_key_by" 18 ["teeth", "thing", "one"] [] false true,
  Rec.mk "need_key" 19 ["teeth", "thing"] [] false true,
  Rec.mk "is_gap" 20 ["thing", "one"] [] false true,
  Rec.mk "is_box_by" 21 ["teeth", "thing", "one"] [] false true,
  Rec.mk "whole_box" 22 ["teeth"] [] false true,
  Rec.mk "common_by" 24 ["one", "other", "found", "mine", "its", "low", "high"] [] false true,
  Rec.mk "has_key" 25 ["box", "key", "height", "low", "high"] [] false true,
  Rec.mk "has_box" 26 ["box", "other", "its", "low", "high"] [] false true,
  Rec.mk "keys_in" 27 ["box", "found", "low", "high", "longer", "key", "height"] ["longer"] false true,
  Rec.mk "moved_end" 28 ["key", "tooth", "by"] [] false true,
  Rec.mk "filled_from" 29 ["keys", "low", "found", "high", "steps", "tooth", "one", "other"] ["found"] true true,
  Rec.mk "is_greatest" 30 ["filled", "low", "high", "tooth"] [] false true,
  Rec.mk "greatest_by" 31 ["keys", "filled", "found", "low", "high"] ["filled*", "found", "keys*"] false true,
  Rec.mk "is_wear" 41 ["teeth", "thing", "one"] [] false true,
  Rec.mk "is_door" 42 ["teeth", "halls", "letters", "thing", "hall"] [] false true,
  Rec.mk "are_doors" 43 ["teeth", "halls", "letters", "thing", "door", "one"] [] false true,
  Rec.mk "is_smith" 44 ["halls", "thing"] [] false true,
  Rec.mk "are_benches" 45 ["halls", "thing", "one"] [] false true,
  Rec.mk "are_smiths" 46 ["halls", "thing", "one"] [] false true,
  Rec.mk "is_house" 47 ["thing", "teeth", "halls", "wears", "doors", "benches", "smiths", "one"] [] false true,
  Rec.mk "need_house" 48 ["thing"] [] false true,
  Rec.mk "is_hall" 49 ["house", "thing"] [] false true,
  Rec.mk "need_hall" 50 ["house", "thing"] [] false true,
  Rec.mk "is_deed" 51 ["house", "thing"] [] false true,
  Rec.mk "door_at" 52 ["house", "hall", "letter", "number", "door"] [] false true,
  Rec.mk "smith_at" 53 ["house", "hall", "smith"] [] false true,
  Rec.mk "is_away" 54 ["house", "hall", "deed"] [] false true,
  Rec.mk "hall_behind" 55 ["house", "hall", "deed"] [] false true,
  Rec.mk "wear_of" 56 ["house", "deed", "tooth"] [] false true,
  Rec.mk "gap_of" 57 ["house", "hall", "deed", "tooth"] [] false true,
  Rec.mk "need_row" 59 ["house", "thing", "deed"] [] false true,
  Rec.mk "away_at" 60 ["house", "hall", "row", "place", "deed"] [] false true,
  Rec.mk "first_away" 61 ["house", "hall", "row"] [] false true,
  Rec.mk "need_laid" 62 ["house", "hall", "row"] [] false true,
  Rec.mk "halls_of" 63 ["house", "hall", "row", "found", "deed"] ["found"] false true,
  Rec.mk "height_behind" 64 ["house", "hall", "row", "tooth", "height", "deed", "low", "high"] [] false true,
  Rec.mk "does_by" 65 ["house", "hall", "row", "found", "tooth", "one"] ["found"] false true,
  Rec.mk "box_by" 66 ["tables", "runs", "table", "height", "later", "run"] [] false true,
  Rec.mk "led" 67 ["tables", "key", "table", "height"] [] false true,
  Rec.mk "need_round" 71 ["house", "hall", "row"] [] false true,
  Rec.mk "need_times" 72 ["thing"] [] false true,
  Rec.mk "often_by" 73 ["tables", "key", "many"] [] false true,
  Rec.mk "how_often" 74 ["house", "hall", "row", "key"] [] false true,
  Rec.mk "key_far" 75 ["house", "hall", "row", "key", "times", "often", "tables", "lap"] [] false true,
  Rec.mk "put_behind" 76 ["tables", "others", "found", "table", "other", "height"] ["found"] false true,
  Rec.mk "box_far" 77 ["house", "hall", "row", "times", "lap", "tables", "found"] [] false true,
  Rec.mk "need_halls" 81 ["house", "one", "other"] [] false true,
  Rec.mk "door_of" 82 ["house", "hall", "letter", "number"] [] false true,
  Rec.mk "let_by" 83 ["house", "hall", "letter", "key", "door"] [] false true,
  Rec.mk "worn" 84 ["house", "letter", "key", "height", "by"] [] false true,
  Rec.mk "next_place" 85 ["house", "place", "letter", "mine", "its", "key", "one", "other"] [] false true,
  Rec.mk "spread" 86 ["house", "one", "other", "waiting", "found", "place", "key", "letter", "later"] ["found", "waiting", "{}"] true true,
  Rec.mk "parted" 87 ["found", "line", "long", "ahead", "known", "place", "row", "later", "some", "one"] ["found*", "{}"] true true,
  Rec.mk "word_from" 88 ["found", "known", "place", "word", "nearer", "letter", "later"] [] false true,
  Rec.mk "lot_of" 89 ["found", "keys", "lot", "mine", "its", "key", "some", "box"] ["found*", "keys*", "lot"] false true,
  Rec.mk "apart" 90 ["house", "one", "other", "found", "known", "keys", "key"] [] false true,
  Rec.mk "lets" 91 ["house", "hall", "key", "word", "letter"] [] false true,
  Rec.mk "do_part" 92 ["house", "one", "other", "key", "word", "letter"] [] false true,
  Rec.mk "is_place" 93 ["house", "thing"] [] false true,
  Rec.mk "is_kept" 94 ["house", "lot", "place", "letter", "doors", "some", "by", "later", "mine", "its", "box", "hall", "door", "one", "less", "low", "high"] [] false true,
  Rec.mk "are_alike" 95 ["house", "one", "other", "thing", "letters", "place", "letter"] [] false true,
  Rec.mk "shows_apart" 96 ["house", "one", "other", "thing"] [] false true,
  Rec.mk "_law_cell_at" 98 ["_law_script", "_law_k"] [] false true,
  Rec.mk "_law_pen" 99 ["_law_cell"] [] true true,
  Rec.mk "_law_draw" 100 ["_law_pen_here", "_law_many", "_law_stir", "_law_digit"] ["_law_pen_here"] false true,
  Rec.mk "_law_ground" 101 ["_law_price", "_law_doors"] [] false true,
  Rec.mk "_law_again_right" 102 ["_law_ground_here", "_law_go", "_law_both", "_law_height"] [] false true,
  Rec.mk "_law_halls_right" 103 ["_law_ground_here"] [] false true,
  Rec.mk "law" 104 ["_law_script", "_law_k", "_law_ground_here"] ["_law_again_right!", "_law_ground!", "_law_halls_right!"] false true]
def free : List Str := ["all", "any", "bool", "dict", "enumerate", "int", "isinstance", "len", "list", "max", "min", "range", "sorted", "str", "tuple", "zip"]
def lits : List (Str × PyData) := [("MOST_HEIGHT", .int 6), ("MOST_TEETH", .int 3), ("MOST_HALLS", .int 6), ("MOST_LETTERS", .int 6), ("MOST_WEAR", .int 3), ("MOST_DOORS", .int 10), ("MOST_PRICE", .int 9), ("GO", .str "go"), ("FILE", .str "file"), ("LIFT", .str "lift"), ("MOST_TIMES", .int 1000000000000), ("ENOUGH", .int 7), ("ALIKE", .str "alike"), ("APART", .str "apart")]
def fn : List He.DefD := fnOf top recs
def fa : List He.Fa := faOf recs free lits
abbrev R0 : PySem.W.OpenRow := PySem.W.OpenLaw.row PySem.Challenge.rw_wearkeys_k24_plays_and_halls_by_names
abbrev hk : PySem.W.Hook := He.hookD 4 fa fn
def ob (s : PySem.W.SharedT) : He.AlD := He.obsDG 4 fa fn (HandSHeadRun.getT s)
theorem ob_eq (s : PySem.W.SharedT) : ob s = hk.obs s.abs := He.obsDG_eq (HandSHeadRun.getT_eq s)
def nm0 : List PySem.Str := ["WearError", "NoKey", "NoHouse", "Barred", "NoRow", "NoHall", "NotLaid", "NotRound", "NoTimes", "MOST_HEIGHT", "MOST_TEETH", "is_whole", "is_among", "are_some", "rises", "is_height", "is_key_by", "need_key", "is_gap", "is_box_by", "whole_box", "common_by", "has_key", "has_box", "keys_in", "moved_end", "filled_from", "is_greatest", "greatest_by", "MOST_HALLS"]
def nm1 : List PySem.Str := ["MOST_LETTERS", "MOST_WEAR", "MOST_DOORS", "MOST_PRICE", "GO", "FILE", "LIFT", "is_wear", "is_door", "are_doors", "is_smith", "are_benches", "are_smiths", "is_house", "need_house", "is_hall", "need_hall", "is_deed", "door_at", "smith_at", "is_away", "hall_behind", "wear_of", "gap_of", "need_row", "away_at", "first_away", "need_laid", "halls_of", "height_behind"]
def nm2 : List PySem.Str := ["does_by", "box_by", "led", "MOST_TIMES", "ENOUGH", "need_round", "need_times", "often_by", "how_often", "key_far", "put_behind", "box_far", "ALIKE", "APART", "need_halls", "door_of", "let_by", "worn", "next_place", "spread", "parted", "word_from", "lot_of", "apart", "lets", "do_part", "is_place", "is_kept", "are_alike", "shows_apart"]
def nm3 : List PySem.Str := ["_law_cell_at", "_law_pen", "_law_draw", "_law_ground", "_law_again_right", "_law_halls_right"]
def names : List PySem.Str := nm0 ++ nm1 ++ nm2 ++ nm3
theorem run (w : World) : HandSHeadRun.RunEq R0 (PySem.W.view R0.prog [104]) hk ob 40000 names w := by
  intro os
  kernel_rfl
end Hd
end

section
set_option Elab.async false
set_option linter.all false
set_option maxRecDepth 100000
/-! the interpreter: values, state, primitive operations, evaluation -/
namespace Iw
open PySem

/-- values: data, an object of the run's own store, the script -/
inductive PV where
  | d (x : PyData)
  | ref (n : Nat)
  | scr (ns : List Int)
  /-- a pair of data and an object of the run's own store, in a dict's making -/
  | pr (x : PyData) (n : Nat)
inductive Ob where
  | lst (xs : List PV)
  /-- a dict by ints and texts, one by flat tuples of these -/
  | dK (kvs : List (L2.Key × PV))
  | dT (kvs : List (List L2.Key × PV))
  /-- .. while a loop walks it: read alone -/
  | dTl (kvs : List (List L2.Key × PV))
  /-- a dict by tuples, nested ones too; .. while a loop walks it -/
  | dN (kvs : List (NestedKey × PV))
  | dNl (kvs : List (NestedKey × PV))
abbrev Hs := List Ob
abbrev Sg := List (Option PV)
inductive R (α : Type) where
  | ok (a : α) (h : Hs)
  | exc (c : Str) (h : Hs)
  | bad
def R.bind {α β : Type} (r : R α) (f : α → Hs → R β) : R β := match r with
  | .ok a h => f a h
  | .exc c h => .exc c h
  | .bad => .bad
def R.of {α : Type} (o : Option α) (h : Hs) : R α := match o with
  | some a => .ok a h
  | none => .bad
@[simp] theorem R.bind_ok {α β : Type} (a : α) (h : Hs) (f : α → Hs → R β) : (R.ok a h).bind f = f a h := rfl
@[simp] theorem R.bind_exc {α β : Type} (c : Str) (h : Hs) (f : α → Hs → R β) : (R.exc c h : R α).bind f = .exc c h := rfl
@[simp] theorem R.bind_bad {α β : Type} (f : α → Hs → R β) : (R.bad : R α).bind f = .bad := rfl
@[simp] theorem R.of_some {α : Type} (a : α) (h : Hs) : R.of (some a) h = .ok a h := rfl
@[simp] theorem R.of_none {α : Type} (h : Hs) : R.of (none : Option α) h = .bad := rfl

inductive BO where
  | add | sub | mul | fdv | mod | pow
  deriving DecidableEq
inductive CO where
  | eq | ne | lt | le | gt | ge | isin | nin | is | isn
  deriving DecidableEq
inductive Bi where
  | all | any | len | int1 | bool1 | str1 | repr | max2 | min2 | max1 | min1 | sum | tuple1 | list1 (mt : Bool) | srt1 (mt : Bool) | dict1
  deriving DecidableEq
/-- targets; tp t: a tuple of the targets chained in t -/
inductive Tg where
  | nm (i : Nat)
  | nil
  | cons (a b : Tg)
inductive E where
  | loc (i : Nat)
  | lit (x : PyData)
  | bin (o : BO) (a b : E)
  | neg (a : E)
  | not (a : E)
  | and (a b : E)
  | or (a b : E)
  | cmp (o : CO) (a b : E)
  | chain (o p : CO) (a b c : E)
  | isNon (a : E)
  | notNon (a : E)
  | isBool (v : Bool) (a : E)
  | ite (c a b : E)
  | nil
  | cons (a b : E)
  | tup (as : E)
  | lst (mt : Bool) (as : E)
  | isi (a : E) (T : String)
  | call (f : Str) (as : E)
  | bi (b : Bi) (as : E)
  | ix (a i : E)
  | nop
  | prt (a : E)
  | cnd (a : E)
  | sl (a lo hi : E)
  | rev (a : E)
  | app (o x : E)
  | ext (o x : E)
  | pop (o : E)
  | popAt (o i : E)
  | cnt (o x : E)
  | idx (o x : E)
  | lsR (tp mt : Bool) (a b : E)
  | lz (a b : E)
  | comp (mt : Bool) (own : List Nat) (tg : Tg) (it cnd elt : E)
  /-- a call by names: the arguments as written, the place of each parameter's -/
  | callp (f : Str) (ρ : List Nat) (as : E)
  /-- while the dict d is locked -/
  | lk (d e : E)
  /-- dict([(k, v) for ..]), by tuples -/
  | dcp (own : List Nat) (tg : Tg) (it cnd k v : E)
  | dnew (t : Bool)
  | dnN
  /-- a locked dict's keys (0), values (1), items -/
  | iDk (kd : Nat) (e : E)
  | dsetd (o x y : E)
  | dupd (o x : E)
  /-- {k: v}; d.pop(k) -/
  | d1 (a b : E)
  | dpop (o x : E)
  /-- a call with data alone, over an empty store -/
  | callE (f : Str) (as : E)
  | dget (o x y : E)
  | stk
  | iVal (e : E)
  | iR1 (a : E)
  | iR2 (a b : E)
  | iZip (a b : E)
  | iEnu (a : E)
inductive S where
  | skip
  | seq (a b : S)
  | asg (t : Tg) (e : E)
  | par (is : List Nat) (as : E)
  | parT (t : Tg) (as : E)
  | sub (o i v : E)
  | aug (i : Nat) (e : E)
  | ex (e : E)
  | for_ (t : Tg) (it : E) (b : S)
  /-- while the dict d is locked -/
  | lkS (d : E) (s : S)
  | whl (c : E) (b : S)
  | ife (c : E) (a b : S)
  | ret (e : E)
  | stk
  | brk
  | cont
/-- kp: a list of the call's own that is handed back stays one -/
structure Fd where
  np : Nat
  ns : Nat
  kp : Bool
  body : S
abbrev Pg := List (Str × Fd)

/-! ### primitive operations -/
def line : Nat := 16777216
abbrev int (i : Int) : PV := .d (.int i)
abbrev bool (b : Bool) : PV := .d (.bool b)
def datas : List PV → Option (List PyData)
  | [] => some []
  | .d x :: r => (datas r).map (x :: ·)
  | _ :: _ => none
/-- a list's items -/
def getL (h : Hs) : PV → Option (List PV)
  | .d (.list ds) => some (ds.map .d)
  | .ref n => match h[n]? with
    | some (.lst xs) => some xs
    | _ => none
  | _ => none
/-- a list that the run makes -/
def mkL (mt : Bool) (xs : List PV) (h : Hs) : R PV := match mt with
  | true => .ok (.ref h.length) (h ++ [.lst xs])
  | false => R.of ((datas xs).map fun ds => .d (.list ds)) h
def storeOk (k n : Nat) : PV → Bool
  | .d _ => true
  | .ref _ => decide (k ≤ n)
  | .scr _ => false
  | .pr _ _ => false
def mulOk (i j : Int) : Bool := decide ((-(2 ^ 64) < i ∧ i < 2 ^ 64) ∨ (-(2 ^ 64) < j ∧ j < 2 ^ 64))
def cut {α : Type} (xs : List α) (lo hi : Option Int) : List α := (xs.drop (HT.sIx xs.length 0 lo)).take (HT.sIx xs.length xs.length hi - HT.sIx xs.length 0 lo)
def binop (o : BO) (a b : PV) (h : Hs) : R PV := match o, a, b with
  | .add, .d (.int i), .d (.int j) => .ok (int (i + j)) h
  | .sub, .d (.int i), .d (.int j) => .ok (int (i - j)) h
  | .mul, .d (.int i), .d (.int j) => if mulOk i j = true then .ok (int (i * j)) h else .bad
  | .fdv, .d (.int i), .d (.int j) => if j ≠ 0 ∧ j.natAbs < 18446744073709551616 then .ok (int (i.fdiv j)) h else .bad
  | .mod, .d (.int i), .d (.int j) => if j ≠ 0 then .ok (int (i.fmod j)) h else .bad
  | .pow, .d (.int i), .d (.int j) => if 0 ≤ j ∧ j ≤ 1000000 ∧ i.natAbs < 2 ^ 64 then .ok (int (i ^ j.toNat)) h else .bad
  | .add, .d (.str i), .d (.str j) => if i.length + j.length ≤ line then .ok (.d (.str (i ++ j))) h else .bad
  | .add, .d (.tuple xs), .d (.tuple ys) => if xs.length + ys.length ≤ line then .ok (.d (.tuple (xs ++ ys))) h else .bad
  | .mul, .d (.tuple xs), .d (.int k) => if 0 ≤ k ∧ k ≤ 1000 ∧ xs.length ≤ 1000 then .ok (.d (.tuple (List.replicate k.toNat xs).flatten)) h else .bad
  | .mul, .d (.list xs), .d (.int k) => if 0 ≤ k ∧ k ≤ 1000 ∧ xs.length ≤ 1000 then .ok (.d (.list (List.replicate k.toNat xs).flatten)) h else .bad
  | .add, a, b => match getL h a, getL h b with
    | some xs, some ys => if xs.length + ys.length ≤ line then mkL false (xs ++ ys) h else .bad
    | _, _ => .bad
  | _, _, _ => .bad
def deep : Nat := 60
/-- the things may be compared by == -/
def eqOk (x y : PyData) : Bool := x.plain && (y.plain && decide (min x.depth y.depth ≤ deep))
def ltOk (x y : PyData) : Bool := PySem.W.alike x y && (decide (min x.depth y.depth ≤ deep) && match x with | .none => false | _ => true)
/-- a frozen view of a value, one level of the store resolved -/
def view (h : Hs) : PV → Option PyData
  | .d x => some x
  | .ref n => match h[n]? with
    | some (.lst xs) => (datas xs).map .list
    | _ => none
  | .scr _ => none
  | .pr _ _ => none
def keyOf : PyData → Option L2.Key
  | .int i => some (.inl i)
  | .str x => some (.inr x)
  | _ => none
def keysOf1 : List PyData → Option (List L2.Key)
  | [] => some []
  | d :: r => (keyOf d).bind fun k => (keysOf1 r).map (k :: ·)
def keysOf : PyData → Option (List L2.Key)
  | .tuple ds => keysOf1 ds
  | _ => none
mutual
/-- data as a key of a dict: no truths -/
def nkOf : PyData → Option NestedKey
  | .none => some .none
  | .int i => some (.num i)
  | .str x => some (.text x)
  | .tuple ds => (nksOf ds).map .tup
  | _ => none
def nksOf : List PyData → Option (List NestedKey)
  | [] => some []
  | d :: r => (nkOf d).bind fun k => (nksOf r).map (k :: ·)
end
def keyN : PyData → Option NestedKey
  | .tuple ds => (nksOf ds).bind fun ks => if NestedKey.depthAll ks < 8 then some (.tup ks) else none
  | _ => none
section
variable {κ : Type} [DecidableEq κ]
def valP (kvs : List (κ × PV)) (k : κ) : Option PV := (kvs.find? fun kv => decide (kv.1 = k)).map (·.2)
def putP (kvs : List (κ × PV)) (k : κ) (v : PV) : List (κ × PV) :=
  if (kvs.any fun kv => decide (kv.1 = k)) = true then kvs.map (fun kv => if kv.1 = k then (kv.1, v) else kv) else kvs ++ [(k, v)]
end
/-- what a dict holds there: the outer one is none where it is no dict, or no key of its kind -/
def dgetO : Ob → PyData → Option (Option PV)
  | .lst _, _ => none
  | .dK kvs, d => (keyOf d).map (valP kvs)
  | .dT kvs, d => (keysOf d).map (valP kvs)
  | .dTl kvs, d => (keysOf d).map (valP kvs)
  | .dN kvs, d => (keyN d).map (valP kvs)
  | .dNl kvs, d => (keyN d).map (valP kvs)
def dputO : Ob → PyData → PV → Option Ob
  | .lst _, _, _ => none
  | .dK kvs, d, v => if kvs.length < line then (keyOf d).map fun k => .dK (putP kvs k v) else none
  | .dT kvs, d, v => if kvs.length < line then (keysOf d).map fun k => .dT (putP kvs k v) else none
  | .dTl _, _, _ => none
  | .dN kvs, d, v => if kvs.length < line then (keyN d).map fun k => .dN (putP kvs k v) else none
  | .dNl _, _, _ => none
def dgetv (h : Hs) (c : PV) (d : PyData) : Option (Option PV) := match c with
  | .ref n => match h[n]? with
    | some o => dgetO o d
    | none => none
  | _ => none
def isIn1 (h : Hs) (x c : PV) : Option Bool := match x, view h c with
  | .d x, some (.list ys) => if (x.plain && (PyData.plainAll ys && decide (x.depth ≤ deep))) = true then some (ys.any fun y => PyData.eqv y x) else none
  | .d x, some (.tuple ys) => if (x.plain && (PyData.plainAll ys && decide (x.depth ≤ deep))) = true then some (ys.any fun y => PyData.eqv y x) else none
  | _, _ => none
def isIn (h : Hs) (x c : PV) : Option Bool := match x with
  | .d d => match dgetv h c d with
    | some o => some o.isSome
    | none => isIn1 h x c
  | _ => none
/-- is, of truths -/
def isB (a b : PV) : Option Bool := match b with
  | .d (.bool y) => match a with
    | .d (.bool x) => some (decide (x = y))
    | .d (.dict _) => none
    | .d _ => some false
    | _ => none
  | _ => none
def emptyD : Ob → Bool
  | .dK [] => true
  | .dT [] => true
  | .dN [] => true
  | _ => false
def dEqV (o : CO) (b : Bool) : Option Bool := match o with
  | .eq => some b
  | .ne => some (!b)
  | _ => none
/-- a dict against an empty one -/
def dEq (o : CO) (h : Hs) (a b : PV) : Option Bool := match a, b with
  | .ref n, .ref k => match h[n]?, h[k]? with
    | some (.dK xs), some ob => if emptyD ob = true then dEqV o xs.isEmpty else none
    | _, _ => none
  | _, _ => none
def cmpop (o : CO) (a b : PV) (h : Hs) : Option Bool := match o with
  | .isin => isIn h a b
  | .nin => (isIn h a b).map (!·)
  | .is => isB a b
  | .isn => (isB a b).map (!·)
  | o => match view h a, view h b with
    | some x, some y => match o with
      | .eq => if eqOk x y = true then some (PyData.eqv x y) else none
      | .ne => if eqOk x y = true then some (!PyData.eqv x y) else none
      | .lt => if ltOk x y = true then some (PySem.W.dataLt x y) else none
      | .gt => if ltOk x y = true then some (PySem.W.dataLt y x) else none
      | .le => if ltOk x y = true then some (!PySem.W.dataLt y x) else none
      | .ge => if ltOk x y = true then some (!PySem.W.dataLt x y) else none
      | _ => none
    | _, _ => dEq o h a b
def tru (h : Hs) : PV → Option Bool
  | .d .none => some false
  | .d (.bool b) => some b
  | .d (.int i) => some (i != 0)
  | .d (.str x) => if x.length ≤ line then some (x.length != 0) else none
  | .d (.list xs) => some (!xs.isEmpty)
  | .d (.tuple xs) => some (!xs.isEmpty)
  | .d (.dict _) => none
  | .ref n => match h[n]? with
    | some (.lst xs) => some (!xs.isEmpty)
    | _ => none
  | .scr _ => none
  | .pr _ _ => none
def isiT (h : Hs) (T : String) : PV → Option Bool
  | .d x => match T with
    | "int" => some x.isInt
    | "bool" => some x.isBool
    | "str" => some x.isStr
    | "tuple" => some x.isTuple
    | "list" => some x.isList
    | "dict" => some x.isDict
    | _ => none
  | _ => none
def bools : List PV → Option (List Bool)
  | [] => some []
  | .d (.bool b) :: r => (bools r).map (b :: ·)
  | _ :: _ => none
def intsOf : List PV → Option (List Int)
  | [] => some []
  | .d (.int b) :: r => (intsOf r).map (b :: ·)
  | _ :: _ => none
def leastI : Int → List Int → Int
  | m, [] => m
  | m, x :: r => leastI (min m x) r
def mostI : Int → List Int → Int
  | m, [] => m
  | m, x :: r => mostI (max m x) r
def lenOf (h : Hs) : PV → Option Nat
  | .d (.str x) => if x.length ≤ line then some x.length else none
  | .d (.tuple xs) => some xs.length
  | .scr ns => some ns.length
  | v => (getL h v).map (·.length)
def int1v : PV → Hs → R PV
  | .d (.int i), h => .ok (int i) h
  | .d (.bool b), h => .ok (int (cond b 1 0)) h
  | _, _ => .bad
def bool1v : PV → Hs → R PV
  | .d (.int i), h => .ok (bool (i != 0)) h
  | .d (.bool b), h => .ok (bool b) h
  | _, _ => .bad
def str1v : PV → Hs → R PV
  | .d (.int i), h => if i.natAbs.log2 < 1920 then .ok (.d (.str (toString i : String))) h else .bad
  | _, _ => .bad
def reprOk (x : PyData) : Bool := x.showable && (!x.hasDict && (decide (x.depth ≤ deep) && decide (x.shown.length ≤ line)))
def reprv : PV → Hs → R PV
  | .d x, h => if reprOk x = true then .ok (.d (.str x.shown)) h else .bad
  | _, _ => .bad
def max2v : PV → PV → Hs → R PV
  | .d (.int i), .d (.int j), h => .ok (int (if j > i then j else i)) h
  | _, _, _ => .bad
def min2v : PV → PV → Hs → R PV
  | .d (.int i), .d (.int j), h => .ok (int (if j < i then j else i)) h
  | _, _, _ => .bad
/-- a list's items, a tuple's -/
def itemsOf (h : Hs) : PV → Option (List PV)
  | .d (.tuple ds) => some (ds.map .d)
  | v => getL h v
def keyD : L2.Key → PyData
  | .inl i => .int i
  | .inr x => .str x
/-- a list's items, a dict's keys -/
def keysAll (h : Hs) (v : PV) : Option (List PV) := match v with
  | .ref n => match h[n]? with
    | some (.dT kvs) => some (kvs.map fun kv => .d (.tuple (kv.1.map keyD)))
    | some (.dTl kvs) => some (kvs.map fun kv => .d (.tuple (kv.1.map keyD)))
    | some (.dK kvs) => some (kvs.map fun kv => .d (keyD kv.1))
    | some (.dN kvs) => some (kvs.map fun kv => .d kv.1.data)
    | some (.dNl kvs) => some (kvs.map fun kv => .d kv.1.data)
    | _ => getL h v
  | v => getL h v
/-- what list(..) takes: a list's items, a tuple's, the keys of a dict by nested tuples -/
def lsItems (h : Hs) (v : PV) : Option (List PV) := match v with
  | .ref n => match h[n]? with
    | some (.dN kvs) => some (kvs.map fun kv => .d kv.1.data)
    | _ => itemsOf h v
  | v => itemsOf h v
/-- what min(..) takes: a list's items, the keys of a dict by ints -/
def minItems (h : Hs) (v : PV) : Option (List PV) := match v with
  | .ref n => match h[n]? with
    | some (.dK kvs) => some (kvs.map fun kv => .d (keyD kv.1))
    | _ => getL h v
  | v => getL h v
def pairB : List PyData → Bool
  | [] => true
  | x :: r => r.all (PySem.W.dataLe false id x) && pairB r
/-- merging and sorting that a kernel can see -/
def mrg {α : Type} (le : α → α → Bool) : Nat → List α → List α → List α
  | 0, xs, ys => xs ++ ys
  | _ + 1, [], ys => ys
  | _ + 1, x :: xs, [] => x :: xs
  | n + 1, x :: xs, y :: ys => match le x y with
    | true => x :: mrg le n xs (y :: ys)
    | false => y :: mrg le n (x :: xs) ys
theorem mrg_eq {α : Type} (le : α → α → Bool) : ∀ (n : Nat) (xs ys : List α), xs.length + ys.length ≤ n → mrg le n xs ys = List.merge xs ys le
  | 0, xs, ys, h => by
    have hx : xs = [] := List.length_eq_zero_iff.mp (by omega)
    have hy : ys = [] := List.length_eq_zero_iff.mp (by omega)
    subst hx hy
    simp [mrg]
  | n + 1, [], ys, h => by simp [mrg]
  | n + 1, x :: xs, [], h => by simp [mrg]
  | n + 1, x :: xs, y :: ys, h => by
    rw [List.cons_merge_cons]
    simp only [List.length_cons] at h
    unfold mrg
    cases e : le x y with
    | true => simp only [if_true]; rw [mrg_eq le n xs (y :: ys) (by simp only [List.length_cons]; omega)]
    | false => simp only [Bool.false_eq_true, if_false]; rw [mrg_eq le n (x :: xs) ys (by simp only [List.length_cons]; omega)]
def msort {α : Type} (le : α → α → Bool) : Nat → List α → List α
  | 0, xs => xs
  | _ + 1, [] => []
  | _ + 1, [a] => [a]
  | n + 1, a :: b :: xs => mrg le (xs.length + 2) (msort le n ((a :: b :: xs).take ((xs.length + 3) / 2))) (msort le n ((a :: b :: xs).drop ((xs.length + 3) / 2)))
theorem msort_eq {α : Type} (le : α → α → Bool) : ∀ (n : Nat) (xs : List α), xs.length ≤ n → msort le n xs = xs.mergeSort le
  | 0, xs, h => by
    have hx : xs = [] := List.length_eq_zero_iff.mp (by omega)
    subst hx
    simp [msort]
  | n + 1, [], h => by simp [msort]
  | n + 1, [a], h => by simp [msort]
  | n + 1, a :: b :: xs, h => by
    simp only [List.length_cons] at h
    have l1 : ((a :: b :: xs).take ((xs.length + 3) / 2)).length ≤ n := by rw [List.length_take]; simp only [List.length_cons]; omega
    have l2 : ((a :: b :: xs).drop ((xs.length + 3) / 2)).length ≤ n := by rw [List.length_drop]; simp only [List.length_cons]; omega
    unfold msort
    rw [msort_eq le n _ l1, msort_eq le n _ l2, mrg_eq le _ _ _ (by rw [List.length_mergeSort, List.length_mergeSort, ← List.length_append, List.take_append_drop]; simp)]
    rw [List.mergeSort]
    simp only [List.MergeSort.Internal.splitInTwo_fst, List.MergeSort.Internal.splitInTwo_snd]
    rfl
/-- what is sorted stays: a kernel can see it -/
def srtD (ds : List PyData) : List PyData := if pairB ds = true then ds else msort (PySem.W.dataLe false id) ds.length ds
theorem pairB_pw : ∀ {ds : List PyData}, pairB ds = true → List.Pairwise (fun x y => PySem.W.dataLe false id x y = true) ds
  | [], _ => .nil
  | x :: r, h => by
    have h : (r.all (PySem.W.dataLe false id x) && pairB r) = true := h
    rw [Bool.and_eq_true] at h
    exact .cons (fun y hy => List.all_eq_true.mp h.1 y hy) (pairB_pw h.2)
theorem srtD_eq (ds : List PyData) : srtD ds = ds.mergeSort (PySem.W.dataLe false id) := by
  unfold srtD
  split
  · rename_i h
    exact (List.mergeSort_of_pairwise (pairB_pw h)).symm
  · exact msort_eq _ _ _ (Nat.le_refl _)
def sortable (ds : List PyData) : Bool := (ds.all fun d => match d with | .tuple (_ :: _) => true | _ => false) || (ds.all fun d => match d with | .tuple _ => false | .none => false | _ => true)
def srtOk (ds : List PyData) : Bool := (ds.all fun a => ds.all fun b => PySem.W.alike a b) && (sortable ds && (decide (ds.length ≤ line) && ds.all fun d => decide (d.depth ≤ deep)))
/-- pairs of a key and a thing -/
def pairsK : List PyData → Option (List (L2.Key × PyData))
  | [] => some []
  | .tuple [k, v] :: r => (keyOf k).bind fun q => (pairsK r).map ((q, v) :: ·)
  | _ :: _ => none
def mergeP {κ : Type} [DecidableEq κ] (kvs more : List (κ × PV)) : List (κ × PV) := more.foldl (fun acc kv => putP acc kv.1 kv.2) kvs
def dict1v : PV → Hs → R PV
  | .d (.list ds), h => match pairsK ds with
    | some kvs => .ok (.ref h.length) (h ++ [.dK (mergeP [] (kvs.map fun kv => (kv.1, .d kv.2)))])
    | none => .bad
  | _, _ => .bad
def bi1 (b : Bi) (v : PV) (h : Hs) : R PV := match b with
  | .all => R.of (((getL h v).bind bools).map fun bs => bool (bs.all id)) h
  | .any => R.of (((getL h v).bind bools).map fun bs => bool (bs.any id)) h
  | .len => R.of ((lenOf h v).map fun n : Nat => int n) h
  | .int1 => int1v v h
  | .bool1 => bool1v v h
  | .str1 => str1v v h
  | .repr => reprv v h
  | .max1 => match (getL h v).bind intsOf with
    | some (x :: r) => .ok (int (mostI x r)) h
    | _ => .bad
  | .min1 => match (minItems h v).bind intsOf with
    | some (x :: r) => .ok (int (leastI x r)) h
    | _ => .bad
  | .sum => R.of (((getL h v).bind intsOf).map fun ns => int ns.sum) h
  | .tuple1 => match (itemsOf h v).bind datas with
    | some ds => if ds.length ≤ line then .ok (.d (.tuple ds)) h else .bad
    | none => .bad
  | .list1 mt => match lsItems h v with
    | some xs => if xs.length ≤ line then mkL mt xs h else .bad
    | none => .bad
  | .srt1 mt => match (keysAll h v).bind datas with
    | some ds => if srtOk ds = true then mkL mt ((srtD ds).map .d) h else .bad
    | none => .bad
  | .dict1 => dict1v v h
  | .max2 => .bad
  | .min2 => .bad
def bi2 (b : Bi) (v w : PV) (h : Hs) : R PV := match b with
  | .max2 => max2v v w h
  | .min2 => min2v v w h
  | _ => .bad
def biop (b : Bi) (vs : List PV) (h : Hs) : R PV := match vs with
  | [v] => bi1 b v h
  | [v, w] => bi2 b v w h
  | _ => .bad
def getIx (h : Hs) (v : PV) (i : Int) : Option PV := match v with
  | .d (.tuple ds) => (L2.atI ds i).map .d
  | .d (.str z) => if z.length ≤ line then (L2.atI z.cps.toList i).map fun c => .d (.str ⟨#[c]⟩) else none
  | .scr ns => (L2.atI ns i).map int
  | v => (getL h v).bind fun xs => L2.atI xs i
def slice (v : PV) (lo hi : Option Int) (h : Hs) : R PV := match v with
  | .d (.tuple ds) => .ok (.d (.tuple (cut ds lo hi))) h
  | .d (.str z) => if z.length ≤ line then .ok (.d (.str ⟨(cut z.cps.toList lo hi).toArray⟩)) h else .bad
  | v => match getL h v with
    | some xs => mkL false (cut xs lo hi) h
    | none => .bad
def asg : Tg → PV → Sg → Option Sg
  | .nm i, v, σ => some (σ.set i (some v))
  | .nil, .d (.tuple []), σ => some σ
  | .nil, _, _ => none
  | .cons a b, v, σ => match v with
    | .d (.tuple (x :: r)) => (asg a (.d x) σ).bind (asg b (.d (.tuple r)))
    | .pr x n => match b with
      | .cons b' .nil => (asg a (.d x) σ).bind (asg b' (.ref n))
      | _ => none
    | _ => none
/-- the chained targets, one by one -/
def asgs : Tg → List PV → Sg → Option Sg
  | .nil, [], σ => some σ
  | .cons a b, x :: r, σ => (asg a x σ).bind (asgs b r)
  | _, _, _ => none
inductive It where
  | fx (xs : List PV)
  | lv (n : Nat)
  /-- the keys of a locked dict -/
  | ld (n : Nat)
def pairs : List PyData → List PyData → List PV
  | x :: xs, y :: ys => .d (.tuple [x, y]) :: pairs xs ys
  | _, _ => []
def enums : Nat → List PyData → List PV
  | _, [] => []
  | n, x :: xs => .d (.tuple [.int n, x]) :: enums (n + 1) xs
def seqD : PV → Option (List PyData)
  | .d (.list ds) => some ds
  | .d (.tuple ds) => some ds
  | _ => none
def rngL (lo : Int) : Nat → List PV
  | 0 => []
  | n + 1 => int lo :: rngL (lo + 1) n
def big : Nat := 1000000000000
/-- all items of what is walked, as it stands -/
def itAll (h : Hs) : It → Option (List PV)
  | .fx xs => some xs
  | .lv n => getL h (.ref n)
  | .ld n => match h[n]? with
    | some (.dTl kvs) => some (kvs.map fun kv => .d (.tuple (kv.1.map keyD)))
    | _ => none
/-- comprehension over fixed items -/
def compF (st : PV → Hs → R (Option PV)) : List PV → Hs → R (List PV)
  | [], h => .ok [] h
  | x :: xs, h => (st x h).bind fun o h1 => (compF st xs h1).bind fun ys h2 => .ok (match o with | some y => y :: ys | none => ys) h2
/-- comprehension over a list of the store, as it stands at each turn -/
def compV (st : PV → Hs → R (Option PV)) (n : Nat) : Nat → Nat → Hs → R (List PV)
  | 0, _, _ => .bad
  | f + 1, i, h => match getL h (.ref n) with
    | none => .bad
    | some xs => match xs[i]? with
      | none => .ok [] h
      | some x => (st x h).bind fun o h1 => (compV st n f (i + 1) h1).bind fun ys h2 => .ok (match o with | some y => y :: ys | none => ys) h2
/-- over the keys of a locked dict -/
def compL (st : PV → Hs → R (Option PV)) (n : Nat) : Nat → Nat → Hs → R (List PV)
  | 0, _, _ => .bad
  | f + 1, i, h => match h[n]? with
    | some (.dTl kvs) => match kvs[i]? with
      | none => .ok [] h
      | some kv => (st (.d (.tuple (kv.1.map keyD))) h).bind fun o h1 => (compL st n f (i + 1) h1).bind fun ys h2 => .ok (match o with | some y => y :: ys | none => ys) h2
    | _ => .bad
def lockAt (h : Hs) : PV → Option (Nat × Hs)
  | .ref n => match h[n]? with
    | some (.dT kvs) => some (n, h.set n (.dTl kvs))
    | some (.dN kvs) => some (n, h.set n (.dNl kvs))
    | _ => none
  | _ => none
def unlk (n : Nat) (h : Hs) : Option Hs := match h[n]? with
  | some (.dTl kvs) => some (h.set n (.dT kvs))
  | some (.dNl kvs) => some (h.set n (.dN kvs))
  | _ => none
def noExc {α : Type} : R α → R α
  | .exc _ _ => .bad
  | r => r
inductive Fl where
  | nx
  | rt (v : PV)
  | bk
  | ct
/-- a for's turns -/
def forF (tg : Tg) (bd : Sg → Hs → R (Fl × Sg)) : List PV → Sg → Hs → R (Fl × Sg)
  | [], σ, h => .ok (.nx, σ) h
  | x :: xs, σ, h => match asg tg x σ with
    | none => .bad
    | some σ1 => (bd σ1 h).bind fun p h2 => match p.1 with
      | .nx => forF tg bd xs p.2 h2
      | .ct => forF tg bd xs p.2 h2
      | .bk => .ok (.nx, p.2) h2
      | .rt v => .ok (.rt v, p.2) h2
def forV (tg : Tg) (bd : Sg → Hs → R (Fl × Sg)) (n : Nat) : Nat → Nat → Sg → Hs → R (Fl × Sg)
  | 0, _, _, _ => .bad
  | f + 1, i, σ, h => match getL h (.ref n) with
    | none => .bad
    | some xs => match xs[i]? with
      | none => .ok (.nx, σ) h
      | some x => match asg tg x σ with
        | none => .bad
        | some σ1 => (bd σ1 h).bind fun p h2 => match p.1 with
          | .nx => forV tg bd n f (i + 1) p.2 h2
          | .ct => forV tg bd n f (i + 1) p.2 h2
          | .bk => .ok (.nx, p.2) h2
          | .rt v => .ok (.rt v, p.2) h2
def forL (tg : Tg) (bd : Sg → Hs → R (Fl × Sg)) (n : Nat) : Nat → Nat → Sg → Hs → R (Fl × Sg)
  | 0, _, _, _ => .bad
  | f + 1, i, σ, h => match h[n]? with
    | some (.dTl kvs) => match kvs[i]? with
      | none => .ok (.nx, σ) h
      | some kv => match asg tg (.d (.tuple (kv.1.map keyD))) σ with
        | none => .bad
        | some σ1 => (bd σ1 h).bind fun p h2 => match p.1 with
          | .nx => forL tg bd n f (i + 1) p.2 h2
          | .ct => forL tg bd n f (i + 1) p.2 h2
          | .bk => .ok (.nx, p.2) h2
          | .rt v => .ok (.rt v, p.2) h2
    | _ => .bad
def whlF (c : Sg → Hs → R Bool) (bd : Sg → Hs → R (Fl × Sg)) : Nat → Sg → Hs → R (Fl × Sg)
  | 0, _, _ => .bad
  | f + 1, σ, h => (c σ h).bind fun b h1 => match b with
    | false => .ok (.nx, σ) h1
    | true => (bd σ h1).bind fun p h2 => match p.1 with
      | .nx => whlF c bd f p.2 h2
      | .ct => whlF c bd f p.2 h2
      | .bk => .ok (.nx, p.2) h2
      | .rt v => .ok (.rt v, p.2) h2
def wipe (σ : Sg) : List Nat → Sg
  | [] => σ
  | v :: vs => (wipe σ vs).set v none
def optI (v : PV) : Option (Option Int) := match v with
  | .d (.int i) => some (some i)
  | _ => none

/-! ### evaluation -/
/-- what an expression denotes: as a value, as arguments, as a test, as what is walked, as a slice's part -/
structure Dn where
  e : Sg → Hs → R PV
  a : Sg → Hs → R (List PV)
  t : Sg → Hs → R Bool
  i : Sg → Hs → R It
  o : Sg → Hs → R (Option Int)
def tOf (e : Sg → Hs → R PV) : Sg → Hs → R Bool := fun σ h => (e σ h).bind fun x h1 => R.of (tru h1 x) h1
def oOf (e : Sg → Hs → R PV) : Sg → Hs → R (Option Int) := fun σ h => (e σ h).bind fun x h1 => R.of (optI x) h1
/-- a value's -/
def Dn.val (e : Sg → Hs → R PV) : Dn := ⟨e, fun _ _ => .bad, tOf e, fun _ _ => .bad, oOf e⟩
def Dn.arg (a : Sg → Hs → R (List PV)) : Dn := ⟨fun _ _ => .bad, a, fun _ _ => .bad, fun _ _ => .bad, fun _ _ => .bad⟩
def Dn.itr (i : Sg → Hs → R It) : Dn := ⟨fun _ _ => .bad, fun _ _ => .bad, fun _ _ => .bad, i, fun _ _ => .bad⟩
def Dn.stk : Dn := ⟨fun _ _ => .bad, fun _ _ => .bad, fun _ _ => .bad, fun _ _ => .bad, fun _ _ => .bad⟩
def Dn.non : Dn := ⟨fun _ _ => .bad, fun _ _ => .bad, fun _ h => .ok true h, fun _ _ => .bad, fun _ h => .ok none h⟩
def compSt (own : List Nat) (tg : Tg) (c : Sg → Hs → R Bool) (el : Sg → Hs → R PV) (σ : Sg) (x : PV) (h : Hs) : R (Option PV) := match asg tg x (wipe σ own) with
  | none => .bad
  | some σ1 => (c σ1 h).bind fun b h3 => match b with
    | true => (el σ1 h3).bind fun y h4 => .ok (some y) h4
    | false => .ok none h3
def compGo (st : PV → Hs → R (Option PV)) (J : It) (h : Hs) : R (List PV) := noExc (match J with
  | .fx xs => compF st xs h
  | .lv n => compV st n big 0 h
  | .ld n => compL st n big 0 h)
def negv : PV → Hs → R PV
  | .d (.int i), h => .ok (int (-i)) h
  | _, _ => .bad
def isNonV : PV → Bool
  | .d .none => true
  | _ => false
def isBoolv (v : Bool) (x : PV) (h : Hs) : R PV := match x with
  | .d (.bool c) => .ok (bool (decide (c = v))) h
  | _ => .bad
def tupOf (vs : List PV) (h : Hs) : R PV := match datas vs with
  | some ds => if ds.length ≤ line then .ok (.d (.tuple ds)) h else .bad
  | none => .bad
def lstOf (mt : Bool) (vs : List PV) (h : Hs) : R PV := if vs.length ≤ line then mkL mt vs h else .bad
def ixv1 (x y : PV) (h : Hs) : R PV := match y with
  | .d (.int j) => R.of (getIx h x j) h
  | _ => .bad
def ixv (x y : PV) (h : Hs) : R PV := match y with
  | .d d => match dgetv h x d with
    | some o => R.of o h
    | none => ixv1 x y h
  | _ => .bad
def isDct (h : Hs) : PV → Bool
  | .ref n => match h[n]? with
    | some (.dK _) => true
    | some (.dT _) => true
    | some (.dTl _) => true
    | some (.dN _) => true
    | some (.dNl _) => true
    | _ => false
  | _ => false
def isDK (h : Hs) : PV → Bool
  | .ref n => match h[n]? with
    | some (.dK _) => true
    | _ => false
  | _ => false
def dget2v (x y z : PV) (h : Hs) : R PV := match y with
  | .d d => match dgetv h x d with
    | some (some v) => .ok v h
    | some none => .ok z h
    | none => .bad
  | _ => .bad
def lstAt (h : Hs) : PV → Bool
  | .ref n => match h[n]? with
    | some (.lst _) => true
    | _ => false
  | _ => false
def setv (k : Nat) (x y z : PV) (h : Hs) : R Unit := match x, y with
  | .ref n, .d d => match h[n]? with
    | some (.lst xs) => match d with
      | .int j => match L2.ixN xs.length j with
        | some m => if storeOk k n z = true then .ok () (h.set n (.lst (xs.set m z))) else .bad
        | none => .bad
      | _ => .bad
    | some o => match dputO o d z with
      | some o' => if storeOk k n z = true then .ok () (h.set n o') else .bad
      | none => .bad
    | none => .bad
  | _, _ => .bad
def revv (x : PV) (h : Hs) : R PV := match getL h x with
  | some xs => mkL false xs.reverse h
  | none => .bad
def appv (k : Nat) (l y : PV) (h : Hs) : R PV := match l with
  | .ref n => match h[n]? with
    | some (.lst xs) => if storeOk k n y = true ∧ xs.length < line then .ok (.d .none) (h.set n (.lst (xs ++ [y]))) else .bad
    | _ => .bad
  | _ => .bad
def extv (k : Nat) (l y : PV) (h : Hs) : R PV := match l with
  | .ref n => match h[n]?, getL h y with
    | some (.lst xs), some ys => if (ys.all (storeOk k n)) = true ∧ xs.length + ys.length ≤ line then .ok (.d .none) (h.set n (.lst (xs ++ ys))) else .bad
    | _, _ => .bad
  | _ => .bad
def popv (l : PV) (h : Hs) : R PV := match l with
  | .ref n => match h[n]? with
    | some (.lst xs) => match xs[xs.length - 1]? with
      | some y => .ok y (h.set n (.lst xs.dropLast))
      | none => .bad
    | _ => .bad
  | _ => .bad
def popAtv (l y : PV) (h : Hs) : R PV := match l, y with
  | .ref n, .d (.int j) => match h[n]? with
    | some (.lst xs) => match L2.ixN xs.length j with
      | some m => match xs[m]? with
        | some v => .ok v (h.set n (.lst (xs.eraseIdx m)))
        | none => .bad
      | none => .bad
    | _ => .bad
  | _, _ => .bad
def rngD (lo : Int) : Nat → List PyData
  | 0 => []
  | n + 1 => .int lo :: rngD (lo + 1) n
/-- list(range(..)), tuple(range(..)) -/
def rngv (tp mt : Bool) (u v : PV) (h : Hs) : R PV := match u, v with
  | .d (.int i), .d (.int j) => if -line ≤ i ∧ i ≤ line ∧ -line ≤ j ∧ j ≤ line ∧ (j - i).toNat ≤ line then (match tp with
    | true => .ok (.d (.tuple (rngD i (j - i).toNat))) h
    | false => mkL mt ((rngD i (j - i).toNat).map .d) h) else .bad
  | _, _ => .bad
def zipD (xs ys : List PyData) : List PyData := (xs.zip ys).map fun p => .tuple [p.1, p.2]
/-- list(zip(..)) of two tuples -/
def lzv (u v : PV) (h : Hs) : R PV := match u, v with
  | .d (.tuple xs), .d (.tuple ys) => if (xs.zip ys).length ≤ line then .ok (.d (.list (zipD xs ys))) h else .bad
  | _, _ => .bad
def isFz : PV → Bool
  | .d (.list _) => true
  | _ => false
/-- the first place of an equal one -/
def idxv (l y : PV) (h : Hs) : R PV := match l, y with
  | .d (.list ds), .d d => if (SeqAt.shaped (.list ds) && SeqAt.shaped d) = true then R.of ((ds.findIdx? fun z => PyData.eqv z d).map fun j : Nat => int j) h else .bad
  | _, _ => .bad
/-- how many are equal -/
def cntv (l y : PV) (h : Hs) : R PV := match l, y with
  | .d (.list ds), .d d => if (PyData.plainAll ds && (d.plain && decide (d.depth ≤ deep))) = true then .ok (int (ds.countP fun z => PyData.eqv z d : Nat)) h else .bad
  | _, _ => .bad
def isV : PV → Bool
  | .d _ => true
  | .ref _ => true
  | _ => false
def d1v (x y : PV) (h : Hs) : R PV := match x with
  | .d d => if isV y = true then (match keyOf d with
    | some q => .ok (.ref h.length) (h ++ [.dK [(q, y)]])
    | none => match keyN d with
      | some q => .ok (.ref h.length) (h ++ [.dN [(q, y)]])
      | none => .bad) else .bad
  | _ => .bad
def dpopv (x y : PV) (h : Hs) : R PV := match x, y with
  | .ref n, .d d => match h[n]? with
    | some (.dK kvs) => match keyOf d with
      | some q => match valP kvs q with
        | some v => .ok v (h.set n (.dK (kvs.filter fun kv => decide (kv.1 ≠ q))))
        | none => .bad
      | none => .bad
    | _ => .bad
  | _, _ => .bad
def lckAt (h : Hs) (n : Nat) : Bool := match h[n]? with
  | some (.dTl _) => true
  | _ => false
def itVal (v : PV) (h : Hs) : R It := match v with
  | .d (.list ds) => .ok (.fx (ds.map .d)) h
  | .d (.tuple ds) => .ok (.fx (ds.map .d)) h
  | .scr ns => .ok (.fx (ns.map int)) h
  | .ref n => if lstAt h (.ref n) = true then .ok (.lv n) h else if lckAt h n = true then .ok (.ld n) h else match h[n]? with
    | some (.dNl kvs) => .ok (.fx (kvs.map fun kv => .d kv.1.data)) h
    | _ => .bad
  | _ => .bad
/-- a locked dict's entries -/
def rowsO : Ob → Option (List (PyData × PV))
  | .dTl kvs => some (kvs.map fun kv => (.tuple (kv.1.map keyD), kv.2))
  | .dNl kvs => some (kvs.map fun kv => (kv.1.data, kv.2))
  | _ => none
def rowV : Nat → PyData × PV → Option PV
  | 0, r => some (.d r.1)
  | 1, r => some r.2
  | _, (k, .d v) => some (.d (.tuple [k, v]))
  | _, (k, .ref n) => some (.pr k n)
  | _, _ => none
def rowsV (kd : Nat) : List (PyData × PV) → Option (List PV)
  | [] => some []
  | r :: rs => (rowV kd r).bind fun v => (rowsV kd rs).map (v :: ·)
def itDk (kd : Nat) (v : PV) (h : Hs) : R It := match v with
  | .ref n => match (h[n]?).bind rowsO with
    | some rs => R.of ((rowsV kd rs).map It.fx) h
    | none => .bad
  | _ => .bad
def itR1 (v : PV) (h : Hs) : R It := match v with
  | .d (.int j) => if -line ≤ j ∧ j ≤ line then .ok (.fx (rngL 0 j.toNat)) h else .bad
  | _ => .bad
def itR2 (u v : PV) (h : Hs) : R It := match u, v with
  | .d (.int i), .d (.int j) => if -line ≤ i ∧ i ≤ line ∧ -line ≤ j ∧ j ≤ line then .ok (.fx (rngL i (j - i).toNat)) h else .bad
  | _, _ => .bad
def itZip (u v : PV) (h : Hs) : R It := match u, v with
  | .d (.list xs), .d (.list ys) => .ok (.fx (pairs xs ys)) h
  | .d (.tuple xs), .d (.tuple ys) => .ok (.fx (pairs xs ys)) h
  | _, _ => .bad
def itEnu (u : PV) (h : Hs) : R It := match u with
  | .d (.list xs) => .ok (.fx (enums 0 xs)) h
  | .d (.tuple xs) => .ok (.fx (enums 0 xs)) h
  | _ => .bad
def pairv (x y : PV) (h : Hs) : R PV := match x, y with
  | .d k, .ref n => .ok (.pr k n) h
  | .d k, .d v => .ok (.d (.tuple [k, v])) h
  | _, _ => .bad
def pairE (A B : Sg → Hs → R PV) : Sg → Hs → R PV := fun σ h => (A σ h).bind fun x h1 => (B σ h1).bind fun y h2 => pairv x y h2
def prsT : List PV → Option (List (List L2.Key × PV))
  | [] => some []
  | .pr x n :: r => (keysOf x).bind fun q => (prsT r).map ((q, .ref n) :: ·)
  | .d (.tuple [x, v]) :: r => (keysOf x).bind fun q => (prsT r).map ((q, .d v) :: ·)
  | _ :: _ => none
def dictT (xs : List PV) (h : Hs) : R PV := if xs.length ≤ line then (match prsT xs with
  | some kvs => .ok (.ref h.length) (h ++ [.dT (mergeP [] kvs)])
  | none => .bad) else .bad
def dsetdv (k : Nat) (l x y : PV) (h : Hs) : R PV := match l, x with
  | .ref n, .d d => match h[n]? with
    | some o => match dputO o d y with
      | some o' => match dgetO o d with
        | some (some v) => .ok v h
        | some none => if storeOk k n y = true then .ok y (h.set n o') else .bad
        | none => .bad
      | none => .bad
    | none => .bad
  | _, _ => .bad
/-- pairs of a nested key and data -/
def pairsN : List PyData → Option (List (NestedKey × PyData))
  | [] => some []
  | .tuple [k, v] :: r => (keyN k).bind fun q => (pairsN r).map ((q, v) :: ·)
  | _ :: _ => none
def dupdv (l x : PV) (h : Hs) : R PV := match l, x with
  | .ref n, .d (.list ds) => match h[n]?, pairsN ds with
    | some (.dN kvs), some more => if kvs.length + more.length ≤ line then .ok (.d .none) (h.set n (.dN (mergeP kvs (more.map fun kv => (kv.1, .d kv.2))))) else .bad
    | _, _ => .bad
  | _, _ => .bad
/-- the call's objects are thrown away -/
def callEv (cf : List PV → Hs → R PV) (xs : List PV) (h : Hs) : R PV := match datas xs with
  | some _ => match cf xs [] with
    | .ok (.d y) _ => .ok (.d y) h
    | _ => .bad
  | none => .bad
def permO (xs : List PV) : List Nat → Option (List PV)
  | [] => some []
  | i :: r => (xs[i]?).bind fun x => (permO xs r).map (x :: ·)
def lkE (D A : Sg → Hs → R PV) (σ : Sg) (h : Hs) : R PV := match D σ h with
  | .ok v _ => match lockAt h v with
    | some (n, hl) => (noExc (A σ hl)).bind fun y h1 => match unlk n h1 with
      | some h2 => .ok y h2
      | none => .bad
    | none => .bad
  | _ => .bad
def lkS (D : Sg → Hs → R PV) (A : Sg → Hs → R (Fl × Sg)) (σ : Sg) (h : Hs) : R (Fl × Sg) := match D σ h with
  | .ok v _ => match lockAt h v with
    | some (n, hl) => (noExc (A σ hl)).bind fun p h1 => match unlk n h1 with
      | some h2 => .ok p h2
      | none => .bad
    | none => .bad
  | _ => .bad
def callP (cf : List PV → Hs → R PV) (ρ : List Nat) (xs : List PV) (h : Hs) : R PV := match permO xs ρ with
  | some ys => cf ys h
  | none => .bad
section
variable (cf : Str → List PV → Hs → R PV) (k : Nat)
def one (A : Dn) (f : PV → Hs → R PV) : Dn := .val fun σ h => (A.e σ h).bind f
def two (A B : Dn) (f : PV → PV → Hs → R PV) : Dn := .val fun σ h => (A.e σ h).bind fun x h1 => (B.e σ h1).bind fun y h2 => f x y h2
def d1E (A B : Dn) : Sg → Hs → R PV := fun σ h => (noExc ((A.e σ h).bind fun x h1 => (B.e σ h1).bind fun y h2 => .ok (x, y) h2)).bind fun z h3 => d1v z.1 z.2 h3
def args (A : Dn) (f : List PV → Hs → R PV) : Dn := .val fun σ h => (A.a σ h).bind f
def den : E → Dn
  | .loc i => .val fun σ h => match σ[i]? with
    | some (some v) => .ok v h
    | _ => .bad
  | .lit x => .val fun _ h => .ok (.d x) h
  | .bin o a b => two (den a) (den b) (binop o)
  | .neg a => one (den a) negv
  | .not a => .val fun σ h => (tOf (den a).e σ h).bind fun b h2 => .ok (bool (!b)) h2
  | .and a b => .val fun σ h => ((den a).e σ h).bind fun x h1 => (R.of (tru h1 x) h1).bind fun c h2 => match c with
    | true => (den b).e σ h2
    | false => .ok x h2
  | .or a b => .val fun σ h => ((den a).e σ h).bind fun x h1 => (R.of (tru h1 x) h1).bind fun c h2 => match c with
    | true => .ok x h2
    | false => (den b).e σ h2
  | .cmp o a b => two (den a) (den b) fun x y h => R.of ((cmpop o x y h).map bool) h
  | .chain o p a b c => .val fun σ h => ((den a).e σ h).bind fun x h1 => ((den b).e σ h1).bind fun y h2 => (R.of (cmpop o x y h2) h2).bind fun t h3 => match t with
    | true => ((den c).e σ h3).bind fun z h4 => R.of ((cmpop p y z h4).map bool) h4
    | false => .ok (bool false) h3
  | .isNon a => one (den a) fun x h => .ok (bool (isNonV x)) h
  | .notNon a => one (den a) fun x h => .ok (bool (!isNonV x)) h
  | .isBool v a => one (den a) (isBoolv v)
  | .ite c a b => .val fun σ h => (tOf (den c).e σ h).bind fun t h1 => match t with
    | true => (den a).e σ h1
    | false => (den b).e σ h1
  | .tup as => args (den as) tupOf
  | .lst mt as => args (den as) (lstOf mt)
  | .isi a T => one (den a) fun x h => R.of ((isiT h T x).map bool) h
  | .call f as => args (den as) (cf f)
  | .callp f ρ as => args (den as) (callP (cf f) ρ)
  | .lk d e => .val (lkE (den d).e (den e).e)
  | .bi b as => args (den as) (biop b)
  | .ix a i => two (den a) (den i) ixv
  | .sl a lo hi => .val fun σ h => ((den a).e σ h).bind fun x h1 => ((den lo).o σ h1).bind fun l h2 => ((den hi).o σ h2).bind fun u h3 => slice x l u h3
  | .rev a => one (den a) revv
  | .app o x => .val fun σ h => ((den o).e σ h).bind fun l h1 => if lstAt h1 l = true then ((den x).e σ h1).bind fun y h2 => appv k l y h2 else .bad
  | .ext o x => .val fun σ h => ((den o).e σ h).bind fun l h1 => if lstAt h1 l = true then ((den x).e σ h1).bind fun y h2 => extv k l y h2 else .bad
  | .pop o => one (den o) popv
  | .popAt o i => .val fun σ h => ((den o).e σ h).bind fun l h1 => if lstAt h1 l = true then ((den i).e σ h1).bind fun y h2 => popAtv l y h2 else .bad
  | .cnt o x => .val fun σ h => ((den o).e σ h).bind fun l h1 => if isFz l = true then ((den x).e σ h1).bind fun y h2 => cntv l y h2 else .bad
  | .d1 a b => .val (d1E (den a) (den b))
  | .dpop o x => .val fun σ h => ((den o).e σ h).bind fun l h1 => if isDK h1 l = true then ((den x).e σ h1).bind fun u h2 => dpopv l u h2 else .bad
  | .idx o x => .val fun σ h => ((den o).e σ h).bind fun l h1 => if isFz l = true then ((den x).e σ h1).bind fun y h2 => idxv l y h2 else .bad
  | .lsR tp mt a b => two (den a) (den b) (rngv tp mt)
  | .lz a b => two (den a) (den b) lzv
  | .dnew t => .val fun _ h => .ok (.ref h.length) (h ++ [cond t (.dT []) (.dK [])])
  | .dget o x y => .val fun σ h => ((den o).e σ h).bind fun l h1 => if isDct h1 l = true then ((den x).e σ h1).bind fun u h2 => ((den y).e σ h2).bind fun w h3 => dget2v l u w h3 else .bad
  | .dnN => .val fun _ h => .ok (.ref h.length) (h ++ [.dN []])
  | .iDk kd e => .itr fun σ h => ((den e).e σ h).bind (itDk kd)
  | .dsetd o x y => .val fun σ h => ((den o).e σ h).bind fun l h1 => if isDct h1 l = true then ((den x).e σ h1).bind fun u h2 => ((den y).e σ h2).bind fun w h3 => dsetdv k l u w h3 else .bad
  | .dupd o x => .val fun σ h => ((den o).e σ h).bind fun l h1 => if isDct h1 l = true then ((den x).e σ h1).bind fun u h2 => dupdv l u h2 else .bad
  | .callE f as => args (den as) (callEv (cf f))
  | .stk => .stk
  | .comp mt own tg it cnd elt => .val fun σ h => ((den it).i σ h).bind fun J h1 => (compGo (compSt own tg (den cnd).t (den elt).e σ) J h1).bind (lstOf mt)
  | .dcp own tg it cnd k v => .val fun σ h => ((den it).i σ h).bind fun J h1 => (compGo (compSt own tg (den cnd).t (pairE (den k).e (den v).e) σ) J h1).bind dictT
  | .nil => .arg fun _ h => .ok [] h
  | .cons a b => .arg fun σ h => ((den a).e σ h).bind fun x h1 => ((den b).a σ h1).bind fun xs h2 => .ok (x :: xs) h2
  | .nop => .non
  | .prt a => ⟨fun _ _ => .bad, fun _ _ => .bad, fun _ _ => .bad, fun _ _ => .bad, oOf (den a).e⟩
  | .cnd a => ⟨fun _ _ => .bad, fun _ _ => .bad, tOf (den a).e, fun _ _ => .bad, fun _ _ => .bad⟩
  | .iVal e => .itr fun σ h => ((den e).e σ h).bind itVal
  | .iR1 a => .itr fun σ h => ((den a).e σ h).bind itR1
  | .iR2 a b => .itr fun σ h => ((den a).e σ h).bind fun u h1 => ((den b).e σ h1).bind fun v h2 => itR2 u v h2
  | .iZip a b => .itr fun σ h => ((den a).e σ h).bind fun u h1 => ((den b).e σ h1).bind fun v h2 => itZip u v h2
  | .iEnu a => .itr fun σ h => ((den a).e σ h).bind itEnu
abbrev evE (e : E) : Sg → Hs → R PV := (den cf k e).e
abbrev evT (e : E) : Sg → Hs → R Bool := tOf (den cf k e).e
abbrev evI (e : E) : Sg → Hs → R It := (den cf k e).i
/-- name += whole number -/
def augv (x y : PV) (h : Hs) : R PV := match x, y with
  | .d (.int i), .d (.int j) => .ok (Iw.int (i + j)) h
  | _, _ => .bad
def setAll (σ : Sg) : List Nat → List PV → Option Sg
  | [], [] => some σ
  | i :: is, v :: vs => setAll (σ.set i (some v)) is vs
  | _, _ => none
def evS : S → Sg → Hs → R (Fl × Sg)
  | .skip, σ, h => .ok (.nx, σ) h
  | .seq a b, σ, h => (evS a σ h).bind fun p h1 => match p.1 with
    | .nx => evS b p.2 h1
    | f => .ok (f, p.2) h1
  | .asg t e, σ, h => (evE cf k e σ h).bind fun v h1 => R.of ((asg t v σ).map fun σ1 => (.nx, σ1)) h1
  | .parT t as, σ, h => ((den cf k as).a σ h).bind fun vs h1 => R.of ((asgs t vs σ).map fun σ1 => (.nx, σ1)) h1
  | .par is as, σ, h => ((den cf k as).a σ h).bind fun vs h1 => R.of ((setAll σ is vs).map fun σ1 => (.nx, σ1)) h1
  | .sub o i v, σ, h => (evE cf k v σ h).bind fun z h1 => (evE cf k o σ h1).bind fun x h2 => (evE cf k i σ h2).bind fun y h3 => (setv k x y z h3).bind fun _ h4 => .ok (.nx, σ) h4
  | .aug i e, σ, h => match σ[i]? with
    | some (some x) => (evE cf k e σ h).bind fun y h1 => (augv x y h1).bind fun z h2 => .ok (.nx, σ.set i (some z)) h2
    | _ => .bad
  | .ex e, σ, h => (evE cf k e σ h).bind fun _ h1 => .ok (.nx, σ) h1
  | .for_ t it b, σ, h => (evI cf k it σ h).bind fun J h1 => match J with
    | .fx xs => forF t (evS b) xs σ h1
    | .lv n => forV t (evS b) n big 0 σ h1
    | .ld n => forL t (evS b) n big 0 σ h1
  | .lkS d s, σ, h => lkS (evE cf k d) (evS s) σ h
  | .whl c b, σ, h => whlF (evT cf k c) (evS b) big σ h
  | .ife c a b, σ, h => (evT cf k c σ h).bind fun t h1 => match t with
    | true => evS a σ h1
    | false => evS b σ h1
  | .ret e, σ, h => (evE cf k e σ h).bind fun v h1 => .ok (.rt v, σ) h1
  | .stk, _, _ => .bad
  | .brk, σ, h => .ok (.bk, σ) h
  | .cont, σ, h => .ok (.ct, σ) h
end
/-- what is handed back of objects made in the call is frozen -/
def thaw (h : Hs) (k : Nat) : Nat → PV → Option PyData
  | _, .d x => some x
  | 0, _ => none
  | f + 1, .ref n => if n < k then none else match h[n]? with
    | some (.lst xs) => ((xs.map (thaw h k f)).foldr (fun o acc => o.bind fun x => acc.map (x :: ·)) (some [])).map .list
    | _ => none
  | _ + 1, .scr _ => none
  | _ + 1, .pr _ _ => none
def handed (h : Hs) (k : Nat) : PV → Option PV
  | .d x => some (.d x)
  | .scr ns => some (.scr ns)
  | .pr _ _ => none
  | .ref n => if n < k then some (.ref n) else (thaw h k 8 (.ref n)).map .d
/-- a list of data or of older things -/
def keepV (k : Nat) : PV → Bool
  | .d _ => true
  | .ref n => decide (n < k)
  | .scr _ => false
  | .pr _ _ => false
def keepOb (k : Nat) : Ob → Bool
  | .lst xs => xs.all (keepV k)
  | .dK kvs => kvs.all fun kv => keepV k kv.2
  | .dT kvs => kvs.all fun kv => keepV k kv.2
  | .dTl _ => false
  | .dN kvs => kvs.all fun kv => keepV k kv.2
  | .dNl _ => false
def handK (h : Hs) (k : Nat) : PV → R PV
  | .ref n => if n < k then .bad else match h[n]? with
    | some o => if keepOb k o = true then .ok (.ref k) (h.take k ++ [o]) else .bad
    | none => .bad
  | _ => .bad
def fin (kp : Bool) (k : Nat) (r : R (Fl × Sg)) : R PV := match r with
  | .ok (.rt v, _) h => match kp with
    | true => handK h k v
    | false => R.of (handed h k v) (h.take k)
  | .ok (.nx, _) h => match kp with
    | true => .bad
    | false => .ok (.d .none) (h.take k)
  | .ok _ _ => .bad
  | .exc _ _ => .bad
  | .bad => .bad
def callN (P : Pg) : Nat → Str → List PV → Hs → R PV
  | 0, _, _, _ => .bad
  | n + 1, f, vs, h => match P.lookup f with
    | none => .bad
    | some fd => if vs.length = fd.np then fin fd.kp h.length (evS (callN P n) h.length fd.body (vs.map some ++ List.replicate (fd.ns - vs.length) none) h) else .bad
end Iw
end

section
set_option Elab.async false
set_option linter.all false
set_option maxRecDepth 100000
/-! how the interpreter's values and store lie in the model's heap -/
namespace Iw
open PySem PySem.Spec PyProof.Rows L2

/-- the world in which a law is asked -/
class TheW where
  w : World
/-- a dict by nested tuples: its entries, each key's own tuple -/
def entN (w : World) (x : NestedKey × Addr × Value) : DictEntry := ⟨x.1.hash w, .ref x.2.1, x.2.2⟩
def NDf (w : World) (a : Addr) (xs : List (NestedKey × Addr × V)) : Heap → Prop := fun h => xs.length ≤ sizeLine ∧ (a == sysModules) = false ∧ ∃ ys : List (NestedKey × Addr × Value),
  Paired (fun (p : NestedKey × Addr × V) (q : NestedKey × Addr × Value) => p.1 = q.1 ∧ p.2.1 = q.2.1 ∧ RelV p.2.2 q.2.2) xs ys ∧ ∃ o es ep, h.get? a = some o ∧ o.ExactDict ∧ o.data = .dict es ep ∧ es.toList = ys.map (entN w) ∧ (ys.map (·.1)).Nodup
abbrev ND (w : World) (a : Addr) (xs : List (NestedKey × Addr × V)) : HO := .ext (NDf w a xs)
variable [TheW]
/-- the run's own objects, by their numbers; hidden ones (lists that a comprehension fills) -/
structure Mp where
  own : List Addr
  hid : List Addr
instance : Membership Addr Mp := ⟨fun m a => a ∈ m.own ∨ a ∈ m.hid⟩
theorem Mp.mem {m : Mp} {a : Addr} : a ∈ m ↔ a ∈ m.own ∨ a ∈ m.hid := Iff.rfl
abbrev Mp.add (m : Mp) (p : Addr) : Mp := ⟨m.own ++ [p], m.hid⟩
abbrev Mp.hide (m : Mp) (p : Addr) : Mp := ⟨m.own, p :: m.hid⟩
abbrev Sv := L2.St
mutual
inductive Rp (m : Mp) (H : Hp) : V → PyData → Prop
  | non : Rp m H .non .none
  | bl (b : Bool) : Rp m H (.bl b) (.bool b)
  | int (i : Int) : Rp m H (.int i) (.int i)
  | str (x : Str) : Rp m H (.str x) (.str x)
  | lst {a : Addr} {vs : List V} {ds : List PyData} : H a = some (.lst vs) → a ∉ m → RpA m H vs ds → Rp m H (.ref a) (.list ds)
  | tup {a : Addr} {vs : List V} {ds : List PyData} : H a = some (.tup vs) → a ∉ m → RpA m H vs ds → Rp m H (.ref a) (.tuple ds)
inductive RpA (m : Mp) (H : Hp) : List V → List PyData → Prop
  | nil : RpA m H [] []
  | cons {v : V} {vs : List V} {d : PyData} {ds : List PyData} : Rp m H v d → RpA m H vs ds → RpA m H (v :: vs) (d :: ds)
end
/-- what was tracked and not the run's own stays, and stays not the run's own -/
structure Evo (m : Mp) (H : Hp) (m' : Mp) (H' : Hp) : Prop where
  pre : m.own <+: m'.own
  hd : ∀ a o, a ∈ m.hid → H a = some o → H' a = some o ∧ a ∈ m'.hid
  kp : ∀ a o, H a = some o → a ∉ m → H' a = some o ∧ a ∉ m'
  fz : ∀ a o u, H a = some (.frz o u) → H' a = some (.frz o u)
theorem Evo.refl {m : Mp} {H : Hp} : Evo m H m H := ⟨List.prefix_refl _, fun _ _ n h => ⟨h, n⟩, fun _ _ h n => ⟨h, n⟩, fun _ _ _ h => h⟩
theorem Evo.trans {m m1 m2 : Mp} {H H1 H2 : Hp} (a : Evo m H m1 H1) (b : Evo m1 H1 m2 H2) : Evo m H m2 H2 :=
  ⟨a.pre.trans b.pre, fun c o n h => let ⟨h1, n1⟩ := a.hd c o n h; b.hd c o n1 h1, fun c o h n => let ⟨h1, n1⟩ := a.kp c o h n; b.kp c o h1 n1, fun c o u h => b.fz c o u (a.fz c o u h)⟩
section
variable {m m' : Mp} {H H' : Hp}
mutual
theorem Rp.evo (e : Evo m H m' H') : ∀ {v : V} {d : PyData}, Rp m H v d → Rp m' H' v d
  | _, _, .non => .non
  | _, _, .bl b => .bl b
  | _, _, .int i => .int i
  | _, _, .str x => .str x
  | _, _, .lst h n r => .lst (e.kp _ _ h n).1 (e.kp _ _ h n).2 (RpA.evo e r)
  | _, _, .tup h n r => .tup (e.kp _ _ h n).1 (e.kp _ _ h n).2 (RpA.evo e r)
theorem RpA.evo (e : Evo m H m' H') : ∀ {vs : List V} {ds : List PyData}, RpA m H vs ds → RpA m' H' vs ds
  | _, _, .nil => .nil
  | _, _, .cons r t => .cons (Rp.evo e r) (RpA.evo e t)
end
theorem RpA.length : ∀ {vs : List V} {ds : List PyData}, RpA m H vs ds → vs.length = ds.length
  | _, _, .nil => rfl
  | _, _, .cons _ t => congrArg (· + 1) (RpA.length t)
theorem RpA.append : ∀ {vs ws : List V} {ds es : List PyData}, RpA m H vs ds → RpA m H ws es → RpA m H (vs ++ ws) (ds ++ es)
  | _, _, _, _, .nil, s => s
  | _, _, _, _, .cons r t, s => .cons r (RpA.append t s)
theorem RpA.get : ∀ {vs : List V} {ds : List PyData} {i : Nat} {d : PyData}, RpA m H vs ds → ds[i]? = some d → ∃ v, vs[i]? = some v ∧ Rp m H v d
  | _, _, _, _, .nil, e => by simp at e
  | _, _, 0, _, .cons r _, e => by simp at e; subst e; exact ⟨_, rfl, r⟩
  | _, _, i + 1, d, .cons _ t, e => by
    obtain ⟨v, h1, h2⟩ := RpA.get (i := i) (d := d) t (by simpa using e)
    exact ⟨v, by simpa using h1, h2⟩
theorem RpA.take : ∀ {vs : List V} {ds : List PyData} (n : Nat), RpA m H vs ds → RpA m H (vs.take n) (ds.take n)
  | _, _, 0, _ => by simpa using RpA.nil
  | _, _, _ + 1, .nil => .nil
  | _, _, n + 1, .cons r t => .cons r (RpA.take n t)
theorem RpA.drop : ∀ {vs : List V} {ds : List PyData} (n : Nat), RpA m H vs ds → RpA m H (vs.drop n) (ds.drop n)
  | _, _, 0, r => r
  | _, _, _ + 1, .nil => .nil
  | _, _, n + 1, .cons _ t => RpA.drop n t
theorem RpA.reverse {vs : List V} {ds : List PyData} (r : RpA m H vs ds) : RpA m H vs.reverse ds.reverse := by
  have go : ∀ {vs : List V} {ds : List PyData}, RpA m H vs ds → RpA m H vs.reverse ds.reverse := by
    intro vs
    induction vs with
    | nil => intro ds r; cases r; exact .nil
    | cons v vs ih =>
      intro ds r
      cases r with
      | cons r t =>
        rw [List.reverse_cons, List.reverse_cons]
        exact (ih t).append (.cons r .nil)
  exact go r
theorem RpA.rep {vs : List V} {ds : List PyData} (r : RpA m H vs ds) : ∀ k : Nat, RpA m H (List.replicate k vs).flatten (List.replicate k ds).flatten
  | 0 => .nil
  | k + 1 => by
    rw [List.replicate_succ, List.replicate_succ, List.flatten_cons, List.flatten_cons]
    exact r.append (RpA.rep r k)

/-- the script -/
def Scr (K : PySem.W.Frag) (m : Mp) (H : Hp) (a : Addr) (xs : List V) : Prop :=
  (Rd H a (.lst xs) ∧ a ∉ m) ∨ ∃ (o : Obj) (its : Array Value) (n : Nat), K.lookup a = some o ∧ o.cls = .type "list" ∧ o.dict = none ∧ o.data = .seq its n ∧ its.size ≤ sizeLine ∧ Vals xs its.toList
theorem Scr.sq {K : PySem.W.Frag} {a : Addr} {xs : List V} (h : Scr K m H a xs) : SqL K H a xs := h.elim (fun z => .inl z.1) .inr
theorem Scr.evo {K : PySem.W.Frag} {a : Addr} {xs : List V} (e : Evo m H m' H') (h : Scr K m H a xs) : Scr K m' H' a xs := by
  rcases h with ⟨h | ⟨o, h⟩, n⟩ | h
  · exact .inl ⟨.inl (e.kp _ _ h n).1, (e.kp _ _ h n).2⟩
  · exact .inl ⟨.inr ⟨o, (e.kp _ _ h n).1⟩, (e.kp _ _ h n).2⟩
  · exact .inr h
/-- a value -/
inductive RV (K : PySem.W.Frag) (m : Mp) (H : Hp) : V → PV → Prop
  | d {v : V} {x : PyData} : Rp m H v x → RV K m H v (.d x)
  | ref {n : Nat} {a : Addr} : m.own[n]? = some a → RV K m H (.ref a) (.ref n)
  | scr {ns : List Int} {a : Addr} : Scr K m H a (ns.map V.int) → RV K m H (.ref a) (.scr ns)
  | pr {n : Nat} {a b : Addr} {v : V} {x : PyData} : H a = some (.tup [v, .ref b]) → a ∉ m → Rp m H v x → m.own[n]? = some b → RV K m H (.ref a) (.pr x n)
abbrev RVs (K : PySem.W.Frag) (m : Mp) (H : Hp) : List V → List PV → Prop := Paired (RV K m H)
theorem Evo.at (e : Evo m H m' H') {n : Nat} {a : Addr} (h : m.own[n]? = some a) : m'.own[n]? = some a := by
  obtain ⟨t, et⟩ := e.pre
  rw [← et, List.getElem?_append_left (List.getElem?_eq_some_iff.mp h).1]; exact h
theorem RV.evo {K : PySem.W.Frag} {v : V} {x : PV} (r : RV K m H v x) (e : Evo m H m' H') : RV K m' H' v x := by
  cases r with
  | d r => exact .d (r.evo e)
  | ref h => exact .ref (e.at h)
  | scr h => exact .scr (h.evo e)
  | pr h n r o => exact .pr (e.kp _ _ h n).1 (e.kp _ _ h n).2 (r.evo e) (e.at o)
theorem RVs.evo {K : PySem.W.Frag} {vs : List V} {xs : List PV} (r : RVs K m H vs xs) (e : Evo m H m' H') : RVs K m' H' vs xs := Paired.mono (fun _ _ z => z.evo e) r
theorem RpA.rvs {K : PySem.W.Frag} : ∀ {vs : List V} {ds : List PyData}, RpA m H vs ds → RVs K m H vs (ds.map .d)
  | _, _, .nil => .nil
  | _, _, .cons r t => .cons (.d r) (RpA.rvs t)
theorem RVs.rpa {K : PySem.W.Frag} : ∀ {xs : List PV} {vs : List V} {ds : List PyData}, RVs K m H vs xs → datas xs = some ds → RpA m H vs ds
  | [], _, _, r, e => by cases r; cases e; exact .nil
  | .d x :: xs, _, _, .cons r t, e => by
    have e : (datas xs).map (x :: ·) = some _ := e
    obtain ⟨ds', e1, rfl⟩ := Option.map_eq_some_iff.mp e
    cases r with
    | d r => exact .cons r (RVs.rpa t e1)
  | .ref _ :: _, _, _, .cons r t, e => by cases e
  | .scr _ :: _, _, _, .cons r t, e => by cases e
  | .pr _ _ :: _, _, _, .cons r t, e => by cases e
theorem datas_len : ∀ {xs : List PV} {ds : List PyData}, datas xs = some ds → ds.length = xs.length
  | [], _, e => by cases e; rfl
  | .d x :: xs, _, e => by
    have e : (datas xs).map (x :: ·) = some _ := e
    obtain ⟨ds', e1, rfl⟩ := Option.map_eq_some_iff.mp e
    exact congrArg (· + 1) (datas_len e1)
  | .ref _ :: _, _, e => by cases e
  | .scr _ :: _, _, e => by cases e
  | .pr _ _ :: _, _, e => by cases e
theorem RVs.len {K : PySem.W.Frag} {vs : List V} {xs : List PV} (r : RVs K m H vs xs) : vs.length = xs.length := Paired.length r
theorem PairedGet {α β : Type} {F : α → β → Prop} : ∀ {xs : List α} {ys : List β} {i : Nat} {y : β}, Paired F xs ys → ys[i]? = some y → ∃ x, xs[i]? = some x ∧ F x y
  | _, _, _, _, .nil, e => by simp at e
  | _, _, 0, y, .cons r _, e => by simp at e; subst e; exact ⟨_, rfl, r⟩
  | _, _, i + 1, y, .cons _ t, e => by
    obtain ⟨u, h1, h2⟩ := PairedGet (i := i) (y := y) t (by simpa using e)
    exact ⟨u, by simpa using h1, h2⟩
theorem PairedSet {α β : Type} {F : α → β → Prop} {x : α} {y : β} (r : F x y) : ∀ {xs : List α} {ys : List β} (i : Nat), Paired F xs ys → Paired F (xs.set i x) (ys.set i y)
  | _, _, _, .nil => .nil
  | _, _, 0, .cons _ t => .cons r t
  | _, _, i + 1, .cons q t => .cons q (PairedSet r i t)
theorem PairedApp {α β : Type} {F : α → β → Prop} : ∀ {xs xs' : List α} {ys ys' : List β}, Paired F xs ys → Paired F xs' ys' → Paired F (xs ++ xs') (ys ++ ys')
  | _, _, _, _, .nil, s => s
  | _, _, _, _, .cons r t, s => .cons r (PairedApp t s)
theorem PairedTake {α β : Type} {F : α → β → Prop} : ∀ {xs : List α} {ys : List β} (n : Nat), Paired F xs ys → Paired F (xs.take n) (ys.take n)
  | _, _, 0, _ => by simpa using Paired.nil
  | _, _, _ + 1, .nil => .nil
  | _, _, n + 1, .cons r t => .cons r (PairedTake n t)
theorem PairedDrop {α β : Type} {F : α → β → Prop} : ∀ {xs : List α} {ys : List β} (n : Nat), Paired F xs ys → Paired F (xs.drop n) (ys.drop n)
  | _, _, 0, r => r
  | _, _, _ + 1, .nil => .nil
  | _, _, n + 1, .cons _ t => PairedDrop n t
theorem PairedDropLast {α β : Type} {F : α → β → Prop} {xs : List α} {ys : List β} (r : Paired F xs ys) : Paired F xs.dropLast ys.dropLast := by
  rw [List.dropLast_eq_take, List.dropLast_eq_take, Paired.length r]; exact PairedTake _ r
theorem PairedErase {α β : Type} {F : α → β → Prop} : ∀ {xs : List α} {ys : List β} (i : Nat), Paired F xs ys → Paired F (xs.eraseIdx i) (ys.eraseIdx i)
  | _, _, _, .nil => .nil
  | _, _, 0, .cons _ t => t
  | _, _, i + 1, .cons q t => .cons q (PairedErase i t)
theorem PairedRev {α β : Type} {F : α → β → Prop} : ∀ {xs : List α} {ys : List β}, Paired F xs ys → Paired F xs.reverse ys.reverse
  | _, _, .nil => .nil
  | _, _, .cons r t => by rw [List.reverse_cons, List.reverse_cons]; exact PairedApp (PairedRev t) (.cons r .nil)

/-- entries of a dict by nested tuples -/
abbrev PN (K : PySem.W.Frag) (m : Mp) (H : Hp) : List (NestedKey × Addr × V) → List (NestedKey × PV) → Prop := Paired fun (p : NestedKey × Addr × V) (q : NestedKey × PV) => (p.1 = q.1 ∧ p.1.depth ≤ 8) ∧ Rp m H (.ref p.2.1) p.1.data ∧ RV K m H p.2.2 q.2
theorem RV.rp {K : PySem.W.Frag} {v : V} {x : PyData} (r : RV K m H v (.d x)) : Rp m H v x := by cases r; assumption
theorem PN.map {K : PySem.W.Frag} {xs : List (NestedKey × Addr × V)} {ys : List (NestedKey × PV)} (f : ∀ {v : V} {x : PV}, RV K m H v x → RV K m' H' v x) (r : PN K m H xs ys) : PN K m' H' xs ys := Paired.mono (fun _ _ z => ⟨z.1, (f (.d z.2.1)).rp, f z.2.2⟩) r
/-- an object of the run's store, at a -/
inductive RO (K : PySem.W.Frag) (m : Mp) (H : Hp) (a : Addr) : HO → Ob → Prop
  | lst {vs : List V} {xs : List PV} : RVs K m H vs xs → RO K m H a (.lst vs) (.lst xs)
  | dK {vs : List (Key × V)} {xs : List (Key × PV)} : Paired (fun p q => p.1 = q.1 ∧ RV K m H p.2 q.2) vs xs → RO K m H a (.dK vs) (.dK xs)
  | dT {vs : List (List Key × V)} {xs : List (List Key × PV)} : Paired (fun p q => p.1 = q.1 ∧ RV K m H p.2 q.2) vs xs → RO K m H a (.dT vs) (.dT xs)
  | dTl {o : Obj} {vs : List (List Key × V)} {xs : List (List Key × PV)} : Paired (fun p q => p.1 = q.1 ∧ RV K m H p.2 q.2) vs xs → RO K m H a (.frz o (.dT vs)) (.dTl xs)
  | dN {vs : List (NestedKey × Addr × V)} {xs : List (NestedKey × PV)} : PN K m H vs xs → RO K m H a (ND TheW.w a vs) (.dN xs)
  | dNl {o : Obj} {vs : List (NestedKey × Addr × V)} {xs : List (NestedKey × PV)} : PN K m H vs xs → RO K m H a (.frz o (ND TheW.w a vs)) (.dNl xs)
theorem RO.map {K : PySem.W.Frag} {a : Addr} {u : HO} {o : Ob} (f : ∀ {v : V} {x : PV}, RV K m H v x → RV K m' H' v x) (r : RO K m H a u o) : RO K m' H' a u o := by
  cases r with
  | lst r => exact .lst (Paired.mono (fun _ _ z => f z) r)
  | dK r => exact .dK (Paired.mono (fun _ _ z => ⟨z.1, f z.2⟩) r)
  | dT r => exact .dT (Paired.mono (fun _ _ z => ⟨z.1, f z.2⟩) r)
  | dTl r => exact .dTl (Paired.mono (fun _ _ z => ⟨z.1, f z.2⟩) r)
  | dN r => exact .dN (r.map f)
  | dNl r => exact .dNl (r.map f)
theorem RO.evo {K : PySem.W.Frag} {a : Addr} {u : HO} {o : Ob} (r : RO K m H a u o) (e : Evo m H m' H') : RO K m' H' a u o := r.map fun z => z.evo e
/-- the store -/
structure RH (K : PySem.W.Frag) (m : Mp) (h : Hs) (H : Hp) : Prop where
  len : m.own.length = h.length
  nd : m.own.Nodup
  hd : ∀ a, a ∈ m.hid → a ∉ m.own ∧ ∃ u, H a = some u ∧ ∀ xs, u ≠ .tup xs
  at_ : ∀ (n : Nat) (o : Ob), h[n]? = some o → ∃ a u, m.own[n]? = some a ∧ H a = some u ∧ RO K m H a u o
theorem RH.tracked {K : PySem.W.Frag} {h : Hs} (r : RH K m h H) {a : Addr} (ha : a ∈ m) : ∃ o, H a = some o := by
  rcases ha with ha | ha
  · obtain ⟨n, e⟩ := List.getElem?_of_mem ha
    have hl : n < h.length := by rw [← r.len]; exact (List.getElem?_eq_some_iff.mp e).1
    obtain ⟨b, u, e1, e2, _⟩ := r.at_ n h[n] (by simp [hl])
    rw [e] at e1; cases e1
    exact ⟨u, e2⟩
  · obtain ⟨_, vs, e, _⟩ := r.hd a ha; exact ⟨_, e⟩
theorem RH.tup {K : PySem.W.Frag} {h : Hs} (r : RH K m h H) {b : Addr} {xs : List V} (e : H b = some (.tup xs)) : b ∉ m := fun z => by
  rcases z with z | z
  · obtain ⟨n, e1⟩ := List.getElem?_of_mem z
    have hl : n < h.length := by rw [← r.len]; exact (List.getElem?_eq_some_iff.mp e1).1
    obtain ⟨c, u, e2, e3, e4⟩ := r.at_ n h[n] (by simp [hl])
    rw [e1] at e2; cases e2
    rw [e] at e3; cases e3
    cases e4
  · obtain ⟨_, vs, e2, e3⟩ := r.hd b z
    rw [e] at e2; cases e2
    exact e3 _ rfl
theorem RH.fresh {K : PySem.W.Frag} {h : Hs} (r : RH K m h H) {p : Addr} (hp : H p = none) : p ∉ m := fun z => by
  obtain ⟨o, e⟩ := r.tracked z
  rw [hp] at e; cases e
/-- a new thing beside the store -/
theorem Evo.new {K : PySem.W.Frag} {h : Hs} (r : RH K m h H) {p : Addr} {u : HO} (hp : H p = none) : Evo m H m (upd H p u) :=
  ⟨List.prefix_refl _, fun a o n e => ⟨by rw [upd_ne (ne_of_none e hp)]; exact e, n⟩, fun a o e n => ⟨by rw [upd_ne (ne_of_none e hp)]; exact e, n⟩, fun a o u e => by rw [upd_ne (ne_of_none e hp)]; exact e⟩
theorem RH.keep {K : PySem.W.Frag} {h : Hs} (r : RH K m h H) (e : Evo m H m H') (k : ∀ a, a ∈ m → H' a = H a) : RH K m h H' :=
  ⟨r.len, r.nd, fun a ha => ⟨(r.hd a ha).1, by rw [k a (.inr ha)]; exact (r.hd a ha).2⟩, fun n o q => by
    obtain ⟨a, u, e1, e2, e3⟩ := r.at_ n o q
    exact ⟨a, u, e1, by rw [k a (.inl (List.mem_of_getElem? e1))]; exact e2, e3.evo e⟩⟩
theorem RH.new {K : PySem.W.Frag} {h : Hs} (r : RH K m h H) {p : Addr} {u : HO} (hp : H p = none) : RH K m h (upd H p u) :=
  r.keep (Evo.new r hp) fun a ha => by
    obtain ⟨o, e⟩ := r.tracked ha
    exact upd_ne (ne_of_none e hp)
/-- a new object of the store -/
theorem Evo.alloc {K : PySem.W.Frag} {h : Hs} (r : RH K m h H) {p : Addr} {u : HO} (hp : H p = none) : Evo m H (m.add p) (upd H p u) :=
  ⟨List.prefix_append _ [p], fun a o n e => ⟨by rw [upd_ne (ne_of_none e hp)]; exact e, n⟩, fun a o e n => ⟨by rw [upd_ne (ne_of_none e hp)]; exact e, fun z => by
    rcases z with z | z
    · rcases List.mem_append.mp z with z | z
      · exact n (.inl z)
      · have : a = p := by simpa using z
        rw [this, hp] at e; cases e
    · exact n (.inr z)⟩, fun a o u e => by rw [upd_ne (ne_of_none e hp)]; exact e⟩
theorem RH.alloc {K : PySem.W.Frag} {h : Hs} (r : RH K m h H) {p : Addr} {u : HO} {o : Ob} (hp : H p = none) (q : RO K m H p u o) : RH K (m.add p) (h ++ [o]) (upd H p u) := by
  have e := Evo.alloc (u := u) r hp
  have nm := r.fresh hp
  refine ⟨by simp [r.len], ?_, fun a ha => ?_, fun n z hz => ?_⟩
  · rw [List.nodup_append]
    refine ⟨r.nd, by simp, fun a ha b hb => ?_⟩
    have : b = p := by simpa using hb
    rintro rfl
    exact nm (.inl (this ▸ ha))
  · obtain ⟨h1, o2, h2⟩ := r.hd a ha
    refine ⟨fun z => ?_, o2, by rw [upd_ne (ne_of_none h2.1 hp)]; exact h2⟩
    rcases List.mem_append.mp z with z | z
    · exact h1 z
    · have : a = p := by simpa using z
      rw [this, hp] at h2; cases h2.1
  · by_cases hn : n < h.length
    · rw [List.getElem?_append_left hn] at hz
      obtain ⟨a, w, e1, e2, e3⟩ := r.at_ n z hz
      exact ⟨a, w, e.at e1, by rw [upd_ne (ne_of_none e2 hp)]; exact e2, e3.evo e⟩
    · rw [List.getElem?_append_right (by omega)] at hz
      have hn0 : n = h.length := by
        have := (List.getElem?_eq_some_iff.mp hz).1
        simp at this
        omega
      subst hn0
      simp at hz
      subst hz
      refine ⟨p, u, ?_, upd_same, q.evo e⟩
      rw [List.getElem?_append_right (by rw [r.len]; exact Nat.le_refl _), r.len]
      simp
/-- an object of the store is changed -/
theorem Evo.write {a : Addr} {u : HO} (ha : a ∈ m.own) (hn : ∀ b, b ∈ m.hid → b ∉ m.own) (nf : ∀ o u, H a ≠ some (.frz o u)) : Evo m H m (upd H a u) :=
  ⟨List.prefix_refl _, fun b o n e => ⟨by rw [upd_ne (fun z => hn b n (by rw [z]; exact ha))]; exact e, n⟩, fun b o e n => ⟨by rw [upd_ne (fun z => n (.inl (by rw [z]; exact ha)))]; exact e, n⟩, fun b o u e => by rw [upd_ne (fun z => nf o u (by rw [← z]; exact e))]; exact e⟩
theorem RH.wr {K : PySem.W.Frag} {h : Hs} (r : RH K m h H) {n : Nat} {a : Addr} {u : HO} (ha : m.own[n]? = some a) (nf : ∀ o u, H a ≠ some (.frz o u)) : Evo m H m (upd H a u) := .write (List.mem_of_getElem? ha) (fun b hb => (r.hd b hb).1) nf
theorem RH.write {K : PySem.W.Frag} {h : Hs} (r : RH K m h H) {n : Nat} {a : Addr} {u : HO} {o : Ob} (ha : m.own[n]? = some a) (nf : ∀ o u, H a ≠ some (.frz o u)) (q : RO K m (upd H a u) a u o) : RH K m (h.set n o) (upd H a u) := by
  have e := r.wr (u := u) ha nf
  refine ⟨by simp [r.len], r.nd, fun b hb => ?_, fun j z hz => ?_⟩
  · obtain ⟨h1, o2, h2⟩ := r.hd b hb
    exact ⟨h1, o2, by rw [upd_ne (fun z => h1 (by rw [z]; exact List.mem_of_getElem? ha))]; exact h2⟩
  by_cases hj : j = n
  · subst hj
    have hl : j < h.length := by rw [← r.len]; exact (List.getElem?_eq_some_iff.mp ha).1
    rw [List.getElem?_set_self hl] at hz
    cases hz
    exact ⟨a, u, ha, upd_same, q⟩
  · rw [List.getElem?_set_ne (Ne.symm hj)] at hz
    obtain ⟨b, w, e1, e2, e3⟩ := r.at_ j z hz
    refine ⟨b, w, e1, ?_, e3.evo e⟩
    rw [upd_ne ?_]
    · exact e2
    · rintro rfl
      obtain ⟨h1, g1⟩ := List.getElem?_eq_some_iff.mp e1
      obtain ⟨h2, g2⟩ := List.getElem?_eq_some_iff.mp ha
      exact hj ((List.getElem_inj r.nd).mp (g1.trans g2.symm))
/-! ### a hidden list -/
abbrev Mp.unhide (m : Mp) (D : Addr) : Mp := ⟨m.own, m.hid.filter fun a => decide (a ≠ D)⟩
section
variable {K : PySem.W.Frag} {D : Addr} {u : HO}
theorem mem_unhide {a : Addr} (h : a ∈ m.unhide D) : a ∈ m := h.elim .inl fun z => .inr (List.mem_filter.mp z).1
mutual
theorem Rp.upH (hD : D ∈ m) : ∀ {v : V} {d : PyData}, Rp m H v d → Rp m (upd H D u) v d
  | _, _, .non => .non
  | _, _, .bl b => .bl b
  | _, _, .int i => .int i
  | _, _, .str x => .str x
  | _, _, .lst h n r => .lst (by rw [upd_ne (fun z => n (by rw [z]; exact hD))]; exact h) n (RpA.upH hD r)
  | _, _, .tup h n r => .tup (by rw [upd_ne (fun z => n (by rw [z]; exact hD))]; exact h) n (RpA.upH hD r)
theorem RpA.upH (hD : D ∈ m) : ∀ {vs : List V} {ds : List PyData}, RpA m H vs ds → RpA m (upd H D u) vs ds
  | _, _, .nil => .nil
  | _, _, .cons r t => .cons (Rp.upH hD r) (RpA.upH hD t)
end
theorem RV.upH {v : V} {x : PV} (hD : D ∈ m) (r : RV K m H v x) : RV K m (upd H D u) v x := by
  cases r with
  | d r => exact .d (r.upH hD)
  | ref h => exact .ref h
  | scr h =>
    refine .scr ?_
    rcases h with ⟨h, n⟩ | h
    · have hn : ∀ a', a' = D → a' ∈ m := fun a' z => by rw [z]; exact hD
      refine .inl ⟨?_, n⟩
      rcases h with h | ⟨o, h⟩
      · exact .inl (by rw [upd_ne (fun z => n (hn _ z))]; exact h)
      · exact .inr ⟨o, by rw [upd_ne (fun z => n (hn _ z))]; exact h⟩
    · exact .inr h
  | pr h n r o => exact .pr (by rw [upd_ne (fun z => n (by rw [z]; exact hD))]; exact h) n (r.upH hD) o
theorem RVs.upH {vs : List V} {xs : List PV} (hD : D ∈ m) (r : RVs K m H vs xs) : RVs K m (upd H D u) vs xs := Paired.mono (fun _ _ z => z.upH hD) r
theorem RO.upH {a : Addr} {o : HO} {b : Ob} (hD : D ∈ m) (r : RO K m H a o b) : RO K m (upd H D u) a o b := r.map fun z => z.upH hD
theorem RH.upH {h : Hs} {ws : List V} (r : RH K m h H) (hD : D ∈ m.hid) : RH K m h (upd H D (.lst ws)) := by
  refine ⟨r.len, r.nd, fun a ha => ?_, fun n o e => ?_⟩
  · obtain ⟨h1, o, h2⟩ := r.hd a ha
    refine ⟨h1, ?_⟩
    by_cases z : a = D
    · subst z; exact ⟨.lst ws, upd_same, fun _ q => nomatch q⟩
    · exact ⟨o, by rw [upd_ne z]; exact h2⟩
  · obtain ⟨a, w, e1, e2, e3⟩ := r.at_ n o e
    refine ⟨a, w, e1, ?_, e3.upH (.inr hD)⟩
    rw [upd_ne (fun z => (r.hd D hD).1 (by rw [← z]; exact List.mem_of_getElem? e1))]
    exact e2
theorem RH.hide {h : Hs} {ws : List V} (r : RH K m h H) (hp : H D = none) : RH K (m.hide D) h (upd H D (.lst ws)) ∧ Evo m H (m.hide D) (upd H D (.lst ws)) := by
  have ne : ∀ {a o}, H a = some o → a ≠ D := fun e => ne_of_none e hp
  have ev : Evo m H (m.hide D) (upd H D (.lst ws)) := ⟨List.prefix_refl _, fun a o n e => ⟨by rw [upd_ne (ne e)]; exact e, List.mem_cons_of_mem _ n⟩, fun a o e n => ⟨by rw [upd_ne (ne e)]; exact e, fun z => by
    rcases z with z | z
    · exact n (.inl z)
    · rcases List.mem_cons.mp z with z | z
      · exact ne e z
      · exact n (.inr z)⟩, fun a o u e => by rw [upd_ne (ne e)]; exact e⟩
  refine ⟨⟨r.len, r.nd, fun a ha => ?_, fun n o e => ?_⟩, ev⟩
  · rcases List.mem_cons.mp ha with z | ha
    · subst z
      refine ⟨fun z => ?_, .lst ws, upd_same, fun _ q => nomatch q⟩
      obtain ⟨o, e⟩ := r.tracked (.inl z)
      rw [hp] at e; cases e
    · obtain ⟨h1, o, h2⟩ := r.hd a ha
      exact ⟨h1, o, by rw [upd_ne (ne h2.1)]; exact h2⟩
  · obtain ⟨a, w, e1, e2, e3⟩ := r.at_ n o e
    exact ⟨a, w, e1, by rw [upd_ne (ne e2)]; exact e2, e3.evo ev⟩
/-- a step beside the hidden list, from a store that did not know it -/
theorem Evo.upH {m1 : Mp} {H1 : Hp} (e : Evo m1 H1 m H) (hp : H1 D = none) : Evo m1 H1 m (upd H D u) :=
  ⟨e.pre, fun a o n q => ⟨by rw [upd_ne (ne_of_none q hp)]; exact (e.hd a o n q).1, (e.hd a o n q).2⟩, fun a o q n => ⟨by rw [upd_ne (ne_of_none q hp)]; exact (e.kp a o q n).1, (e.kp a o q n).2⟩, fun a o u q => by rw [upd_ne (ne_of_none q hp)]; exact e.fz a o u q⟩
theorem Evo.unhide {m1 : Mp} {H1 : Hp} (e : Evo m1 H1 m H) (hp : H1 D = none) : Evo m1 H1 (m.unhide D) H :=
  ⟨e.pre, fun a o n q => ⟨(e.hd a o n q).1, List.mem_filter.mpr ⟨(e.hd a o n q).2, by simpa using ne_of_none q hp⟩⟩, fun a o q n => ⟨(e.kp a o q n).1, fun z => (e.kp a o q n).2 (mem_unhide z)⟩, e.fz⟩
/-- fewer are the run's own -/
abbrev Less (m m2 : Mp) : Prop := ∀ a, a ∈ m2 → a ∈ m
abbrev Kept (m m2 : Mp) : Prop := ∀ (n : Nat) (a : Addr), m.own[n]? = some a → m2.own[n]? = some a
mutual
theorem Rp.less {m2 : Mp} (l : Less m m2) : ∀ {v : V} {d : PyData}, Rp m H v d → Rp m2 H v d
  | _, _, .non => .non
  | _, _, .bl b => .bl b
  | _, _, .int i => .int i
  | _, _, .str x => .str x
  | _, _, .lst h n r => .lst h (fun z => n (l _ z)) (RpA.less l r)
  | _, _, .tup h n r => .tup h (fun z => n (l _ z)) (RpA.less l r)
theorem RpA.less {m2 : Mp} (l : Less m m2) : ∀ {vs : List V} {ds : List PyData}, RpA m H vs ds → RpA m2 H vs ds
  | _, _, .nil => .nil
  | _, _, .cons r t => .cons (Rp.less l r) (RpA.less l t)
end
theorem RV.less {m2 : Mp} (l : Less m m2) (k : Kept m m2) {v : V} {x : PV} (r : RV K m H v x) : RV K m2 H v x := by
  cases r with
  | d r => exact .d (r.less l)
  | ref h => exact .ref (k _ _ h)
  | scr h => exact .scr (h.imp (fun z => ⟨z.1, fun q => z.2 (l _ q)⟩) id)
  | pr h n r o => exact .pr h (fun z => n (l _ z)) (r.less l) (k _ _ o)
theorem RVs.less {m2 : Mp} (l : Less m m2) (k : Kept m m2) {vs : List V} {xs : List PV} (r : RVs K m H vs xs) : RVs K m2 H vs xs := Paired.mono (fun _ _ z => z.less l k) r
theorem RO.less {m2 : Mp} (l : Less m m2) (k : Kept m m2) {a : Addr} {o : HO} {b : Ob} (r : RO K m H a o b) : RO K m2 H a o b := r.map fun z => z.less l k
theorem less_unhide : Less m (m.unhide D) := fun _ z => mem_unhide z
theorem kept_unhide : Kept m (m.unhide D) := fun _ _ h => h
theorem RH.unhide {h : Hs} (r : RH K m h H) : RH K (m.unhide D) h H :=
  ⟨r.len, r.nd, fun a ha => r.hd a (List.mem_filter.mp ha).1, fun n o e => let ⟨a, w, e1, e2, e3⟩ := r.at_ n o e; ⟨a, w, e1, e2, e3.less less_unhide kept_unhide⟩⟩
theorem not_unhide (n : D ∉ m.own) : D ∉ m.unhide D := fun z => z.elim n fun z => by simpa using (List.mem_filter.mp z).2
theorem less_reveal (n : D ∈ m.hid) : Less m ((m.unhide D).add D) := fun a z => by
  rcases z with z | z
  · rcases List.mem_append.mp z with z | z
    · exact .inl z
    · have : a = D := by simpa using z
      rw [this]; exact .inr n
  · exact .inr (List.mem_filter.mp z).1
theorem kept_add {p : Addr} : Kept m (m.add p) := fun n a h => by
  show (m.own ++ [p])[n]? = _
  rw [List.getElem?_append_left (List.getElem?_eq_some_iff.mp h).1]; exact h
theorem kept_reveal : Kept m ((m.unhide D).add D) := fun n a h => kept_add (m := m.unhide D) n a h
/-- the hidden list becomes one of the run's own -/
theorem RH.reveal {h : Hs} {o : Ob} {u : HO} (r : RH K m h H) (n : D ∈ m.hid) (hu : H D = some u) (q : RO K m H D u o) : RH K ((m.unhide D).add D) (h ++ [o]) H := by
  have no := (r.hd D n).1
  refine ⟨by simp [r.len], ?_, fun a ha => ?_, fun j z hz => ?_⟩
  · show (m.own ++ [D]).Nodup
    rw [List.nodup_append]
    refine ⟨r.nd, by simp, fun a ha b hb => ?_⟩
    have : b = D := by simpa using hb
    rintro rfl
    exact no (this ▸ ha)
  · obtain ⟨h1, h2⟩ := List.mem_filter.mp ha
    obtain ⟨h3, h4⟩ := r.hd a h1
    refine ⟨fun z => ?_, h4⟩
    rcases List.mem_append.mp z with z | z
    · exact h3 z
    · have : a = D := by simpa using z
      simp [this] at h2
  · by_cases hn : j < h.length
    · rw [List.getElem?_append_left hn] at hz
      obtain ⟨a, w, e1, e2, e3⟩ := r.at_ j z hz
      exact ⟨a, w, kept_reveal _ _ e1, e2, e3.less (less_reveal n) kept_reveal⟩
    · rw [List.getElem?_append_right (by omega)] at hz
      have hn0 : j = h.length := by
        have := (List.getElem?_eq_some_iff.mp hz).1
        simp at this
        omega
      subst hn0
      simp at hz
      subst hz
      refine ⟨D, u, ?_, hu, q.less (less_reveal n) kept_reveal⟩
      show (m.own ++ [D])[h.length]? = _
      rw [List.getElem?_append_right (by rw [r.len]; exact Nat.le_refl _), r.len]
      simp
theorem Evo.reveal {m1 : Mp} {H1 : Hp} (e : Evo m1 H1 m H) (hp : H1 D = none) : Evo m1 H1 ((m.unhide D).add D) H := by
  have e2 := e.unhide (D := D) hp
  exact ⟨e2.pre.trans (List.prefix_append _ _), e2.hd, fun a o q n => ⟨(e2.kp a o q n).1, fun z => by
    rcases z with z | z
    · rcases List.mem_append.mp z with z | z
      · exact (e2.kp a o q n).2 (.inl z)
      · have : a = D := by simpa using z
        rw [this, hp] at q; cases q
    · exact (e2.kp a o q n).2 (.inr z)⟩, e2.fz⟩
/-- a dict of the store is locked -/
theorem RH.lock {h : Hs} (r : RH K m h H) {n : Nat} {a : Addr} {u : HO} {ol : Ob} {od : Obj} (ha : m.own[n]? = some a) (nf : ∀ o x, H a ≠ some (.frz o x)) (q : RO K m H a (.frz od u) ol) :
    Evo m H m (upd H a (.frz od u)) ∧ RH K m (h.set n ol) (upd H a (.frz od u)) := ⟨r.wr ha nf, r.write ha nf (RO.upH (.inl (List.mem_of_getElem? ha)) q)⟩
/-- .. and unlocked -/
theorem RH.unlock {h : Hs} (r : RH K m h H) {n : Nat} {a : Addr} {u : HO} {o : Ob} (ha : m.own[n]? = some a) (q : RO K m H a u o) : RH K m (h.set n o) (upd H a u) := by
  have am : a ∈ m.own := List.mem_of_getElem? ha
  refine ⟨by simp [r.len], r.nd, fun b hb => ?_, fun j z hz => ?_⟩
  · obtain ⟨h1, o2, h2⟩ := r.hd b hb
    exact ⟨h1, o2, by rw [upd_ne (fun z => h1 (by rw [z]; exact am))]; exact h2⟩
  by_cases hj : j = n
  · subst hj
    have hl : j < h.length := by rw [← r.len]; exact (List.getElem?_eq_some_iff.mp ha).1
    rw [List.getElem?_set_self hl] at hz
    cases hz
    exact ⟨a, _, ha, upd_same, RO.upH (.inl am) q⟩
  · rw [List.getElem?_set_ne (Ne.symm hj)] at hz
    obtain ⟨b, w, q1, q2, q3⟩ := r.at_ j z hz
    refine ⟨b, w, q1, ?_, q3.upH (.inl am)⟩
    rw [upd_ne ?_]
    · exact q2
    · rintro rfl
      obtain ⟨h1, g1⟩ := List.getElem?_eq_some_iff.mp q1
      obtain ⟨h2, g2⟩ := List.getElem?_eq_some_iff.mp ha
      exact hj ((List.getElem_inj r.nd).mp (g1.trans g2.symm))
theorem Evo.unlock {m0 : Mp} {H0 : Hp} {a : Addr} {u u' w : HO} (e : Evo m0 (upd H0 a u) m H) (ha : a ∈ m0.own) (dj : ∀ b, b ∈ m0.hid → b ∉ m0.own) (h0 : H0 a = some w) (nf : ∀ o x, w ≠ .frz o x) : Evo m0 H0 m (upd H a u') where
  pre := e.pre
  hd := fun b o n q => by
    have ne : b ≠ a := fun z => dj b n (by rw [z]; exact ha)
    obtain ⟨q1, q2⟩ := e.hd b o n (by rw [upd_ne ne]; exact q)
    exact ⟨by rw [upd_ne ne]; exact q1, q2⟩
  kp := fun b o q n => by
    have ne : b ≠ a := fun z => n (.inl (by rw [z]; exact ha))
    obtain ⟨q1, q2⟩ := e.kp b o (by rw [upd_ne ne]; exact q) n
    exact ⟨by rw [upd_ne ne]; exact q1, q2⟩
  fz := fun b o x q => by
    have ne : b ≠ a := fun z => by rw [z, h0] at q; exact nf o x (Option.some.inj q)
    rw [upd_ne ne]
    exact e.fz b o x (by rw [upd_ne ne]; exact q)
end
/-- the slots -/
structure RS (K : PySem.W.Frag) (m : Mp) (H : Hp) (σ : Sv) (p : Sg) : Prop where
  len : σ.length = p.length
  at_ : ∀ (i : Nat) (x : PV), p[i]? = some (some x) → ∃ v, σ[i]? = some (some v) ∧ RV K m H v x
theorem RS.evo {K : PySem.W.Frag} {σ : Sv} {p : Sg} (r : RS K m H σ p) (e : Evo m H m' H') : RS K m' H' σ p :=
  ⟨r.len, fun i x h => let ⟨v, h1, h2⟩ := r.at_ i x h; ⟨v, h1, h2.evo e⟩⟩
theorem RS.set {K : PySem.W.Frag} {σ : Sv} {p : Sg} (r : RS K m H σ p) {i : Nat} {v : V} {x : PV} (q : RV K m H v x) : RS K m H (σ.set i (some v)) (p.set i (some x)) := by
  refine ⟨by simp [r.len], fun j y hj => ?_⟩
  by_cases e : i = j
  · subst e
    have hl : i < p.length := by
      have := (List.getElem?_eq_some_iff.mp hj).1
      simpa using this
    rw [List.getElem?_set_self hl] at hj
    cases hj
    exact ⟨v, by rw [List.getElem?_set_self (by rw [r.len]; exact hl)], q⟩
  · rw [List.getElem?_set_ne e] at hj
    obtain ⟨u, h1, h2⟩ := r.at_ j y hj
    exact ⟨u, by rw [List.getElem?_set_ne e]; exact h1, h2⟩
theorem RS.unset {K : PySem.W.Frag} {σ : Sv} {p : Sg} (r : RS K m H σ p) {i : Nat} : RS K m H (σ.set i none) (p.set i none) := by
  refine ⟨by simp [r.len], fun j y hj => ?_⟩
  by_cases e : i = j
  · subst e
    have hl : i < p.length := by
      have := (List.getElem?_eq_some_iff.mp hj).1
      simpa using this
    rw [List.getElem?_set_self hl] at hj
    cases hj
  · rw [List.getElem?_set_ne e] at hj
    obtain ⟨u, h1, h2⟩ := r.at_ j y hj
    exact ⟨u, by rw [List.getElem?_set_ne e]; exact h1, h2⟩
theorem RS.wipe {K : PySem.W.Frag} {σ : Sv} {p : Sg} (r : RS K m H σ p) : ∀ own : List Nat, RS K m H (L2.wipe σ own) (Iw.wipe p own)
  | [] => r
  | v :: vs => (RS.wipe r vs).unset
end

/-! ### what a result is worth -/
section
variable {K : PySem.W.Frag} {α β γ δ : Type}
/-- ok: whatever stands for the value, behind it; an exception: the wish E -/
def satG (mg : Str → Option Value) (K : PySem.W.Frag) (E : Value → Hp → Prop) (m : Mp) (H : Hp) (rel : Mp → Hp → β → α → Prop) (r : R α) (Q : β → Hp → Prop) : Prop := match r with
  | .ok a h' => ∀ b H' m', Evo m H m' H' → RH K m' h' H' → rel m' H' b a → Q b H'
  | .exc c h' => ∀ C H' m', mg c = some (.ref C) → Evo m H m' H' → RH K m' h' H' → E (.ref C) H'
  | .bad => False
variable {mg : Str → Option Value} {E E' : Value → Hp → Prop} {m m' : Mp} {H H' : Hp} {rel : Mp → Hp → β → α → Prop} {rel2 : Mp → Hp → δ → γ → Prop} {r : R α} {Q Q' : β → Hp → Prop}
theorem satG.mono (h : satG mg K E m H rel r Q) (hq : ∀ b H', Q b H' → Q' b H') : satG mg K E m H rel r Q' := by
  cases r with
  | ok a h' => exact fun b H' m' e q z => hq _ _ (h b H' m' e q z)
  | exc c h' => exact h
  | bad => exact h
theorem satG.evo (h : satG mg K E m H rel r Q) (e : Evo m H m' H') : satG mg K E m' H' rel r Q := by
  cases r with
  | ok a h' => exact fun b H1 m1 e1 q z => h b H1 m1 (e.trans e1) q z
  | exc c h' => exact fun C H1 m1 hc e1 q => h C H1 m1 hc (e.trans e1) q
  | bad => exact h
theorem satG.bind {f : α → Hs → R γ} {Q2 : δ → Hp → Prop} (h : satG mg K E m H rel2 (r.bind f) Q2) :
    satG mg K E m H rel r (fun b H1 => ∃ m1 a h1, Evo m H m1 H1 ∧ RH K m1 h1 H1 ∧ rel m1 H1 b a ∧ satG mg K E m1 H1 rel2 (f a h1) Q2) := by
  cases r with
  | ok a h' => exact fun b H1 m1 e q z => ⟨m1, a, h', e, q, z, satG.evo h e⟩
  | exc c h' => exact h
  | bad => exact h
end
end Iw
end

section
set_option Elab.async false
set_option linter.all false
set_option maxRecDepth 100000
/-! dicts whose keys are nested tuples -/
namespace Iw
open PySem PySem.Spec PyProof.Rows L2
variable [TheW]
section
variable {P : Program} {w : World} {m : Mp} {H : Hp} {h : Heap}
mutual
theorem nested_at (ok : HOk P w H h) : ∀ (k : NestedKey) {v : V} {u : Value}, Rp m H v k.data → RelV v u → NestedIs h k u
  | .none, v, u, r, q => by
    have r : Rp m H v .none := r
    cases r
    cases q
    exact .none
  | .num i, v, u, r, q => by
    have r : Rp m H v (.int i) := r
    cases r
    obtain ⟨t, rfl⟩ := q
    exact .int i t
  | .text x, v, u, r, q => by
    have r : Rp m H v (.str x) := r
    cases r
    obtain ⟨t, rfl⟩ := q
    exact .text x t
  | .tup ks, v, u, r, q => by
    have r : Rp m H v (.tuple (NestedKey.datas ks)) := r
    cases r with
    | tup e n ra =>
      cases q
      obtain ⟨_, its, rv, o, h1, h2, n', h3⟩ := (show ObjOk P w H h _ (.tup _) from ok _ _ e)
      exact .tup h1 h2 h3 (by simpa using nested_all ok ks ra rv)
theorem nested_all (ok : HOk P w H h) : ∀ (ks : List NestedKey) {vs : List V} {us : List Value}, RpA m H vs (NestedKey.datas ks) → Vals vs us → NestedAll h ks us
  | [], vs, us, r, q => by
    have r : RpA m H vs [] := r
    cases r
    cases q
    exact .nil
  | k :: ks, vs, us, r, q => by
    have r : RpA m H vs (k.data :: NestedKey.datas ks) := r
    cases r with
    | cons r1 r2 =>
      cases q with
      | cons q1 q2 => exact .cons (nested_at ok k r1 q1) (nested_all ok ks r2 q2)
end
mutual
theorem nk_data : ∀ {d : PyData} {k : NestedKey}, nkOf d = some k → k.data = d
  | .none, k, e => by cases e; rfl
  | .int i, k, e => by cases e; rfl
  | .str x, k, e => by cases e; rfl
  | .tuple ds, k, e => by
    obtain ⟨ks, e1, rfl⟩ := Option.map_eq_some_iff.mp (show (nksOf ds).map NestedKey.tup = some k from e)
    show PyData.tuple (NestedKey.datas ks) = _
    rw [nks_data e1]
  | .bool b, k, e => by cases e
  | .list ds, k, e => by cases e
  | .dict ds, k, e => by cases e
theorem nks_data : ∀ {ds : List PyData} {ks : List NestedKey}, nksOf ds = some ks → NestedKey.datas ks = ds
  | [], ks, e => by cases e; rfl
  | d :: ds, ks, e => by
    obtain ⟨k, e1, e2⟩ := Option.bind_eq_some_iff.mp (show (nkOf d).bind (fun k => (nksOf ds).map (k :: ·)) = some ks from e)
    obtain ⟨ks', e3, rfl⟩ := Option.map_eq_some_iff.mp e2
    show k.data :: NestedKey.datas ks' = _
    rw [nk_data e1, nks_data e3]
end
theorem keyN_at {d : PyData} {k : NestedKey} (e : keyN d = some k) : k.data = d ∧ k.depth ≤ 8 := by
  unfold keyN at e
  split at e
  · rename_i ds
    obtain ⟨ks, e1, e2⟩ := Option.bind_eq_some_iff.mp e
    split at e2
    · rename_i hd
      cases e2
      refine ⟨?_, ?_⟩
      · show PyData.tuple (NestedKey.datas ks) = _
        rw [nks_data e1]
      · show NestedKey.depthAll ks + 1 ≤ 8
        omega
    · cases e2
  · cases e
/-- the value is a tuple -/
theorem keyN_ref {d : PyData} {k : NestedKey} {v : V} (e : keyN d = some k) (r : Rp m H v d) : ∃ b, v = .ref b := by
  unfold keyN at e
  split at e
  · cases r
    exact ⟨_, rfl⟩
  · cases e
end
/-! ### tables -/
abbrev EN : List (NestedKey × Addr × V) → List (NestedKey × Addr × Value) → Prop := Paired fun (p : NestedKey × Addr × V) (q : NestedKey × Addr × Value) => p.1 = q.1 ∧ p.2.1 = q.2.1 ∧ RelV p.2.2 q.2.2
def valN (xs : List (NestedKey × Addr × V)) (k : NestedKey) : Option V := (xs.find? fun x => decide (x.1 = k)).map (·.2.2)
def putN (xs : List (NestedKey × Addr × V)) (k : NestedKey) (b : Addr) (v : V) : List (NestedKey × Addr × V) :=
  if (xs.any fun x => decide (x.1 = k)) = true then xs.map (fun x => if x.1 = k then (x.1, x.2.1, v) else x) else xs ++ [(k, b, v)]
theorem EN.val {xs : List (NestedKey × Addr × V)} {ys : List (NestedKey × Addr × Value)} (r : EN xs ys) (k : NestedKey) : RelO (valN xs k) ((atKey ys k).map (·.2)) := by
  induction r with
  | nil => exact True.intro
  | @cons p q ps qs h t ih =>
    obtain ⟨h1, h2, h3⟩ := h
    by_cases e : p.1 = k
    · have e' : q.1 = k := h1.symm.trans e
      have a : valN (p :: ps) k = some p.2.2 := by simp [valN, List.find?_cons, e]
      have b : atKey (q :: qs) k = some q.2 := by simp [atKey, List.find?_cons, e']
      rw [a, b]; exact h3
    · have e' : ¬ q.1 = k := fun z => e (h1.trans z)
      have a : valN (p :: ps) k = valN ps k := by simp [valN, List.find?_cons, e]
      have b : atKey (q :: qs) k = atKey qs k := by simp [atKey, List.find?_cons, e']
      rw [a, b]; exact ih
theorem EN.any {xs : List (NestedKey × Addr × V)} {ys : List (NestedKey × Addr × Value)} (r : EN xs ys) (k : NestedKey) : (xs.any fun x => decide (x.1 = k)) = (atKey ys k).isSome := by
  induction r with
  | nil => rfl
  | @cons p q ps qs h t ih =>
    rw [List.any_cons, ih]
    by_cases e : p.1 = k
    · have e' : q.1 = k := h.1.symm.trans e
      simp [atKey, List.find?_cons, e, e']
    · have e' : ¬ q.1 = k := fun z => e (h.1.trans z)
      simp [atKey, List.find?_cons, e, e']
theorem EN.repl {xs : List (NestedKey × Addr × V)} {ys : List (NestedKey × Addr × Value)} (r : EN xs ys) (k : NestedKey) {v : V} {u : Value} (rv : RelV v u) : EN (xs.map fun x => if x.1 = k then (x.1, x.2.1, v) else x) (ys.map (putAt k u)) := by
  induction r with
  | nil => exact .nil
  | @cons p q ps qs h t ih =>
    rw [List.map_cons, List.map_cons]
    refine .cons ?_ ih
    obtain ⟨h1, h2, h3⟩ := h
    unfold putAt
    by_cases e : p.1 = k
    · rw [if_pos e, if_pos (h1.symm.trans e)]; exact ⟨h1, h2, rv⟩
    · rw [if_neg e, if_neg (fun z => e (h1.trans z))]; exact ⟨h1, h2, h3⟩
theorem EN.put {xs : List (NestedKey × Addr × V)} {ys : List (NestedKey × Addr × Value)} (r : EN xs ys) (k : NestedKey) {b : Addr} {v : V} {u : Value} (rv : RelV v u) : EN (putN xs k b v) (storedH ys k b u) := by
  unfold putN storedH
  rw [r.any k]
  by_cases q : (atKey ys k).isSome = true
  · rw [if_pos q, if_pos q]; exact r.repl k rv
  · rw [if_neg q, if_neg q]; exact Paired.snoc r ⟨rfl, rfl, rv⟩
theorem putN_len (xs : List (NestedKey × Addr × V)) (k : NestedKey) (b : Addr) (v : V) : (putN xs k b v).length ≤ xs.length + 1 := by
  unfold putN
  split
  · rw [List.length_map]; omega
  · simp
section
variable {K : PySem.W.Frag} {m : Mp} {H : Hp}
theorem PN.val {xs : List (NestedKey × Addr × V)} {kvs : List (NestedKey × PV)} (r : PN K m H xs kvs) (k : NestedKey) : (valN xs k = none ∧ valP kvs k = none) ∨ ∃ v x, valN xs k = some v ∧ valP kvs k = some x ∧ RV K m H v x := by
  induction r with
  | nil => exact .inl ⟨rfl, rfl⟩
  | @cons p q ps qs h t ih =>
    obtain ⟨⟨h1, h1'⟩, h2, h3⟩ := h
    by_cases e : p.1 = k
    · have e' : q.1 = k := h1.symm.trans e
      refine .inr ⟨p.2.2, q.2, by simp [valN, List.find?_cons, e], by simp [valP, List.find?_cons, e'], h3⟩
    · have e' : ¬ q.1 = k := fun z => e (h1.trans z)
      have a : valN (p :: ps) k = valN ps k := by simp [valN, List.find?_cons, e]
      have b : valP (q :: qs) k = valP qs k := by simp [valP, List.find?_cons, e']
      rw [a, b]; exact ih
theorem PN.any {xs : List (NestedKey × Addr × V)} {kvs : List (NestedKey × PV)} (r : PN K m H xs kvs) (k : NestedKey) : (xs.any fun x => decide (x.1 = k)) = kvs.any fun x => decide (x.1 = k) := by
  induction r with
  | nil => rfl
  | @cons p q ps qs h t ih => rw [List.any_cons, List.any_cons, ih, h.1.1]
theorem PN.repl {xs : List (NestedKey × Addr × V)} {kvs : List (NestedKey × PV)} (r : PN K m H xs kvs) (k : NestedKey) {v : V} {x : PV} (rv : RV K m H v x) : PN K m H (xs.map fun x => if x.1 = k then (x.1, x.2.1, v) else x) (kvs.map fun kv => if kv.1 = k then (kv.1, x) else kv) := by
  induction r with
  | nil => exact .nil
  | @cons p q ps qs h t ih =>
    rw [List.map_cons, List.map_cons]
    refine .cons ?_ ih
    obtain ⟨⟨h1, h1'⟩, h2, h3⟩ := h
    by_cases e : p.1 = k
    · rw [if_pos e, if_pos (h1.symm.trans e)]; exact ⟨⟨h1, h1'⟩, h2, rv⟩
    · rw [if_neg e, if_neg (fun z => e (h1.trans z))]; exact ⟨⟨h1, h1'⟩, h2, h3⟩
theorem PN.put {xs : List (NestedKey × Addr × V)} {kvs : List (NestedKey × PV)} (r : PN K m H xs kvs) {k : NestedKey} {b : Addr} {v : V} {x : PV} (hd : k.depth ≤ 8) (hb : Rp m H (.ref b) k.data) (rv : RV K m H v x) : PN K m H (putN xs k b v) (putP kvs k x) := by
  unfold putN putP
  rw [r.any k]
  split
  · exact r.repl k rv
  · exact PairedApp r (.cons ⟨⟨rfl, hd⟩, hb, rv⟩ .nil)
theorem PN.len {xs : List (NestedKey × Addr × V)} {kvs : List (NestedKey × PV)} (r : PN K m H xs kvs) : xs.length = kvs.length := Paired.length r
end
/-! ### the object -/
section
variable {X : Cx} {pins : List (Addr × Obj)} {σ : Sv} {H : Hp} {s : Shared} {K : PySem.W.Frag} {m : Mp} {a : Addr} {xs : List (NestedKey × Addr × V)} {kvs : List (NestedKey × PV)} {A : Around} {E : Value → Shared → Prop}
theorem nd_ok {P : Program} {w : World} {h : Heap} (φ : NDf w a xs h) : ObjOk P w H h a (ND w a xs) := by
  refine ⟨φ, ?_, fun h1 h2 p k => ?_⟩
  · obtain ⟨_, _, ys, _, o, es, ep, ho, _⟩ := φ
    exact ⟨o, ho⟩
  · obtain ⟨z, hs, ys, r, o, es, ep, ho, q⟩ := p
    exact ⟨z, hs, ys, r, o, es, ep, k o ho, q⟩
/-- what is known of it in the heap -/
theorem nd_at (hw : X.w = TheW.w) (I : Inv X pins σ H s) (ha : Rd H a (ND TheW.w a xs)) (r : PN K m H xs kvs) : xs.length ≤ sizeLine ∧ (a == sysModules) = false ∧ ∃ ys, EN xs ys ∧ s.heap.DictOfH (nestedKind X.prog X.w) a ys := by
  obtain ⟨⟨z, hs, ys, rel, o, es, ep, ho, hx, hd, he, hn⟩, _, _⟩ := (show ObjOk X.prog X.w H s.heap a (ND TheW.w a xs) from ha.ok I.hok)
  refine ⟨z, hs, ys, rel, o, es, ep, ho, hx, hd, ?_, fun y hy => ?_, hn⟩
  · rw [he, ← hw]; rfl
  · have all : ∀ {xs : List (NestedKey × Addr × V)} {ys : List (NestedKey × Addr × Value)} {kvs : List (NestedKey × PV)}, EN xs ys → PN K m H xs kvs → ∀ y ∈ ys, (nestedKind X.prog X.w).is s.heap y.1 y.2.1 := by
      intro xs ys kvs q
      induction q generalizing kvs with
      | nil => intro _ x hx; exact nomatch hx
      | @cons p q ps qs hq t ih =>
        intro r x hx
        cases r with
        | cons r1 r2 =>
          rcases List.mem_cons.mp hx with e | hx
          · subst e
            rw [← hq.1, ← hq.2.1]
            exact ⟨nested_at I.hok _ r1.2.1 rfl, r1.1.2⟩
          · exact ih r2 x hx
    exact all rel r y hy
/-- .. and of it as it was written anew -/
theorem nd_new (hw : X.w = TheW.w) {H' : Hp} {h' : Heap} {ys : List (NestedKey × Addr × Value)} (z : xs.length ≤ sizeLine) (hs : (a == sysModules) = false) (rel : EN xs ys) (d : h'.DictOfH (nestedKind X.prog X.w) a ys) : ObjOk X.prog X.w H' h' a (ND TheW.w a xs) := by
  obtain ⟨o, es, ep, ho, hx, hd, he, _, hn⟩ := d
  have f : ObjOk X.prog X.w H' h' a (ND X.w a xs) := nd_ok ⟨z, hs, ys, rel, o, es, ep, ho, hx, hd, he, hn⟩
  rw [hw] at f
  exact f
/-- what a dict holds there: of any kind -/
def GetX (K : PySem.W.Frag) (H : Hp) (a : Addr) (y : V) (o : Option V) : Prop := DGet H a y o ∨ ∃ (m : Mp) (xs : List (NestedKey × Addr × V)) (kvs : List (NestedKey × PV)) (k : NestedKey) (b : Addr), Rd H a (ND TheW.w a xs) ∧ PN K m H xs kvs ∧ y = .ref b ∧ Rp m H (.ref b) k.data ∧ k.depth ≤ 8 ∧ o = valN xs k
theorem roomN {A : Around} (hu : A.units + 64 < cLine) : (nestedKind X.prog X.w).room A.in1 := by
  show A.in1.units + 8 < cLine
  simp only [Around.in1_units]
  omega
theorem dictX_typeIs {y : V} {o : Option V} (hw : X.w = TheW.w) (I : Inv X pins σ H s) (g : GetX K H a y o) : s.TypeIs (.ref a) "dict" := by
  rcases g with g | ⟨m, xs, kvs, k, b, e, r, rfl, rb, hd, l⟩
  · exact dict_typeIs I g
  · obtain ⟨z, hs, ys, rel, dd⟩ := nd_at hw I e r
    exact dd.typeIs
theorem x_getItem {y v : V} {u : Value} {Q : Value → Shared → Prop} (hw : X.w = TheW.w) (hu : A.units + 64 < cLine) (I : Inv X pins σ H s) (g : GetX K H a y (some v)) (ry : RelV y u) (h : ∀ w' s', Inv X pins σ H s' → RelV v w' → Q w' s') :
    wpAny (model X.prog X.w) A (getItem (.ref a) u) Q E s := by
  rcases g with g | ⟨m, xs, kvs, k, b, e, r, rfl, rb, hd, l⟩
  · exact d_getItem (by omega) I g ry h
  · cases ry
    obtain ⟨z, hs, ys, rel, dd⟩ := nd_at hw I e r
    obtain ⟨w', e1, rw'⟩ := RelO.some_of (v := v) (o := (atKey ys k).map (·.2)) (by rw [l]; exact rel.val k)
    obtain ⟨p, hp, hp2⟩ := Option.map_eq_some_iff.mp e1
    refine wpAny_getItem_heap (roomN hu) ⟨nested_at I.hok k rb rfl, hd⟩ dd hp ?_
    rw [hp2]
    exact h w' _ (I.tok _) rw'
theorem x_in {y : V} {u : Value} {o : Option V} {Q : Value → Shared → Prop} (hw : X.w = TheW.w) (hu : A.units + 64 < cLine) (I : Inv X pins σ H s) (g : GetX K H a y o) (ry : RelV y u) (h : ∀ s', Inv X pins σ H s' → Q (.bool o.isSome) s') :
    wpAny (model X.prog X.w) A (compareOp .In u (.ref a)) Q E s := by
  rcases g with g | ⟨m, xs, kvs, k, b, e, r, rfl, rb, hd, l⟩
  · exact d_in (by omega) I g ry h
  · cases ry
    obtain ⟨z, hs, ys, rel, dd⟩ := nd_at hw I e r
    refine wpAny_in_heap (roomN hu) ⟨nested_at I.hok k rb rfl, hd⟩ hs dd ?_
    have q := (rel.val k).isSome_eq
    rw [Option.isSome_map] at q
    rw [← q, ← l]
    exact h _ (I.tok _)
theorem x_notIn {y : V} {u : Value} {o : Option V} {Q : Value → Shared → Prop} (hw : X.w = TheW.w) (hu : A.units + 64 < cLine) (I : Inv X pins σ H s) (g : GetX K H a y o) (ry : RelV y u) (h : ∀ s', Inv X pins σ H s' → Q (.bool (!o.isSome)) s') :
    wpAny (model X.prog X.w) A (compareOp .NotIn u (.ref a)) Q E s := by
  rcases g with g | ⟨m, xs, kvs, k, b, e, r, rfl, rb, hd, l⟩
  · exact d_notIn (by omega) I g ry h
  · cases ry
    obtain ⟨z, hs, ys, rel, dd⟩ := nd_at hw I e r
    refine wpAny_notIn_heap (roomN hu) ⟨nested_at I.hok k rb rfl, hd⟩ hs dd ?_
    have q := (rel.val k).isSome_eq
    rw [Option.isSome_map] at q
    rw [← q, ← l]
    exact h _ (I.tok _)
theorem x_get2 {y d : V} {u r : Value} {o : Option V} {Q : Value → Shared → Prop} (hw : X.w = TheW.w) (hu : A.units + 64 < cLine) (I : Inv X pins σ H s) (g : GetX K H a y o) (ry : RelV y u) (rd : RelV d r) (h : ∀ w' s', Inv X pins σ H s' → RelV (o.getD d) w' → Q w' s') :
    wpAny (model X.prog X.w) A (call (.builtin "dict.get") [.ref a, u, r]) Q E s := by
  rcases g with g | ⟨m, xs, kvs, k, b, e, rp, rfl, rb, hd, l⟩
  · exact d_get2 (by omega) I g ry rd h
  · cases ry
    obtain ⟨z, hs, ys, rel, dd⟩ := nd_at hw I e rp
    refine call_meetsIn PySem.F.slot_dict_get dd.typeIs PySem.F.entry_dict_get (PySem.F.args_dict_get_3 _ _ _) (meetsH_dict_get_default (nestedKind X.prog X.w) a b hs r) ⟨roomN hu, k, ys, ⟨nested_at I.hok k rb rfl, hd⟩, dd, h _ _ (I.tok _) ?_⟩
    rw [l]
    exact (rel.val k).getD rd
theorem n_setItem {k : NestedKey} {b : Addr} {v : V} {r : Value} {Q : Unit → Shared → Prop} (hw : X.w = TheW.w) (hu : A.units + 64 < cLine) (I : Inv X pins σ H s) (e : H a = some (ND TheW.w a xs)) (rp : PN K m H xs kvs) (rb : Rp m H (.ref b) k.data) (hd : k.depth ≤ 8) (hl : xs.length < sizeLine) (rv : RelV v r)
    (h : ∀ s', Inv X pins σ (upd H a (ND TheW.w a (putN xs k b v))) s' → Q () s') : wpAny (model X.prog X.w) A (setItem (.ref a) (.ref b) r) Q E s := by
  obtain ⟨z, hs, ys, rel, dd⟩ := nd_at hw I (.inl e) rp
  have hz : ys.length ≤ sizeLine := by rw [← Paired.length rel]; exact z
  have hl2 : (putN xs k b v).length ≤ sizeLine := by have := putN_len xs k b v; omega
  refine wpAny_setItem_heap (hsz := hz) (roomN hu) ⟨nested_at I.hok k rb rfl, hd⟩ dd fun h' dd' sb => h _ ?_
  have he : ∃ q, h'.get? a = some q := let ⟨q, _, _, hq, _⟩ := dd'; ⟨q, hq⟩
  exact d_write I (by rw [e]; exact True.intro) sb he (nd_new hw hl2 hs (rel.put k rv) dd')
theorem n_setd {k : NestedKey} {b : Addr} {v : V} {r : Value} {Q : Value → Shared → Prop} (hw : X.w = TheW.w) (hu : A.units + 64 < cLine) (I : Inv X pins σ H s) (e : H a = some (ND TheW.w a xs)) (rp : PN K m H xs kvs) (rb : Rp m H (.ref b) k.data) (hd : k.depth ≤ 8) (hl : xs.length < sizeLine) (rv : RelV v r)
    (h1 : ∀ v', valN xs k = some v' → ∀ (w' : Value) (s' : Shared), Inv X pins σ H s' → RelV v' w' → Q w' s') (h2 : valN xs k = none → ∀ (s' : Shared), Inv X pins σ (upd H a (ND TheW.w a (putN xs k b v))) s' → Q r s') : wpAny (model X.prog X.w) A (call (.builtin "dict.setdefault") [.ref a, .ref b, r]) Q E s := by
  obtain ⟨z, hs, ys, rel, dd⟩ := nd_at hw I (.inl e) rp
  have hz : ys.length ≤ sizeLine := by rw [← Paired.length rel]; exact z
  have hl2 : (putN xs k b v).length ≤ sizeLine := by have := putN_len xs k b v; omega
  have q := rel.val k
  refine call_setdefault_heap (hsz := hz) (roomN hu) ⟨nested_at I.hok k rb rfl, hd⟩ hs dd (fun p hp => ?_) fun hn h' dd' sb => ?_
  · rw [hp] at q
    cases q0 : valN xs k with
    | none => rw [q0] at q; exact (show False from q).elim
    | some v0 => rw [q0] at q; exact h1 v0 q0 _ _ (I.tok _) q
  · rw [hn] at q
    cases q0 : valN xs k with
    | some v0 => rw [q0] at q; exact (show False from q).elim
    | none =>
      have he : ∃ q, h'.get? a = some q := let ⟨q, _, _, hq, _⟩ := dd'; ⟨q, hq⟩
      exact h2 q0 _ (d_write I (by rw [e]; exact True.intro) sb he (nd_new hw hl2 hs (rel.put k rv) dd'))
theorem t_setd {kv : List (List Key × V)} {k : List Key} {b : Addr} {v : V} {r : Value} {Q : Value → Shared → Prop} (hu : A.units + 64 < cLine) (I : Inv X pins σ H s) (e : H a = some (.dT kv)) (eb : H b = some (.tup (k.map kV))) (hl : kv.length < sizeLine) (rv : RelV v r)
    (h1 : ∀ v', valV kv k = some v' → ∀ (w' : Value) (s' : Shared), Inv X pins σ H s' → RelV v' w' → Q w' s') (h2 : valV kv k = none → ∀ (s' : Shared), Inv X pins σ (upd H a (.dT (putK kv k v))) s' → Q r s') : wpAny (model X.prog X.w) A (call (.builtin "dict.setdefault") [.ref a, .ref b, r]) Q E s := by
  obtain ⟨z, hs, ys, rel, dd⟩ := dt_of I.hok e
  have hz : ys.length ≤ sizeLine := by rw [← Paired.length rel]; exact z
  have hl2 : (putK kv k v).length ≤ sizeLine := by have := length_putK kv k v; omega
  have q := rel.val k
  refine call_setdefault_heap (hsz := hz) (tupleKind_room_in1 (by omega)) (key_of I.hok eb) hs dd (fun p hp => ?_) fun hn h' dd' sb => ?_
  · rw [hp] at q
    cases q0 : valV kv k with
    | none => rw [q0] at q; exact (show False from q).elim
    | some v0 => rw [q0] at q; exact h1 v0 q0 _ _ (I.tok _) q
  · rw [hn] at q
    cases q0 : valV kv k with
    | some v0 => rw [q0] at q; exact (show False from q).elim
    | none =>
      obtain ⟨q, es, ep, hq, h3, h4, h5, _, h6⟩ := dd'
      refine h2 q0 _ (d_write I (by rw [e]; exact True.intro) sb ⟨q, hq⟩ ⟨hl2, hs, _, (rel.put k eb rv).keeps fun c ys ec => ?_, q, es, ep, hq, h3, h4, h5, h6⟩)
      rw [upd_ne (ne_of ec e (fun z => nomatch z))]
      exact ec
/-! ### d.update(list of pairs) -/
abbrev PairN (m : Mp) (H : Hp) : List Addr → List (NestedKey × Addr × V) → Prop := Paired fun (p : Addr) (x : NestedKey × Addr × V) => H p = some (.tup [.ref x.2.1, x.2.2]) ∧ Rp m H (.ref x.2.1) x.1.data ∧ x.1.depth ≤ 8
def mergeN (xs more : List (NestedKey × Addr × V)) : List (NestedKey × Addr × V) := more.foldl (fun acc x => putN acc x.1 x.2.1 x.2.2) xs
theorem pairs_ofN (I : Inv X pins σ H s) : ∀ {ps : List Addr} {zs : List (NestedKey × Addr × V)}, PairN m H ps zs →
    ∃ ys : List (NestedKey × Addr × Value), EN zs ys ∧ (∀ y ∈ ys, (nestedKind X.prog X.w).is s.heap y.1 y.2.1) ∧ ∀ (j : Nat) (q : NestedKey × Addr × Value), ys[j]? = some q → ∃ b, ps[j]? = some b ∧ IsTup s.heap b #[.ref q.2.1, q.2.2]
  | _, _, .nil => ⟨[], .nil, (fun _ h => nomatch h), fun j q e => by simp at e⟩
  | _, _, .cons (a := p) (b := x) h t => by
    obtain ⟨ys, r, hk, hp⟩ := pairs_ofN I t
    obtain ⟨its, rv, ht, _⟩ := I.tuple (SqT.of h.1)
    obtain ⟨u, y, ei, ru, ry⟩ := vals2 rv
    subst ei
    cases ru
    refine ⟨(x.1, x.2.1, y) :: ys, .cons ⟨rfl, rfl, ry⟩ r, fun z hz => ?_, fun j q e => ?_⟩
    · rcases List.mem_cons.mp hz with e | hz
      · subst e
        exact ⟨nested_at I.hok _ h.2.1 rfl, h.2.2⟩
      · exact hk z hz
    · cases j with
      | zero =>
        have e' : (x.1, x.2.1, y) = q := Option.some.inj e
        subst e'
        exact ⟨p, rfl, ht⟩
      | succ j => exact hp j q (by simpa using e)
theorem mergeN_EN : ∀ {zs : List (NestedKey × Addr × V)} {ys : List (NestedKey × Addr × Value)} {x0 : List (NestedKey × Addr × V)} {y0 : List (NestedKey × Addr × Value)}, EN zs ys → EN x0 y0 → EN (mergeN x0 zs) (storedAllH y0 ys)
  | _, _, _, _, .nil, k => k
  | _, _, _, _, .cons (a := x) (b := y) h t, k => by
    have := EN.put k x.1 (b := x.2.1) h.2.2
    refine mergeN_EN (x0 := putN _ _ _ _) (y0 := storedH _ _ _ _) t ?_
    rw [← h.1, ← h.2.1]
    exact this
theorem mergeN_PN : ∀ {zs : List (NestedKey × Addr × V)} {ds : List (NestedKey × PV)} {x0 : List (NestedKey × Addr × V)} {y0 : List (NestedKey × PV)}, PN K m H zs ds → PN K m H x0 y0 → PN K m H (mergeN x0 zs) (mergeP y0 ds)
  | _, _, _, _, .nil, k => k
  | _, _, _, _, .cons (a := x) (b := y) h t, k => by
    obtain ⟨⟨h1, h2⟩, h3, h4⟩ := h
    have := PN.put k h2 h3 h4
    refine mergeN_PN (x0 := putN _ _ _ _) (y0 := putP _ _ _) t ?_
    rw [← h1]
    exact this
theorem mergeN_len (zs : List (NestedKey × Addr × V)) : ∀ x0 : List (NestedKey × Addr × V), (mergeN x0 zs).length ≤ x0.length + zs.length := by
  induction zs with
  | nil => exact fun _ => Nat.le_refl _
  | cons z zs ih =>
    intro x0
    have h1 := ih (putN x0 z.1 z.2.1 z.2.2)
    have h2 := putN_len x0 z.1 z.2.1 z.2.2
    show (mergeN (putN x0 z.1 z.2.1 z.2.2) zs).length ≤ _
    rw [List.length_cons]
    omega
theorem n_upd {l : Addr} {ps : List Addr} {zs : List (NestedKey × Addr × V)} {Q : Value → Shared → Prop} (hw : X.w = TheW.w) (hh : A.handled = none) (hu : A.units + 64 < cLine) (I : Inv X pins σ H s) (e : H a = some (ND TheW.w a xs)) (rp : PN K m H xs kvs)
    (hl : SqL X.K H l (ps.map V.ref)) (hp : PairN m H ps zs) (hz : xs.length + zs.length ≤ sizeLine) (h : ∀ (s' : Shared), Inv X pins σ (upd H a (ND TheW.w a (mergeN xs zs))) s' → Q .none s') : wpAny (model X.prog X.w) A (call (.builtin "dict.update") [.ref a, .ref l]) Q E s := by
  obtain ⟨z, hs, ys, rel, dd⟩ := nd_at hw I (.inl e) rp
  obtain ⟨its, rv, pl, _⟩ := I.list hl
  have ei := refs_at rv
  subst ei
  obtain ⟨us, rz, hk, hx⟩ := pairs_ofN I hp
  obtain ⟨o, n, ho, hc, hd, hdat⟩ := pl
  have lz : us.length = zs.length := (Paired.length rz).symm
  have lps : ps.length = zs.length := Paired.length hp
  have lxs : xs.length = ys.length := Paired.length rel
  have hal : a ≠ l := by
    rintro rfl
    obtain ⟨o1, es, ep, q1, q2, q3, _⟩ := dd
    rw [ho] at q1; cases q1
    rw [q2.1] at hc; injection hc with hc; exact absurd hc (by decide)
  have hap : ∀ p ∈ ps, a ≠ p := by
    intro p hp1 z1
    subst z1
    obtain ⟨i, hi⟩ := List.getElem?_of_mem hp1
    have hi' : i < us.length := by
      have := (List.getElem?_eq_some_iff.mp hi).1
      omega
    obtain ⟨b, e3, e4⟩ := hx i us[i] (by simp [hi'])
    rw [hi] at e3; cases e3
    obtain ⟨o2, g1, g2, _⟩ := e4
    obtain ⟨o1, es, ep, q1, q2, q3, _⟩ := dd
    rw [q1] at g1; cases g1
    rw [q2.1] at g2; injection g2 with g2; exact absurd g2 (by decide)
  have stay : ∀ h', (∀ b o, b ≠ a → b ∉ ([] : List Addr) → s.heap.get? b = some o → h'.get? b = some o) → ∀ x ∈ ys ++ us, (nestedKind X.prog X.w).is h' x.1 x.2.1 := by
    intro h' hk' x hx'
    obtain ⟨o1, es, ep, q1, q2, q3, _, q5, _⟩ := id dd
    have old : (nestedKind X.prog X.w).is s.heap x.1 x.2.1 := by
      rcases List.mem_append.mp hx' with q | q
      · exact q5 x q
      · exact hk x q
    refine nestedKind_stays.stays (prog := X.prog) (w := X.w) (fun b ob vs n hb hv => hk' b ob (fun z => ?_) (fun z => nomatch z) hb) old
    subst z
    rw [q1] at hb; cases hb
    rw [q3] at hv; cases hv
  refine call_update_pairsH (knd := nestedKind X.prog X.w) (ps := us) (PairArg.list l (ps.map Value.ref).toArray (fun j => ps.getD j 0) (us.map fun q => (.ref q.2.1, q.2.2))) hh (roomN hu) ?_ ?_ ?_ stay dd ?_ fun h' tk hd' k => h _ ?_
  · refine ⟨⟨o, n, ho, hc, hd, hdat⟩, by simp [lz, lps], fun j kk v e => ?_⟩
    rw [List.getElem?_map] at e
    obtain ⟨q, e1, e2⟩ := Option.map_eq_some_iff.mp e
    cases e2
    obtain ⟨b, e3, e4⟩ := hx j q e1
    have e5 : ps.getD j 0 = b := by simp [List.getD, e3]
    refine ⟨by simp [e3], ?_⟩
    show PairAt s.heap (ps.getD j 0) _ _
    rw [e5]
    exact .inl e4
  · intro hm
    rcases List.mem_cons.mp hm with q | q
    · exact hal q
    · obtain ⟨j, hj, rfl⟩ := List.mem_map.mp q
      have hj : j < us.length := by simpa using hj
      refine hap (ps.getD j 0) ?_ rfl
      have : ps[j]? = some ps[j] := by simp [show j < ps.length by omega]
      rw [List.getD_eq_getElem?_getD, this]
      exact List.getElem_mem _
  · refine ⟨by simp, fun i key v e => ?_⟩
    have e : (us.map fun q => (Value.ref q.2.1, q.2.2))[i]? = some (key, v) := e
    rw [List.getElem?_map] at e
    obtain ⟨q, e1, e2⟩ := Option.map_eq_some_iff.mp e
    cases e2
    exact ⟨q.1, q.2.1, e1, rfl⟩
  · rw [List.length_map, lz, ← lxs]; exact hz
  · have hl2 : (mergeN xs zs).length ≤ sizeLine := Nat.le_trans (mergeN_len zs xs) hz
    have he : ∃ q, h'.get? a = some q := let ⟨q, _, _, hq, _⟩ := hd'; ⟨q, hq⟩
    exact I.write (x := a) (e := a) (t' := tk) (by rw [e]; exact True.intro) (.inl rfl) (fun b q hb z => k b q hb (fun z => nomatch z) z) he (nd_new hw hl2 hs (mergeN_EN rz rel) hd')
end
end Iw
end

section
set_option Elab.async false
set_option linter.all false
set_option maxRecDepth 100000
/-! a locked dict is walked: keys, values, items, whatever its keys are -/
namespace Iw
open PySem PySem.Spec PyProof.Rows L2
variable [TheW]
/-- the entries of an object, as values -/
def Ent (d : Addr) (od : Obj) (ws : List (V × V)) : Prop := (d == sysModules) = false ∧ od.ExactDict ∧ ∃ (es : Array DictEntry) (ep : Nat), od.data = .dict es ep ∧ es.size = ws.length ∧ ∀ (i : Nat) (k v : V), ws[i]? = some (k, v) → ∃ en : DictEntry, es[i]? = some en ∧ RelV k en.key ∧ RelV v en.val
def ItW0 (d : Addr) (od : Obj) (u : HO) (ws : List (V × V)) : L2.It := ⟨fun i H => H d = some (.frz od u) ∧ i < ws.length, fun i H x H' => H' = H ∧ ∃ v, ws[i]? = some (x, v), fun i H => H d = some (.frz od u) ∧ ws.length ≤ i⟩
def ItW1 (d : Addr) (od : Obj) (u : HO) (ws : List (V × V)) : L2.It := ⟨fun i H => H d = some (.frz od u) ∧ i < ws.length, fun i H x H' => H' = H ∧ ∃ k, ws[i]? = some (k, x), fun i H => H d = some (.frz od u) ∧ ws.length ≤ i⟩
def ItW2 (d : Addr) (od : Obj) (u : HO) (ws : List (V × V)) : L2.It := ⟨fun i H => H d = some (.frz od u) ∧ i < ws.length, fun i H x H' => ∃ T k v, ws[i]? = some (k, v) ∧ x = .ref T ∧ H T = none ∧ H' = upd H T (.tup [k, v]), fun i H => H d = some (.frz od u) ∧ ws.length ≤ i⟩
section
variable {P : Program} {w : World} {K : PySem.W.Frag} {tg : Expr} {d : Addr} {od : Obj} {es : Array DictEntry} {ep : Nat} {ws : List (V × V)} {u : HO}
theorem frz_at {X : Cx} {pins : List (Addr × Obj)} {σ : Sv} {H : Hp} {s : Shared} (I : Inv X pins σ H s) (h : H d = some (.frz od u)) : s.heap.get? d = some od := (I.hok d _ h).1
theorem raw_at {X : Cx} {pins : List (Addr × Obj)} {σ : Sv} {H : Hp} {s : Shared} (I : Inv X pins σ H s) (h : H d = some (.frz od u)) (en : Ent d od ws) (hd : od.data = .dict es ep) : s.heap.DictRaw d es ep ∧ es.size = ws.length ∧ ∀ (i : Nat) (k v : V), ws[i]? = some (k, v) → ∃ en : DictEntry, es[i]? = some en ∧ RelV k en.key ∧ RelV v en.val := by
  obtain ⟨_, hx, es', ep', h1, h2, h3⟩ := en
  obtain ⟨rfl, rfl⟩ := dict_ep hd h1
  exact ⟨⟨od, frz_at I h, hx, hd⟩, h2, h3⟩
theorem turn_w0 (it : Addr) (en : Ent d od ws) (hod : od.data = .dict es ep) : Turn P w K tg (ItW0 d od u ws) [it] it (fun i h => h.IsKeyIter it d i ws.length ep) where
  mem := by simp
  obj := fun i h st b hb => by
    have e : b = it := by simpa using hb
    subst e
    obtain ⟨oi, e, c, dd⟩ := st
    exact ⟨oi, e, fun v z => by rw [dd] at z; cases z⟩
  keep := fun i h h' st k => st.at fun oi e => k it (by simp) oi e
  item := by
    intro X hP hw hK hc i pins s σ H E I hf st hg
    subst hP hw hK
    obtain ⟨hd, hi⟩ := hg
    obtain ⟨f0, f1, f2, f3, f4, f5⟩ := hf it (by simp)
    obtain ⟨raw, hsz, ent⟩ := raw_at I hd en hod
    obtain ⟨⟨k, v⟩, hkv⟩ : ∃ p, ws[i]? = some p := ⟨ws[i], List.getElem?_eq_getElem hi⟩
    obtain ⟨e, hen, hkey, _⟩ := ent i k v hkv
    refine next_key_item st (frz_at I hd) hod hsz hen fun h' st' sb => ?_
    have I1 : Inv X pins σ H { s with heap := h' } := I.turned (t' := s.toks) (fun b ob hb e => (sb.2 b hb).trans e) f0 f1 f3 f4 f5
    obtain ⟨oi, e1, c, dd⟩ := id st'
    exact ⟨e.key, rfl, go_of (s := { s with heap := h' }) e1 c dd (by decide) ⟨k, H, I1, hkey, ⟨rfl, v, hkv⟩, st', fun b hb => (hf b hb).1⟩⟩
  done := by
    intro X hP hw hK hc i pins s σ H E I hf st hg
    subst hP hw hK
    obtain ⟨hd, hi⟩ := hg
    obtain ⟨f0, f1, f2, f3, f4, f5⟩ := hf it (by simp)
    obtain ⟨raw, hsz, ent⟩ := raw_at I hd en hod
    exact next_key_end (I.ok.hd hc) st (frz_at I hd) hod hsz hi fun h' eb => ⟨rfl, I.turned (t' := s.toks) (fun b ob hb e => eb b ob hb e) f0 f1 f3 f4 f5⟩
  self := fun A i s Q E st h => by
    refine wpAny_pyIter_slot st.typeIs F.slot_dict_keyiterator_iter (wpAny_call_entry F.slot_dict_keyiterator_iter st.typeIs F.entry_dict_keyiterator_iter ?_ (F.args_dict_keyiterator_iter_1 _))
    show wpAny _ _ (ret (.ref it)) _ _ s
    exact wpAny_pure ⟨_, rfl, "dict_keyiterator", _, st.typeIs, F.slot_dict_keyiterator_next.lookup, h⟩
theorem turn_w1 (it : Addr) (en : Ent d od ws) (hod : od.data = .dict es ep) : Turn P w K tg (ItW1 d od u ws) [it] it (fun i h => h.IsValIter it d i ws.length ep) where
  mem := by simp
  obj := fun i h st b hb => by
    have e : b = it := by simpa using hb
    subst e
    obtain ⟨oi, e, c, dd⟩ := st
    exact ⟨oi, e, fun v z => by rw [dd] at z; cases z⟩
  keep := fun i h h' st k => st.at fun oi e => k it (by simp) oi e
  item := by
    intro X hP hw hK hc i pins s σ H E I hf st hg
    subst hP hw hK
    obtain ⟨hd, hi⟩ := hg
    obtain ⟨f0, f1, f2, f3, f4, f5⟩ := hf it (by simp)
    obtain ⟨raw, hsz, ent⟩ := raw_at I hd en hod
    obtain ⟨⟨k, v⟩, hkv⟩ : ∃ p, ws[i]? = some p := ⟨ws[i], List.getElem?_eq_getElem hi⟩
    obtain ⟨e, hen, _, hval⟩ := ent i k v hkv
    obtain ⟨hlt, rfl⟩ := Array.getElem?_eq_some_iff.mp hen
    rw [← hsz] at st
    refine wpAny_pyNext_values_item_raw st raw hlt fun h' st' sb => ?_
    have I1 : Inv X pins σ H { s with heap := h' } := I.turned (t' := s.toks) (fun b ob hb e => (sb.2 b hb).trans e) f0 f1 f3 f4 f5
    obtain ⟨oi, e1, c, dd⟩ := id st'
    refine ⟨es[i].val, rfl, go_of (s := { s with heap := h' }) e1 c dd (by decide) ⟨v, H, I1, hval, ⟨rfl, k, hkv⟩, ?_, fun b hb => (hf b hb).1⟩⟩
    show h'.IsValIter it d (i + 1) ws.length _
    rw [← hsz]
    exact st'
  done := by
    intro X hP hw hK hc i pins s σ H E I hf st hg
    subst hP hw hK
    obtain ⟨hd, hi⟩ := hg
    obtain ⟨f0, f1, f2, f3, f4, f5⟩ := hf it (by simp)
    obtain ⟨raw, hsz, ent⟩ := raw_at I hd en hod
    rw [← hsz] at st
    exact wpAny_pyNext_values_end_raw (I.ok.hd hc) st raw (by rw [hsz]; exact hi) fun h' eb => ⟨rfl, I.turned (t' := s.toks) (fun b ob hb e => eb b ob hb e) f0 f1 f3 f4 f5⟩
  self := fun A i s Q E st h => wpAny_pyIter_valiter st h
theorem turn_w2 {elts : List Expr} {kk : Nat} {tpos : Pos} (it : Addr) (en : Ent d od ws) (hod : od.data = .dict es ep) :
    Turn P w K (.Tuple elts kk tpos) (ItW2 d od u ws) [it] it (fun i h => ∃ ok ov, IsItemIter h it d i ws.length ep ok ov) where
  mem := by simp
  obj := fun i h st b hb => by
    have e : b = it := by simpa using hb
    subst e
    obtain ⟨ok, ov, e⟩ := st
    exact ⟨_, e, fun v z => nomatch z⟩
  keep := fun i h h' st k => let ⟨ok, ov, e⟩ := st; ⟨ok, ov, k it (by simp) _ e⟩
  item := by
    intro X hP hw hK hc i pins s σ H E I hf st hg
    subst hP hw hK
    obtain ⟨hd, hi⟩ := hg
    obtain ⟨raw, hsz, ent⟩ := raw_at I hd en hod
    obtain ⟨⟨k, v⟩, hkv⟩ : ∃ p, ws[i]? = some p := ⟨ws[i], List.getElem?_eq_getElem hi⟩
    obtain ⟨e, hen, hkey, hval⟩ := ent i k v hkv
    obtain ⟨hlt0, rfl⟩ := Array.getElem?_eq_some_iff.mp hen
    obtain ⟨ok, ov, he⟩ := st
    rw [← hsz] at he
    have hlt : it < s.heap.objs.size := Heap.lt_size he
    refine wpAny_pyNext_items_item_raw he raw hlt0 fun h' ho hT hz hk => ?_
    refine ⟨_, rfl, wpAny_letOwnedTupleGo_items (s := { s with heap := h' }) ho fun h'' he' sb => ?_⟩
    have hT2 : h''.get? s.heap.objs.size = some { cls := .type "tuple", data := .seq #[es[i].key, es[i].val] } := (sb.2 _ (Nat.ne_of_gt hlt)).trans hT
    have new : ObjOk X.prog X.w (upd H s.heap.objs.size (.tup [k, v])) h'' s.heap.objs.size (.tup [k, v]) :=
      ⟨by show 2 ≤ sizeLine; decide, [es[i].key, es[i].val], .cons hkey (.cons hval .nil), ⟨_, hT2, rfl, _, rfl⟩⟩
    have I1 : Inv X pins σ (upd H s.heap.objs.size (.tup [k, v])) { s with heap := h'' } :=
      I.turnedNew (t' := s.toks) (ch := [it]) (fun b ob hb e => (sb.2 b (by simpa using hb)).trans (hk b ob (by simpa using hb) e)) hf (Nat.le_refl _) new
    refine ⟨.ref s.heap.objs.size, _, I1, rfl, ⟨_, k, v, hkv, rfl, I.hok.fresh (Nat.le_refl _), rfl⟩, ⟨es[i].key, es[i].val, ?_⟩, fun b hb => ?_⟩
    · rw [← hsz]; exact he'
    · have e : b = it := by simpa using hb
      rw [e, upd_ne (Nat.ne_of_lt hlt)]
      exact (hf it (by simp)).1
  done := by
    intro X hP hw hK hc i pins s σ H E I hf st hg
    subst hP hw hK
    obtain ⟨hd, hi⟩ := hg
    obtain ⟨f0, f1, f2, f3, f4, f5⟩ := hf it (by simp)
    obtain ⟨raw, hsz, ent⟩ := raw_at I hd en hod
    obtain ⟨ok, ov, he⟩ := st
    rw [← hsz] at he
    exact wpAny_pyNext_items_end_raw (I.ok.hd hc) he raw (by rw [hsz]; exact hi) fun h' eb => ⟨rfl, I.turned (t' := s.toks) (fun b ob hb e => eb b ob hb e) f0 f1 f3 f4 f5⟩
  self := fun A i s Q E st h => let ⟨_, _, e⟩ := st; PySem.W.kcp_self e h
end
/-! ### entries of the run's dicts -/
section
variable {X : Cx} {pins : List (Addr × Obj)} {σ : Sv} {H : Hp} {s : Shared} {K : PySem.W.Frag} {m : Mp} {a : Addr} {od : Obj}
def Lkd (H : Hp) (d : Addr) (od : Obj) (u : HO) (ws : List (V × V)) : Prop := H d = some (.frz od u) ∧ Ent d od ws
theorem ent_N (hw : X.w = TheW.w) (I : Inv X pins σ H s) {xs : List (NestedKey × Addr × V)} (ha : H a = some (.frz od (ND TheW.w a xs))) : Lkd H a od (ND TheW.w a xs) (xs.map fun x => (.ref x.2.1, x.2.2)) := by
  obtain ⟨hg, ⟨z, hs, ys, rel, o, es, ep, ho, hx, hd, he, hn⟩, _, _⟩ := (show ObjOk X.prog X.w H s.heap a (.frz od (ND TheW.w a xs)) from I.hok a _ ha)
  rw [hg] at ho
  cases ho
  refine ⟨ha, hs, hx, es, ep, hd, ?_, fun i k v e => ?_⟩
  · rw [← Array.length_toList, he, List.length_map, List.length_map, Paired.length rel]
  · rw [List.getElem?_map] at e
    obtain ⟨x, e1, e2⟩ := Option.map_eq_some_iff.mp e
    cases e2
    obtain ⟨y, e3, h1, h2, h3⟩ := paired_get rel e1
    have e4 : es[i]? = some (entN TheW.w y) := by rw [← Array.getElem?_toList, he, List.getElem?_map, e3]; rfl
    exact ⟨_, e4, by show RelV (.ref x.2.1) (.ref y.2.1); rw [h2]; rfl, h3⟩
theorem ent_T (I : Inv X pins σ H s) {kvs : List (List Key × V)} (ha : H a = some (.frz od (.dT kvs))) : ∃ bs : List Addr, Paired (fun (p : List Key × V) (b : Addr) => H b = some (.tup (p.1.map kV))) kvs bs ∧ Lkd H a od (.dT kvs) (List.zipWith (fun (p : List Key × V) (b : Addr) => (V.ref b, p.2)) kvs bs) := by
  obtain ⟨hg, z, hs, ys, rel, o, es, ep, ho, hx, hd, he, hn⟩ := (show ObjOk X.prog X.w H s.heap a (.frz od (.dT kvs)) from I.hok a _ ha)
  rw [hg] at ho
  cases ho
  have lk : kvs.length = ys.length := Paired.length rel
  obtain ⟨bs, ebs⟩ : ∃ bs : List Addr, bs = ys.map fun x => x.2.1 := ⟨_, rfl⟩
  have ik : Paired (fun (p : List Key × V) (b : Addr) => H b = some (.tup (p.1.map kV))) kvs bs := by
    rw [ebs]; exact isKeys_of rel
  refine ⟨bs, ik, ha, hs, hx, es, ep, hd, ?_, fun i k v e => ?_⟩
  · rw [← Array.length_toList, he, List.length_map, List.length_zipWith, ebs, List.length_map, lk, Nat.min_self]
  · rw [List.getElem?_zipWith] at e
    cases e1 : kvs[i]? with
    | none => rw [e1] at e; simp at e
    | some p =>
      obtain ⟨y, e3, h1, h2, h3⟩ := paired_get rel e1
      rw [e1, ebs, List.getElem?_map, e3] at e
      cases e
      have e4 : es[i]? = some (entryOfKey (tupleKind (mixKind X.prog X.w)) y) := by rw [← Array.getElem?_toList, he, List.getElem?_map, e3]; rfl
      exact ⟨_, e4, rfl, h3⟩
/-- a locked dict's entries, of either kind -/
def zwT (kvs : List (List Key × V)) (bs : List Addr) : List (V × V) := List.zipWith (fun (p : List Key × V) (b : Addr) => (V.ref b, p.2)) kvs bs
def rwN (xs : List (NestedKey × Addr × V)) : List (V × V) := xs.map fun x => (.ref x.2.1, x.2.2)
def DW (H : Hp) (d : Addr) (od : Obj) (G : HO → List (V × V) → Prop) : Prop :=
  (∃ kvs, H d = some (.frz od (.dT kvs)) ∧ ∀ bs : List Addr, Paired (fun (p : List Key × V) (b : Addr) => H b = some (.tup (p.1.map kV))) kvs bs → G (.dT kvs) (zwT kvs bs)) ∨ ∃ xs, H d = some (.frz od (ND TheW.w d xs)) ∧ G (ND TheW.w d xs) (rwN xs)
theorem dw_of (hw : X.w = TheW.w) (I : Inv X pins σ H s) {G : HO → List (V × V) → Prop} (h : DW H a od G) : ∃ u ws, Lkd H a od u ws ∧ G u ws := by
  rcases h with ⟨kvs, ha, g⟩ | ⟨xs, ha, g⟩
  · obtain ⟨bs, h1, h2⟩ := ent_T I ha
    exact ⟨_, _, h2, g bs h1⟩
  · exact ⟨_, _, ent_N hw I ha, g⟩
end
/-! ### for k in d, d.values(), d.items(), the dict locked -/
def iW0 (td : TE) : TI := fun σ H R => td σ H fun x H1 => ∃ d od, x = .ref d ∧ DW H1 d od fun u ws => R (ItW0 d od u ws) H1
def iW1 (td : TE) : TI := fun σ H R => td σ H fun x H1 => ∃ d od, x = .ref d ∧ DW H1 d od fun u ws => R (ItW1 d od u ws) H1
def iW2 (td : TE) : TI := fun σ H R => td σ H fun x H1 => ∃ d od, x = .ref d ∧ DW H1 d od fun u ws => R (ItW2 d od u ws) H1
section
variable {X : Cx} {tg e : Expr} {td : TE} {apos cpos : Pos}
theorem pie_w0 {pins : List (Addr × Obj)} {σ : Sv} {H : Hp} {s : Shared} {R : L2.It → Hp → Prop} {d : Addr} {od : Obj} {u : HO} {ws : List (V × V)} (I : Inv X pins σ H s) (l : Lkd H d od u ws) (q : R (ItW0 d od u ws) H) : wpAny (model X.prog X.w) X.A (pyIter (.ref d)) (PIE X pins σ tg R) X.xe s := by
  obtain ⟨hd, en⟩ := l
  obtain ⟨hs, hx, es, ep, hdt, hsz, ent⟩ := id en
  refine iter_keys hs (frz_at I hd) hx hdt (pi_one (tk := s.toks) I _ (turn_w0 _ en hdt) ⟨_, Heap.get?_push_size _ rfl, rfl, ?_⟩ q)
  rw [hsz] <;> rfl
theorem pi_w1 (hw : X.w = TheW.w) (he : PE X e td) (hbase : attributeBase e "values" X.env (eval e X.env) = eval e X.env) (hline : (apos.endLine == cpos.line) = true) : PI X tg (.Call (.Attribute e "values" apos) [] [] cpos) (iW1 td) := by
  refine ⟨fun pins s σ H R I h => ?_⟩
  refine wpAny_Call_method (T := "dict") (id := "dict.values") hbase rfl hline F.plainAttrs_dict F.slot_dict_values F.type_dict_values (thn (he.run pins s σ H _ I h) fun u s1 ⟨x, H1, I1, rx, d, od, ex, q⟩ => ?_)
  subst ex
  obtain rfl : u = Value.ref d := rx
  obtain ⟨u0, ws, ⟨hd, en⟩, q⟩ := dw_of hw I1 q
  obtain ⟨hs, hx, es, ep, hdt, hsz, ent⟩ := id en
  have raw : s1.heap.DictRaw d es ep := ⟨od, frz_at I1 hd, hx, hdt⟩
  refine ⟨raw.typeIs, (fun b q => by cases q; exact ⟨od, frz_at I1 hd, hx.2.1⟩), ?_⟩
  have I2 : Inv X pins σ H1 { s1 with heap := s1.heap.push { cls := .type "dict_values", data := .fields #[.ref d] } } := I1.kept (t' := s1.toks) fun b ob q => Heap.get?_push_of_some _ q
  have fin : wpAny (model X.prog X.w) X.A (pyIter (.ref s1.heap.objs.size)) (PIE X pins σ tg R) X.xe { s1 with heap := s1.heap.push { cls := .type "dict_values", data := .fields #[.ref d] } } := by
    refine wpAny_pyIter_values_raw (d := d) ⟨_, Heap.get?_push_size _ rfl, rfl, rfl⟩ (raw.at fun o q => Heap.get?_push_of_some _ q) (pi_one (tk := s1.toks) I2 _ (turn_w1 _ en hdt) ⟨_, Heap.get?_push_size _ rfl, rfl, ?_⟩ q)
    rw [hsz] <;> rfl
  show wpAny _ _ (callWith cpos (.builtin "dict.values") [.ref d] [] []) _ X.xe s1
  exact method_meetsIn F.slot_dict_values F.entry_dict_values rfl (PySem.evalArgs_none ⟨rfl, raw.typeIs, F.args_dict_values_1 _, _, meets_dict_values_raw d hs, ⟨es, ep, raw⟩, fin⟩)
theorem pi_w2 {elts : List Expr} {kk : Nat} {tpos : Pos} (hw : X.w = TheW.w) (he : PE X e td) (hbase : attributeBase e "items" X.env (eval e X.env) = eval e X.env) (hline : (apos.endLine == cpos.line) = true) : PI X (.Tuple elts kk tpos) (.Call (.Attribute e "items" apos) [] [] cpos) (iW2 td) := by
  refine ⟨fun pins s σ H R I h => ?_⟩
  refine wpAny_Call_method (T := "dict") (id := "dict.items") hbase rfl hline F.plainAttrs_dict F.slot_dict_items F.type_dict_items (thn (he.run pins s σ H _ I h) fun u s1 ⟨x, H1, I1, rx, d, od, ex, q⟩ => ?_)
  subst ex
  obtain rfl : u = Value.ref d := rx
  obtain ⟨u0, ws, ⟨hd, en⟩, q⟩ := dw_of hw I1 q
  obtain ⟨hs, hx, es, ep, hdt, hsz, ent⟩ := id en
  have raw : s1.heap.DictRaw d es ep := ⟨od, frz_at I1 hd, hx, hdt⟩
  refine ⟨raw.typeIs, (fun b q => by cases q; exact ⟨od, frz_at I1 hd, hx.2.1⟩), ?_⟩
  have I2 : Inv X pins σ H1 { s1 with heap := s1.heap.push { cls := .type "dict_items", data := .fields #[.ref d] } } := I1.kept (t' := s1.toks) fun b ob q => Heap.get?_push_of_some _ q
  have fin : wpAny (model X.prog X.w) X.A (pyIter (.ref s1.heap.objs.size)) (PIE X pins σ (.Tuple elts kk tpos) R) X.xe { s1 with heap := s1.heap.push { cls := .type "dict_items", data := .fields #[.ref d] } } := by
    refine wpAny_pyIter_items_raw (d := d) ⟨_, Heap.get?_push_size _ rfl, rfl, rfl⟩ (raw.at fun o q => Heap.get?_push_of_some _ q) (pi_one (tk := s1.toks) I2 _ (turn_w2 _ en hdt) ⟨.none, .none, ?_⟩ q)
    rw [← hsz]
    exact Heap.get?_push_size _ rfl
  show wpAny _ _ (callWith cpos (.builtin "dict.items") [.ref d] [] []) _ X.xe s1
  exact method_meetsIn F.slot_dict_items F.entry_dict_items rfl (PySem.evalArgs_none ⟨rfl, raw.typeIs, F.args_dict_items_1 _, _, meets_dict_items_raw d hs, ⟨es, ep, raw⟩, fin⟩)
end
end Iw
end

section
set_option Elab.async false
set_option linter.all false
set_option maxRecDepth 100000
/-! the primitive operations are sound -/
namespace Iw
open PySem PySem.Spec PyProof.Rows L2
variable [TheW]

theorem line_eq : line = sizeLine := by rw [sizeLine_eq]; rfl
/-- an operation on two values, on one, on a list of them -/
def r2 (X : Cx) (f : PV → PV → Hs → R PV) : R2 := fun x y H Q => ∃ (E : Value → Hp → Prop) (m : Mp) (h : Hs) (p q : PV), RH X.K m h H ∧ RV X.K m H x p ∧ RV X.K m H y q ∧ satG X.mg X.K E m H (RV X.K) (f p q h) Q
def r1 (X : Cx) (f : PV → Hs → R PV) : V → Hp → VK → Prop := fun x H Q => ∃ (E : Value → Hp → Prop) (m : Mp) (h : Hs) (p : PV), RH X.K m h H ∧ RV X.K m H x p ∧ satG X.mg X.K E m H (RV X.K) (f p h) Q
def rs (X : Cx) (f : List PV → Hs → R PV) : List V → Hp → VK → Prop := fun xs H Q => ∃ (E : Value → Hp → Prop) (m : Mp) (h : Hs) (ps : List PV), RH X.K m h H ∧ RVs X.K m H xs ps ∧ satG X.mg X.K E m H (RV X.K) (f ps h) Q

section
variable {K : PySem.W.Frag} {mg : Str → Option Value} {E : Value → Hp → Prop} {m : Mp} {H : Hp} {h : Hs} {Q : VK}
theorem rv_d {v : V} {x : PyData} (r : RV K m H v (.d x)) : Rp m H v x := by cases r; assumption
theorem rv_int {v : V} {i : Int} (r : RV K m H v (.d (.int i))) : v = .int i := by cases rv_d r; rfl
theorem rv_str {v : V} {i : Str} (r : RV K m H v (.d (.str i))) : v = .str i := by cases rv_d r; rfl
theorem rv_bool {v : V} {i : Bool} (r : RV K m H v (.d (.bool i))) : v = .bl i := by cases rv_d r; rfl
theorem rv_none {v : V} (r : RV K m H v (.d .none)) : v = .non := by cases rv_d r; rfl
theorem rv_tup {v : V} {ds : List PyData} (r : RV K m H v (.d (.tuple ds))) : ∃ a vs, v = .ref a ∧ H a = some (.tup vs) ∧ a ∉ m ∧ RpA m H vs ds := by
  cases rv_d r with
  | tup e n r => exact ⟨_, _, rfl, e, n, r⟩
theorem rv_lst {v : V} {ds : List PyData} (r : RV K m H v (.d (.list ds))) : ∃ a vs, v = .ref a ∧ H a = some (.lst vs) ∧ a ∉ m ∧ RpA m H vs ds := by
  cases rv_d r with
  | lst e n r => exact ⟨_, _, rfl, e, n, r⟩
theorem rv_ref (rh : RH K m h H) {v : V} {n : Nat} {xs : List PV} (r : RV K m H v (.ref n)) (e : h[n]? = some (.lst xs)) : ∃ a vs, v = .ref a ∧ m.own[n]? = some a ∧ H a = some (.lst vs) ∧ RVs K m H vs xs := by
  cases r with
  | ref hn =>
    obtain ⟨a, u, e1, e2, e3⟩ := rh.at_ n _ e
    rw [hn] at e1; cases e1
    cases e3 with
    | lst r => exact ⟨_, _, rfl, hn, e2, r⟩
theorem getL_at (rh : RH K m h H) {v : V} {p : PV} {xs : List PV} (r : RV K m H v p) (e : getL h p = some xs) : ∃ a vs, v = .ref a ∧ H a = some (.lst vs) ∧ RVs K m H vs xs := by
  cases p with
  | d x =>
    cases x with
    | list ds =>
      obtain ⟨a, vs, rfl, e1, _, r1⟩ := rv_lst r
      cases e
      exact ⟨a, vs, rfl, e1, r1.rvs⟩
    | _ => cases e
  | ref n =>
    unfold getL at e
    dsimp only at e
    split at e
    · rename_i ys e0
      cases e
      obtain ⟨a, vs, rfl, _, e1, r1⟩ := rv_ref rh r e0
      exact ⟨a, vs, rfl, e1, r1⟩
    · cases e
  | scr _ => cases e
  | pr _ _ => cases e
/-- data, at hand -/
theorem now {α β : Type} {rel : Mp → Hp → β → α → Prop} {Q : β → Hp → Prop} {b : β} {a : α} (rh : RH K m h H) (hs : satG mg K E m H rel (.ok a h) Q) (r : rel m H b a) : Q b H := hs b H m Evo.refl rh r
theorem newTup (rh : RH K m h H) {ds : List PyData} {vs : List V} (hs : satG mg K E m H (RV K) (.ok (.d (.tuple ds)) h) Q) (r : RpA m H vs ds) {p : Addr} (hp : H p = none) : Q (.ref p) (upd H p (.tup vs)) :=
  hs _ _ m (Evo.new rh hp) (rh.new hp) (.d (.tup upd_same (rh.fresh hp) (r.evo (Evo.new rh hp))))
theorem newLst (rh : RH K m h H) {ds : List PyData} {vs : List V} (hs : satG mg K E m H (RV K) (.ok (.d (.list ds)) h) Q) (r : RpA m H vs ds) {p : Addr} (hp : H p = none) : Q (.ref p) (upd H p (.lst vs)) :=
  hs _ _ m (Evo.new rh hp) (rh.new hp) (.d (.lst upd_same (rh.fresh hp) (r.evo (Evo.new rh hp))))
theorem newMk (rh : RH K m h H) {mt : Bool} {xs : List PV} {vs : List V} (hs : satG mg K E m H (RV K) (mkL mt xs h) Q) (r : RVs K m H vs xs) {p : Addr} (hp : H p = none) : Q (.ref p) (upd H p (.lst vs)) := by
  cases mt with
  | true =>
    have hs : satG mg K E m H (RV K) (.ok (.ref h.length) (h ++ [.lst xs])) Q := hs
    refine hs _ _ (m.add p) (Evo.alloc rh hp) (rh.alloc hp (.lst r)) (.ref ?_)
    rw [← rh.len]; simp
  | false =>
    have hs : satG mg K E m H (RV K) (R.of ((datas xs).map fun ds => .d (.list ds)) h) Q := hs
    cases e : datas xs with
    | none => rw [e] at hs; exact hs.elim
    | some ds =>
      rw [e] at hs
      exact newLst rh hs (r.rpa e) hp
end
theorem satG_if {K : PySem.W.Frag} {mg : Str → Option Value} {E : Value → Hp → Prop} {m : Mp} {H : Hp} {α β : Type} {rel : Mp → Hp → β → α → Prop} {Q : β → Hp → Prop} {c : Prop} [Decidable c] {r : R α} (hs : satG mg K E m H rel (if c then r else .bad) Q) : c ∧ satG mg K E m H rel r Q := by
  by_cases hc : c
  · rw [if_pos hc] at hs; exact ⟨hc, hs⟩
  · rw [if_neg hc] at hs; exact hs.elim

def BO.op : BO → Operator
  | .add => .Add
  | .sub => .Sub
  | .mul => .Mult
  | .fdv => .FloorDiv
  | .mod => .Mod
  | .pow => .Pow
section
variable {X : Cx}
theorem op_list_add {pins : List (Addr × Obj)} {s : Shared} {σ : Sv} {H : Hp} {x y : V} {v u : Value} {Q : VK} {E : Value → Hp → Prop} {m : Mp} {h : Hs} {p q : PV} (I : Inv X pins σ H s) (rx : RelV x v) (ry : RelV y u)
    (rh : RH X.K m h H) (r1 : RV X.K m H x p) (r2 : RV X.K m H y q) (hs : satG X.mg X.K E m H (RV X.K) (match getL h p, getL h q with
    | some xs, some ys => if xs.length + ys.length ≤ line then mkL false (xs ++ ys) h else .bad
    | _, _ => .bad) Q) : wpAny (model X.prog X.w) X.A (binaryOp .Add v u) (EP X pins σ Q) X.xe s := by
  cases e1 : getL h p with
  | none => rw [e1] at hs; exact hs.elim
  | some xs =>
    cases e2 : getL h q with
    | none => rw [e1, e2] at hs; exact hs.elim
    | some ys =>
      rw [e1, e2] at hs
      obtain ⟨hl, hs⟩ := satG_if hs
      obtain ⟨a, vs, rfl, ha, ra⟩ := getL_at rh r1 e1
      obtain ⟨b, ws, rfl, hb, rb⟩ := getL_at rh r2 e2
      exact op_cat pins s σ H _ _ v u Q I rx ry ⟨a, b, vs, ws, rfl, rfl, ha, hb, by rw [ra.len, rb.len, ← line_eq]; exact hl, fun p hp => newMk rh hs (PairedApp ra rb) hp⟩

theorem op_add_iw : OpR X (binaryOp .Add) (Iw.r2 X (binop .add)) := by
  intro pins s σ H x y v u Q I rx ry h
  obtain ⟨E, m, hh, p, q, rh, ra, rb, hs⟩ := h
  cases p with
  | d dx =>
    cases q with
    | d dy =>
      cases dx <;> cases dy <;> first | exact hs.elim | skip
      · cases rv_int ra
        cases rv_int rb
        exact op_add pins s σ H _ _ v u Q I rx ry ⟨_, _, rfl, rfl, now rh hs (.d (.int _))⟩
      · cases rv_str ra
        cases rv_str rb
        obtain ⟨hl, hs⟩ := satG_if hs
        exact op_add_str pins s σ H _ _ v u Q I rx ry ⟨_, _, rfl, rfl, by rw [← line_eq]; exact hl, now rh hs (.d (.str _))⟩
      · exact op_list_add I rx ry rh ra rb hs
      · obtain ⟨hl, hs⟩ := satG_if hs
        obtain ⟨a, vs, rfl, ha, na, qa⟩ := rv_tup ra
        obtain ⟨b, ws, rfl, hb, nb, qb⟩ := rv_tup rb
        refine op_catA pins s σ H _ _ v u Q I rx ry ⟨a, b, vs, ws, rfl, rfl, SqT.of ha, SqT.of hb, by rw [qa.length, qb.length, ← line_eq]; exact hl, fun e => ?_, fun e1 e2 => ?_, fun e1 e2 p hp => newTup rh hs (qa.append qb) hp⟩
        · subst e
          cases qa
          exact now rh hs (.d (.tup hb nb qb))
        · subst e2
          cases qb
          rw [List.append_nil] at hs
          exact now rh hs (.d (.tup ha na qa))
    | ref n => cases dx <;> first | exact hs.elim | exact op_list_add I rx ry rh ra rb hs
    | scr ns => cases dx <;> first | exact hs.elim | exact op_list_add I rx ry rh ra rb hs
    | pr _ _ => cases dx <;> first | exact hs.elim | exact op_list_add I rx ry rh ra rb hs
  | ref n =>
    have hs : satG X.mg X.K E m H (RV X.K) (match getL hh (.ref n), getL hh q with
      | some xs, some ys => if xs.length + ys.length ≤ line then mkL false (xs ++ ys) hh else .bad
      | _, _ => .bad) Q := by
      cases q with
      | d dy => cases dy <;> exact hs
      | _ => exact hs
    exact op_list_add I rx ry rh ra rb hs
  | scr ns =>
    have hs : satG X.mg X.K E m H (RV X.K) (match getL hh (.scr ns), getL hh q with
      | some xs, some ys => if xs.length + ys.length ≤ line then mkL false (xs ++ ys) hh else .bad
      | _, _ => .bad) Q := by
      cases q with
      | d dy => cases dy <;> exact hs
      | _ => exact hs
    exact hs.elim
  | pr _ _ => cases q <;> exact hs.elim
/-- t * 1 is t, () * k is () -/
theorem tuple_mulS (l : Addr) (items : Array Value) (n : Nat) (dd : Option Addr) (sl : Array (Option Value)) (x : Int) (u : Tok) (c0 : (decide (x < -(2 ^ 63)) || decide (x ≥ 2 ^ 63)) = false) (c1 : (items.isEmpty || x == 1) = true) :
    Meets (Builtin.«tuple.__mul__» ⟨[.ref l, .int x u], []⟩) (fun _ R s => s.heap.get? l = some { cls := .type "tuple", dict := dd, data := .seq items n, slots := sl } ∧ R (.ok (.ret (Value.ref l))) s) :=
  .of_wp fun prog w A R s h => by
    obtain ⟨hp, g, d, tk, os⟩ := s
    obtain ⟨hl, h⟩ := h
    have f1 := AutoSeq1.idx_int
    wp_walk using wpAny_loadPart' hl
    repeat (first
      | (refine wpAny_ite_false (decide_eq_false (by rw [c0]; exact Bool.false_ne_true)) ?_; wp_walk using wpAny_loadPart' hl)
      | (refine wpAny_ite_true (decide_eq_true c1) ?_; wp_walk using wpAny_loadPart' hl))
    exact ⟨_, rfl, h⟩
theorem tuple_mul0 (l : Addr) (items : Array Value) (n : Nat) (dd : Option Addr) (sl : Array (Option Value)) (x : Int) (u : Tok) (c0 : (decide (x < -(2 ^ 63)) || decide (x ≥ 2 ^ 63)) = false) (c1 : (items.isEmpty || x == 1) = false) (c2 : (decide (x ≤ 0) || items.isEmpty) = true) :
    Meets (Builtin.«tuple.__mul__» ⟨[.ref l, .int x u], []⟩) (fun _ R s => s.heap.get? l = some { cls := .type "tuple", dict := dd, data := .seq items n, slots := sl } ∧
      R (.ok (.ret (Value.ref s.heap.objs.size))) { s with heap := s.heap.push { cls := Value.type "tuple", data := Data.seq #[] }, toks := s.toks }) :=
  .of_wp fun prog w A R s h => by
    obtain ⟨hp, g, d, tk, os⟩ := s
    obtain ⟨hl, h⟩ := h
    have f1 := AutoSeq1.idx_int
    wp_walk using wpAny_loadPart' hl
    repeat (first
      | (refine wpAny_ite_false (decide_eq_false (by rw [c0]; exact Bool.false_ne_true)) ?_; wp_walk using wpAny_loadPart' hl)
      | (refine wpAny_ite_false (decide_eq_false (by rw [c1]; exact Bool.false_ne_true)) ?_; wp_walk using wpAny_loadPart' hl)
      | (refine wpAny_ite_true (decide_eq_true c2) ?_; wp_walk using wpAny_loadPart' hl))
    exact ⟨_, rfl, h⟩
theorem op_rep0 : OpR X (binaryOp .Mult) (fun x y H Q => ∃ l xs, x = .ref l ∧ y = .int 0 ∧ SqT X.K H l xs ∧ xs ≠ [] ∧ ∀ p, H p = none → Q (.ref p) (upd H p (.tup []))) := by
  intro pins s σ H x y v u Q I rx ry h
  obtain ⟨l, xs, rfl, rfl, hT, hne, q⟩ := h
  cases rx
  obtain ⟨t, rfl⟩ := ry
  obtain ⟨its, r, ⟨⟨cls, dd, data, sl⟩, ho, hcl, n, hd⟩, hs⟩ := I.tuple hT
  simp only at hcl hd
  subst hcl hd
  have hi : its.toArray.isEmpty = false := by
    cases its with
    | nil => cases r; exact absurd rfl hne
    | cons a b => rfl
  have c1 : (its.toArray.isEmpty || (0 : Int) == 1) = false := by rw [hi]; rfl
  refine wpAny_binaryOp_repeat_ref (T := "tuple") (U := "int") (by decide) ⟨_, ho, rfl⟩ (fun s' => typeIs_int s' 0 t) noFill_tuple_mul F.fills_int_mul F.slot_int_rmul repeat_tuple F.slot_int_index.lookup
    (call_meets F.slot_int_rmul (typeIs_int s 0 t) F.entry_int_rmul (F.args_int_rmul_2 _ _) (int_rmul_tuple 0 t l its.toArray n dd sl)
      ⟨ho, rfl, ⟨_, ho, rfl⟩, call_meets F.slot_tuple_mul ⟨_, ho, rfl⟩ F.entry_tuple_mul (F.args_tuple_mul_2 _ _) (tuple_mul0 l its.toArray n dd sl 0 t rfl c1 rfl) ⟨ho, ?_⟩⟩)
  refine ⟨.ref s.heap.objs.size, _, I.laid (t' := s.toks) (o := .tup []) (fun b ob q => Heap.get?_push_of_some _ q) (Nat.le_refl _) ?_, rfl, q _ (I.hok.fresh (Nat.le_refl _))⟩
  exact ⟨by rw [sizeLine_eq]; decide, [], .nil, IsTup.new _ _⟩
theorem op_repS : OpR X (binaryOp .Mult) (fun x y H Q => ∃ l xs k, x = .ref l ∧ y = .int k ∧ SqT X.K H l xs ∧ (xs = [] ∨ k = 1) ∧ 0 ≤ k ∧ k ≤ 1000 ∧ Q (.ref l) H) := by
  intro pins s σ H x y v u Q I rx ry h
  obtain ⟨l, xs, k, rfl, rfl, hT, hc, h1, h2, q⟩ := h
  cases rx
  obtain ⟨t, rfl⟩ := ry
  obtain ⟨its, r, ⟨⟨cls, dd, data, sl⟩, ho, hcl, n, hd⟩, hs⟩ := I.tuple hT
  simp only at hcl hd
  subst hcl hd
  have c0 : (decide (k < -(2 ^ 63)) || decide (k ≥ 2 ^ 63)) = false := by
    rw [decide_eq_false (by omega), decide_eq_false (by omega)] <;> rfl
  have c1 : (its.toArray.isEmpty || k == 1) = true := by
    rcases hc with e | e
    · subst e
      cases r
      rfl
    · subst e
      simp
  refine wpAny_binaryOp_repeat_ref (T := "tuple") (U := "int") (by decide) ⟨_, ho, rfl⟩ (fun s' => typeIs_int s' k t) noFill_tuple_mul F.fills_int_mul F.slot_int_rmul repeat_tuple F.slot_int_index.lookup
    (call_meets F.slot_int_rmul (typeIs_int s k t) F.entry_int_rmul (F.args_int_rmul_2 _ _) (int_rmul_tuple k t l its.toArray n dd sl)
      ⟨ho, rfl, ⟨_, ho, rfl⟩, call_meets F.slot_tuple_mul ⟨_, ho, rfl⟩ F.entry_tuple_mul (F.args_tuple_mul_2 _ _) (tuple_mulS l its.toArray n dd sl k t c0 c1) ⟨ho, ?_⟩⟩)
  exact ⟨.ref l, H, I, rfl, q⟩
theorem op_mul_iw : OpR X (binaryOp .Mult) (Iw.r2 X (binop .mul)) := by
  intro pins s σ H x y v u Q I rx ry h
  obtain ⟨E, m, hh, p, q, rh, ra, rb, hs⟩ := h
  cases p with
  | d dx =>
    cases q with
    | d dy =>
      cases dx <;> cases dy <;> first | exact hs.elim | skip
      · cases rv_int ra
        cases rv_int rb
        obtain ⟨hl, hs⟩ := satG_if hs
        unfold mulOk at hl
        have hl2 := of_decide_eq_true hl
        exact op_mul pins s σ H _ _ v u Q I rx ry ⟨_, _, rfl, rfl, hl2, now rh hs (.d (.int _))⟩
      · rename_i ds k
        obtain ⟨⟨h1, h2, h3⟩, hs⟩ := satG_if hs
        obtain ⟨a, vs, rfl, ha, na, qa⟩ := rv_lst ra
        cases rv_int rb
        refine op_rep pins s σ H _ _ v u Q I rx ry ⟨a, k, vs, rfl, rfl, ha, by omega, by omega, ?_, fun p hp => newLst rh hs (qa.rep _) hp⟩
        rw [qa.length, sizeLine_eq]
        have a1 : ds.length * k.toNat ≤ 1000 * 1000 := Nat.mul_le_mul h3 (by omega)
        omega
      · rename_i ds k
        obtain ⟨⟨h1, h2, h3⟩, hs⟩ := satG_if hs
        obtain ⟨a, vs, rfl, ha, na, qa⟩ := rv_tup ra
        cases rv_int rb
        by_cases hk : k = 1
        · subst hk
          have e : (List.replicate (1 : Int).toNat ds).flatten = ds := by simp
          rw [e] at hs
          exact op_repS pins s σ H _ _ v u Q I rx ry ⟨a, vs, 1, rfl, rfl, SqT.of ha, .inr rfl, by omega, by omega, now rh hs (.d (.tup ha na qa))⟩
        · by_cases he : vs = []
          · subst he
            cases qa
            have e : (List.replicate k.toNat ([] : List PyData)).flatten = [] := by simp
            rw [e] at hs
            exact op_repS pins s σ H _ _ v u Q I rx ry ⟨a, [], k, rfl, rfl, SqT.of ha, .inl rfl, by omega, h2, now rh hs (.d (.tup ha na .nil))⟩
          · by_cases hk0 : k = 0
            · subst hk0
              have e : (List.replicate (0 : Int).toNat ds).flatten = [] := by simp
              rw [e] at hs
              exact op_rep0 pins s σ H _ _ v u Q I rx ry ⟨a, vs, rfl, rfl, SqT.of ha, he, fun p hp => newTup rh hs .nil hp⟩
            exact op_repT pins s σ H _ _ v u Q I rx ry ⟨a, k, vs, rfl, rfl, SqT.of ha, he, by omega, by omega, by rw [qa.length]; exact h3, fun p hp => newTup rh hs (qa.rep _) hp⟩
    | ref n => cases dx <;> exact hs.elim
    | scr ns => cases dx <;> exact hs.elim
    | pr _ _ => cases dx <;> exact hs.elim
  | ref n => exact hs.elim
  | scr ns => exact hs.elim
  | pr _ _ => exact hs.elim
/-- the operations on two ints alone -/
theorem op_ints {F : Value → Value → Sem Value} {f : PV → PV → Hs → R PV} {C : Int → Int → Prop} {g : Int → Int → Int} (ho : OpR X F (rI C fun i j => .int (g i j)))
    (hf : ∀ p q h, (∃ i j, p = .d (.int i) ∧ q = .d (.int j) ∧ C i j ∧ f p q h = .ok (Iw.int (g i j)) h) ∨ f p q h = .bad) : OpR X F (Iw.r2 X f) := by
  intro pins s σ H x y v u Q I rx ry h
  obtain ⟨E, m, hh, p, q, rh, ra, rb, hs⟩ := h
  rcases hf p q hh with ⟨i, j, rfl, rfl, c, e⟩ | e
  · rw [e] at hs
    cases rv_int ra
    cases rv_int rb
    exact ho pins s σ H _ _ v u Q I rx ry ⟨_, _, rfl, rfl, c, now rh hs (.d (.int _))⟩
  · rw [e] at hs
    exact hs.elim
theorem op_sub_iw : OpR X (binaryOp .Sub) (Iw.r2 X (binop .sub)) := by
  refine op_ints (C := fun _ _ => True) (g := fun i j => i - j) (fun pins s σ H x y v u Q I rx ry ⟨i, j, e1, e2, _, q⟩ => op_sub pins s σ H x y v u Q I rx ry ⟨i, j, e1, e2, q⟩) fun p q h => ?_
  rcases p with (_|_|i|_|_|_|_) | _ | _ <;> first | exact .inr rfl | skip
  rcases q with (_|_|j|_|_|_|_) | _ | _ <;> first | exact .inr rfl | skip
  exact .inl ⟨_, _, rfl, rfl, trivial, rfl⟩
theorem op_fdivX : OpR X (binaryOp .FloorDiv) (rI (fun _ j => j ≠ 0 ∧ j.natAbs < 18446744073709551616) fun i j => .int (i.fdiv j)) := opI fun _ _ _ _ _ _ _ hc q =>
  floordiv_int hc.1 q (.inl (PyProof.noPylong_of_log2 (Nat.lt_of_lt_of_le (PySem.Flt.log2_lt_of (k := 64) (by decide) hc.2) (by decide : 64 ≤ 9000))))
theorem op_fdv_iw : OpR X (binaryOp .FloorDiv) (Iw.r2 X (binop .fdv)) := by
  refine op_ints op_fdivX fun p q h => ?_
  rcases p with (_|_|i|_|_|_|_) | _ | _ <;> first | exact .inr rfl | skip
  rcases q with (_|_|j|_|_|_|_) | _ | _ <;> first | exact .inr rfl | skip
  by_cases c : j ≠ 0 ∧ j.natAbs < 18446744073709551616
  · exact .inl ⟨i, j, rfl, rfl, c, if_pos c⟩
  · exact .inr (if_neg c)
theorem op_mod_iw : OpR X (binaryOp .Mod) (Iw.r2 X (binop .mod)) := by
  refine op_ints op_modN fun p q h => ?_
  rcases p with (_|_|i|_|_|_|_) | _ | _ <;> first | exact .inr rfl | skip
  rcases q with (_|_|j|_|_|_|_) | _ | _ <;> first | exact .inr rfl | skip
  by_cases c : j ≠ 0
  · exact .inl ⟨i, j, rfl, rfl, c, if_pos c⟩
  · exact .inr (if_neg c)
theorem op_pow_iw : OpR X (binaryOp .Pow) (Iw.r2 X (binop .pow)) := by
  refine op_ints op_pow fun p q h => ?_
  rcases p with (_|_|i|_|_|_|_) | _ | _ <;> first | exact .inr rfl | skip
  rcases q with (_|_|j|_|_|_|_) | _ | _ <;> first | exact .inr rfl | skip
  by_cases c : 0 ≤ j ∧ j ≤ 1000000 ∧ i.natAbs < 2 ^ 64
  · exact .inl ⟨i, j, rfl, rfl, c, if_pos c⟩
  · exact .inr (if_neg c)
theorem op_bin_iw (o : BO) : OpR X (binaryOp o.op) (Iw.r2 X (binop o)) := by
  cases o
  · exact op_add_iw
  · exact op_sub_iw
  · exact op_mul_iw
  · exact op_fdv_iw
  · exact op_mod_iw
  · exact op_pow_iw
/-! ### data in the heap -/
section
variable {pins : List (Addr × Obj)} {σ : Sv} {H : Hp} {s : Shared} {m : Mp}
mutual
theorem Rp.reads (I : Inv X pins σ H s) : ∀ {v : V} {d : PyData} {u : Value}, Rp m H v d → RelV v u → ∃ as, Reads s.heap u d as
  | _, _, _, .non, r => by
    cases r
    exact ⟨_, Reads.none⟩
  | _, _, _, .bl b, r => by
    cases r
    exact ⟨_, Reads.bool b⟩
  | _, _, _, .int i, r => by
    obtain ⟨t, rfl⟩ := r
    exact ⟨_, Reads.int i t⟩
  | _, _, _, .str x, r => by
    obtain ⟨t, rfl⟩ := r
    exact ⟨_, Reads.str x t⟩
  | _, _, _, .lst h _ ra, r => by
    cases r
    obtain ⟨its, rv, ⟨o, n, ho, hc, _, hd⟩, _⟩ := I.list (SqL.of h)
    obtain ⟨as, hr⟩ := RpA.reads I ra rv
    exact ⟨_, Reads.list ho hc hd hr⟩
  | _, _, _, .tup h _ ra, r => by
    cases r
    obtain ⟨its, rv, ⟨o, ho, hc, n, hd⟩, _⟩ := I.tuple (SqT.of h)
    obtain ⟨as, hr⟩ := RpA.reads I ra rv
    exact ⟨_, Reads.tuple ho hc hd hr⟩
theorem RpA.reads (I : Inv X pins σ H s) : ∀ {vs : List V} {ds : List PyData} {us : List Value}, RpA m H vs ds → Vals vs us → ∃ as, ReadsAll s.heap us ds as
  | _, _, _, .nil, r => by
    cases r
    exact ⟨_, ReadsAll.nil⟩
  | _, _, _, .cons h1 h2, r => by
    cases r with
    | cons r1 r2 =>
      obtain ⟨as, q1⟩ := Rp.reads I h1 r1
      obtain ⟨bs, q2⟩ := RpA.reads I h2 r2
      exact ⟨_, ReadsAll.cons q1 q2⟩
end
/-- the frozen view of a value is read too -/
theorem view_reads (I : Inv X pins σ H s) {h : Hs} (rh : RH X.K m h H) {v : V} {p : PV} {d : PyData} {u : Value} (r : RV X.K m H v p) (e : view h p = some d) (ru : RelV v u) : ∃ as, Reads s.heap u d as := by
  cases p with
  | d x => cases e; exact Rp.reads I (rv_d r) ru
  | ref n =>
    unfold view at e
    dsimp only at e
    split at e
    · rename_i xs e0
      obtain ⟨ds, e1, rfl⟩ := Option.map_eq_some_iff.mp e
      obtain ⟨a, vs, rfl, _, e2, r1⟩ := rv_ref rh r e0
      cases ru
      obtain ⟨its, rv, ⟨o, n, ho, hc, _, hd⟩, _⟩ := I.list (SqL.of e2)
      obtain ⟨as, hr⟩ := RpA.reads I (r1.rpa e1) rv
      exact ⟨_, Reads.list ho hc hd hr⟩
    · cases e
  | scr _ => cases e
  | pr _ _ => cases e
end
/-! ### comparisons -/
def CO.op : CO → CmpOp
  | .eq => .Eq
  | .ne => .NotEq
  | .lt => .Lt
  | .le => .LtE
  | .gt => .Gt
  | .ge => .GtE
  | .isin => .In
  | .nin => .NotIn
  | .is => .Is
  | .isn => .IsNot
theorem deep_ok {A : Around} {d : Nat} (hu : A.units + 64 < cLine) (h : d ≤ deep) : A.units + d < cLine := by
  have : deep = 60 := rfl
  omega
theorem deep_ok1 {A : Around} {d : Nat} (hu : A.units + 64 < cLine) (h : d ≤ deep) : A.units + 1 + d < cLine := by
  have : deep = 60 := rfl
  omega
theorem ltOk_of {x y : PyData} (h : ltOk x y = true) : PySem.W.alike x y = true ∧ x ≠ .none ∧ min x.depth y.depth ≤ deep := by
  unfold ltOk at h
  simp only [Bool.and_eq_true, decide_eq_true_eq] at h
  refine ⟨h.1, ?_, h.2.1⟩
  rintro rfl
  exact absurd h.2.2 (by decide)
/-! ### dicts -/
section
variable {K : PySem.W.Frag} {m : Mp} {H : Hp} {h : Hs} {κ : Type} [DecidableEq κ]
theorem val_pair {P : V → PV → Prop} (k : κ) : ∀ {vs : List (κ × V)} {xs : List (κ × PV)}, Paired (fun p q => p.1 = q.1 ∧ P p.2 q.2) vs xs → (valV vs k = none ∧ valP xs k = none) ∨ ∃ v x, valV vs k = some v ∧ valP xs k = some x ∧ P v x
  | _, _, .nil => .inl ⟨rfl, rfl⟩
  | (a, v) :: vs, (b, x) :: xs, .cons r t => by
    obtain ⟨r1, r2⟩ := r
    have r1 : a = b := r1
    subst r1
    by_cases e : a = k
    · exact .inr ⟨v, x, by simp [valV, List.find?_cons, e], by simp [valP, List.find?_cons, e], r2⟩
    · have e1 : valV ((a, v) :: vs) k = valV vs k := by simp [valV, List.find?_cons, e]
      have e2 : valP ((a, x) :: xs) k = valP xs k := by simp [valP, List.find?_cons, e]
      rw [e1, e2]
      exact val_pair k t
theorem any_pair {P : V → PV → Prop} (k : κ) : ∀ {vs : List (κ × V)} {xs : List (κ × PV)}, Paired (fun p q => p.1 = q.1 ∧ P p.2 q.2) vs xs → (vs.any fun kv => decide (kv.1 = k)) = (xs.any fun kv => decide (kv.1 = k))
  | _, _, .nil => rfl
  | _, _, .cons r t => by simp only [List.any_cons]; rw [r.1, any_pair k t]
theorem map_pair {P : V → PV → Prop} (k : κ) {v : V} {x : PV} (q : P v x) : ∀ {vs : List (κ × V)} {xs : List (κ × PV)}, Paired (fun p q => p.1 = q.1 ∧ P p.2 q.2) vs xs → Paired (fun p q => p.1 = q.1 ∧ P p.2 q.2) (vs.map fun kv => if kv.1 = k then (kv.1, v) else kv) (xs.map fun kv => if kv.1 = k then (kv.1, x) else kv)
  | _, _, .nil => .nil
  | (a, _) :: vs, (b, _) :: xs, .cons r t => by
    have r1 : a = b := r.1
    subst r1
    refine .cons ?_ (map_pair k q t)
    by_cases e : a = k
    · simp only [e, if_true]; exact ⟨trivial, q⟩
    · simp only [e, if_false]; exact ⟨trivial, r.2⟩
theorem put_pair {P : V → PV → Prop} (k : κ) {v : V} {x : PV} (q : P v x) {vs : List (κ × V)} {xs : List (κ × PV)} (r : Paired (fun p q => p.1 = q.1 ∧ P p.2 q.2) vs xs) : Paired (fun p q => p.1 = q.1 ∧ P p.2 q.2) (putK vs k v) (putP xs k x) := by
  unfold putK putP
  rw [any_pair k r]
  split
  · exact map_pair k q r
  · exact PairedApp r (.cons ⟨rfl, q⟩ .nil)
theorem keyOf_at {v : V} {d : PyData} {k : Key} (r : Rp m H v d) (e : keyOf d = some k) : v = kV k := by
  cases r <;> cases e <;> rfl
theorem keysOf1_at : ∀ {vs : List V} {ds : List PyData} {ks : List Key}, RpA m H vs ds → keysOf1 ds = some ks → vs = ks.map kV
  | _, _, _, .nil, e => by cases e; rfl
  | _, _, _, .cons r t, e => by
    obtain ⟨k, e1, e2⟩ := Option.bind_eq_some_iff.mp e
    obtain ⟨ks, e3, rfl⟩ := Option.map_eq_some_iff.mp e2
    rw [keyOf_at r e1, keysOf1_at t e3]; rfl
theorem keysOf_at {v : V} {d : PyData} {ks : List Key} (r : Rp m H v d) (e : keysOf d = some ks) : ∃ b, v = .ref b ∧ H b = some (.tup (ks.map kV)) ∧ b ∉ m := by
  cases r with
  | tup h n ra => exact ⟨_, rfl, by rw [← keysOf1_at ra e]; exact h, n⟩
  | _ => cases e
/-- what a dict's look tells -/
inductive OV (K : PySem.W.Frag) (m : Mp) (H : Hp) : Option V → Option PV → Prop
  | none : OV K m H none none
  | some {v : V} {x : PV} : RV K m H v x → OV K m H (some v) (some x)
theorem OV.isSome {o : Option V} {p : Option PV} (r : OV K m H o p) : o.isSome = p.isSome := by cases r <;> rfl
theorem dget_at (rh : RH K m h H) {v y : V} {p : PV} {d : PyData} {o : Option PV} (r : RV K m H v p) (ry : Rp m H y d) (e : dgetv h p d = some o) : ∃ a ov, v = .ref a ∧ GetX K H a y ov ∧ OV K m H ov o := by
  cases p with
  | ref n =>
    have e : (match h[n]? with
      | some o => dgetO o d
      | none => none) = some o := e
    cases e0 : h[n]? with
    | none => rw [e0] at e; cases e
    | some ob =>
      rw [e0] at e
      obtain ⟨a, u, h1, h2, h3⟩ := rh.at_ n ob e0
      cases r with
      | ref ha =>
        rw [h1] at ha; cases ha
        cases h3 with
        | lst _ => cases e
        | dK rp =>
          obtain ⟨k, e1, e2⟩ := Option.map_eq_some_iff.mp (show (keyOf d).map _ = some o from e)
          subst e2
          refine ⟨a, _, rfl, .inl (by rw [keyOf_at ry e1]; exact DGet.k h2), ?_⟩
          rcases val_pair k rp with ⟨z1, z2⟩ | ⟨v, x, z1, z2, z3⟩
          · rw [z1, z2]; exact .none
          · rw [z1, z2]; exact .some z3
        | dT rp =>
          obtain ⟨k, e1, e2⟩ := Option.map_eq_some_iff.mp (show (keysOf d).map _ = some o from e)
          subst e2
          obtain ⟨b, rfl, hb, _⟩ := keysOf_at ry e1
          refine ⟨a, _, rfl, .inl (DGet.t h2 hb), ?_⟩
          rcases val_pair k rp with ⟨z1, z2⟩ | ⟨v, x, z1, z2, z3⟩
          · rw [z1, z2]; exact .none
          · rw [z1, z2]; exact .some z3
        | dTl rp =>
          rename_i od vs kvs
          obtain ⟨k, e1, e2⟩ := Option.map_eq_some_iff.mp (show (keysOf d).map _ = some o from e)
          subst e2
          obtain ⟨b, rfl, hb, _⟩ := keysOf_at ry e1
          refine ⟨a, _, rfl, .inl (.inr ⟨vs, k, b, .inr ⟨_, h2⟩, rfl, hb, rfl⟩), ?_⟩
          rcases val_pair k rp with ⟨z1, z2⟩ | ⟨v, x, z1, z2, z3⟩
          · rw [z1, z2]; exact .none
          · rw [z1, z2]; exact .some z3
        | dN rp =>
          obtain ⟨k, e1, e2⟩ := Option.map_eq_some_iff.mp (show (keyN d).map _ = some o from e)
          subst e2
          obtain ⟨b, rfl⟩ := keyN_ref e1 ry
          obtain ⟨ed, hd⟩ := keyN_at e1
          subst ed
          refine ⟨a, _, rfl, .inr ⟨m, _, _, k, b, .inl h2, rp, rfl, ry, hd, rfl⟩, ?_⟩
          rcases rp.val k with ⟨z1, z2⟩ | ⟨v, x, z1, z2, z3⟩
          · rw [z1, z2]; exact .none
          · rw [z1, z2]; exact .some z3
        | dNl rp =>
          obtain ⟨k, e1, e2⟩ := Option.map_eq_some_iff.mp (show (keyN d).map _ = some o from e)
          subst e2
          obtain ⟨b, rfl⟩ := keyN_ref e1 ry
          obtain ⟨ed, hd⟩ := keyN_at e1
          subst ed
          refine ⟨a, _, rfl, .inr ⟨m, _, _, k, b, .inr ⟨_, h2⟩, rp, rfl, ry, hd, rfl⟩, ?_⟩
          rcases rp.val k with ⟨z1, z2⟩ | ⟨v, x, z1, z2, z3⟩
          · rw [z1, z2]; exact .none
          · rw [z1, z2]; exact .some z3
  | _ => cases e
theorem dget_not {p : PV} {d : PyData} {o : Option PV} (e : dgetv h p d = some o) : ∃ n, p = .ref n ∧ ∀ xs, h[n]? ≠ some (.lst xs) := by
  cases p with
  | ref n =>
    refine ⟨n, rfl, fun xs z => ?_⟩
    have e : (match h[n]? with
      | some o => dgetO o d
      | none => none) = some o := e
    rw [z] at e; cases e
  | _ => cases e
end
theorem isIn_sound (hu : X.A.units + 64 < cLine) (ww : X.w = TheW.w) (neg : Bool) : OpR X (compareOp (if neg = true then .NotIn else .In)) (Iw.r2 X fun p q h => R.of ((isIn h p q).map fun b => Iw.bool (if neg = true then !b else b)) h) := by
  intro pins s σ H x y v u Q I rx ry h
  obtain ⟨E, m, hh, p, q, rh, ra, rb, hs⟩ := h
  cases e : isIn hh p q with
  | none => dsimp only at hs; rw [e] at hs; exact hs.elim
  | some b =>
    dsimp only at hs
    rw [e] at hs
    cases p with
    | d px =>
      have e : (match dgetv hh q px with
        | some o => some o.isSome
        | none => isIn1 hh (.d px) q) = some b := e
      cases eg : dgetv hh q px with
      | some o =>
        rw [eg] at e
        have e : some o.isSome = some b := e
        cases e
        obtain ⟨a, ov, rfl, g, ro⟩ := dget_at rh rb (rv_d ra) eg
        cases ry
        have fin := now rh hs (.d (.bl _))
        rw [← ro.isSome] at fin
        cases neg with
        | true => exact x_notIn ww hu I g rx fun s' I' => ⟨.bl _, H, I', rfl, fin⟩
        | false => exact x_in ww hu I g rx fun s' I' => ⟨.bl _, H, I', rfl, fin⟩
      | none =>
      rw [eg] at e
      have e : isIn1 hh (.d px) q = some b := e
      unfold isIn1 at e
      cases ev : view hh q with
      | none => rw [ev] at e; cases e
      | some yd =>
        rw [ev] at e
        obtain ⟨as, r1⟩ := view_reads I rh rb ev ry
        obtain ⟨bs, r2⟩ := Rp.reads I (rv_d ra) rx
        cases yd with
        | list ys =>
          dsimp only at e
          split at e
          · rename_i hc
            simp only [Bool.and_eq_true, decide_eq_true_eq] at hc
            cases e
            have room : X.A.units + 1 + min (PyData.depthAll ys) px.depth < cLine := deep_ok1 hu (Nat.le_trans (Nat.min_le_right _ _) hc.2.2)
            have fin := now rh hs (.d (.bl _))
            cases neg with
            | true => exact PySem.SeqAt.notIn_list_data r1 r2 hc.2.1 hc.1 room ⟨.bl _, H, I, rfl, fin⟩
            | false => exact PySem.SeqAt.in_list_data r1 r2 hc.2.1 hc.1 room ⟨.bl _, H, I, rfl, fin⟩
          · cases e
        | tuple ys =>
          dsimp only at e
          split at e
          · rename_i hc
            simp only [Bool.and_eq_true, decide_eq_true_eq] at hc
            cases e
            have room : X.A.units + 1 + min (PyData.depthAll ys) px.depth < cLine := deep_ok1 hu (Nat.le_trans (Nat.min_le_right _ _) hc.2.2)
            have fin := now rh hs (.d (.bl _))
            cases neg with
            | true => exact PySem.SeqAt.notIn_tuple_data r1 r2 hc.2.1 hc.1 room ⟨.bl _, H, I, rfl, fin⟩
            | false => exact PySem.SeqAt.in_tuple_data r1 r2 hc.2.1 hc.1 room ⟨.bl _, H, I, rfl, fin⟩
          · cases e
        | _ => cases e
    | _ => unfold isIn at e; cases e
end
end Iw
end

section
set_option Elab.async false
set_option linter.all false
set_option maxRecDepth 100000
namespace Iw
open PySem PySem.Spec PyProof.Rows L2
variable [TheW]
section
variable {X : Cx}
theorem isB_at {K : PySem.W.Frag} {m : Mp} {H : Hp} {x y : V} {p q : PV} {b : Bool} (r1 : RV K m H x p) (r2 : RV K m H y q) (e : isB p q = some b) : ∃ d : Bool, y = .bl d ∧ ((∃ c : Bool, x = .bl c ∧ b = decide (c = d)) ∨ (b = false ∧ ∀ (v : Value), RelV x v → plainIs v (.bool d) = true ∧ v ≠ .bool d)) := by
  unfold isB at e
  split at e
  · rename_i d
    have ey := rv_bool r2
    refine ⟨d, ey, ?_⟩
    cases p with
    | d dx =>
      cases dx with
      | bool c =>
        cases rv_bool r1
        cases e
        exact .inl ⟨c, rfl, rfl⟩
      | dict _ => cases e
      | none =>
        cases rv_none r1
        cases e
        exact .inr ⟨rfl, fun v r => by cases r; exact ⟨rfl, fun z => nomatch z⟩⟩
      | int i =>
        cases rv_int r1
        cases e
        exact .inr ⟨rfl, fun v r => by obtain ⟨t, rfl⟩ := r; exact ⟨rfl, fun z => nomatch z⟩⟩
      | str i =>
        cases rv_str r1
        cases e
        exact .inr ⟨rfl, fun v r => by obtain ⟨t, rfl⟩ := r; exact ⟨rfl, fun z => nomatch z⟩⟩
      | list ds =>
        obtain ⟨a, vs, rfl, _⟩ := rv_lst r1
        cases e
        exact .inr ⟨rfl, fun v r => by cases r; exact ⟨rfl, fun z => nomatch z⟩⟩
      | tuple ds =>
        obtain ⟨a, vs, rfl, _⟩ := rv_tup r1
        cases e
        exact .inr ⟨rfl, fun v r => by cases r; exact ⟨rfl, fun z => nomatch z⟩⟩
    | _ => cases e
  · cases e
theorem cmp_none {o : CO} {h : Hs} {p q : PV} (hi : ¬ (o = .is ∨ o = .isn)) (ho : ¬ (o = .isin ∨ o = .nin)) (e : view h p = none ∨ view h q = none) : cmpop o p q h = dEq o h p q := by
  rcases e with e | e
  · cases o <;> first | exact absurd (Or.inl rfl) ho | exact absurd (Or.inr rfl) ho | exact absurd (Or.inl rfl) hi | exact absurd (Or.inr rfl) hi | simp only [cmpop, e]
  · cases o <;> first | exact absurd (Or.inl rfl) ho | exact absurd (Or.inr rfl) ho | exact absurd (Or.inl rfl) hi | exact absurd (Or.inr rfl) hi | (cases ep : view h p <;> simp only [cmpop, e, ep])
/-- an empty dict is empty whatever its keys -/
theorem dict_empty {P : Program} {w : World} {κ κ' : Type} [DecidableEq κ] [DecidableEq κ'] {knd : KeyKind P w κ} {knd' : HeapKind P w κ'} {h : Heap} {a : Addr} (d : h.DictOfH knd' a []) : h.DictOf knd a [] := by
  obtain ⟨o, es, ep, h1, h2, h3, h4, _, _⟩ := d
  have e : es = #[] := by
    cases es with
    | mk l =>
      have h4 : l = [] := by simpa using h4
      rw [h4]
  subst e
  exact ⟨o, #[], ep, h1, h2, h3, fun x hx => by simp at hx, .nil, .nil⟩
theorem dEq_iw {X : Cx} {pins : List (Addr × Obj)} {s : Shared} {σ : Sv} {H : Hp} {x y : V} {v u : Value} {Q : VK} {E : Value → Hp → Prop} {m : Mp} {hh : Hs} {p q : PV} (hu : X.A.units + 64 < cLine) (ww : X.w = TheW.w) (o : CO) (I : Inv X pins σ H s) (rx : RelV x v) (ry : RelV y u) (rh : RH X.K m hh H) (ra : RV X.K m H x p) (rb : RV X.K m H y q)
    (hs : satG X.mg X.K E m H (RV X.K) (R.of ((dEq o hh p q).map Iw.bool) hh) Q) : wpAny (model X.prog X.w) X.A (compareOp o.op v u) (EP X pins σ Q) X.xe s := by
  cases p with
  | ref n =>
    cases q with
    | ref k =>
      cases e1 : hh[n]? with
      | none => rw [dEq] at hs; rw [e1] at hs; exact hs.elim
      | some oa =>
        cases e2 : hh[k]? with
        | none => rw [dEq] at hs; rw [e1, e2] at hs; cases oa <;> exact hs.elim
        | some ob =>
          cases oa with
          | dK xs =>
            have e : dEq o hh (.ref n) (.ref k) = if emptyD ob = true then dEqV o xs.isEmpty else none := by
              show (match hh[n]?, hh[k]? with
                | some (.dK xs), some ob => if emptyD ob = true then dEqV o xs.isEmpty else none
                | _, _ => none) = _
              rw [e1, e2]
            rw [e] at hs
            by_cases he : emptyD ob = true
            · rw [if_pos he] at hs
              obtain ⟨a, ua, h4, h5, h6⟩ := rh.at_ n _ e1
              obtain ⟨b, ub, k4, k5, k6⟩ := rh.at_ k _ e2
              cases ra with
              | ref hn =>
                rw [h4] at hn; cases hn
                cases rb with
                | ref hk =>
                  rw [k4] at hk; cases hk
                  cases h6 with
                  | dK rp =>
                    obtain ⟨_, ya, va, rva, da⟩ := dk_of I.hok h5
                    have lx : va.length = xs.length := by rw [← rva.length]; exact Paired.length rp
                    have db : (b == sysModules) = false ∧ s.heap.DictOf (mixKind X.prog X.w) b [] := by
                      unfold emptyD at he
                      split at he
                      · cases k6 with
                        | dK r2 =>
                          cases r2
                          obtain ⟨_, yb, vb, rvb, db⟩ := dk_of I.hok k5
                          cases rvb
                          exact ⟨yb, db⟩
                      · cases k6 with
                        | dT r2 =>
                          cases r2
                          obtain ⟨_, yb, vb, rvb, db⟩ := dt_of I.hok k5
                          cases rvb
                          exact ⟨yb, dict_empty db⟩
                      · cases k6 with
                        | dN r2 =>
                          cases r2
                          obtain ⟨_, yb, vb, rvb, db⟩ := nd_at ww I (.inl k5) (.nil : PN X.K m H [] [])
                          cases rvb
                          exact ⟨yb, dict_empty db⟩
                      · cases he
                    cases rx
                    cases ry
                    have hits : va.length = ([] : List (Key × Value)).length → ∀ (A : Around) (s : Shared), PySem.W.KeqHits A s [] va true := fun z A s => by
                      have : va = [] := List.length_eq_zero_iff.mp z
                      subst this
                      exact .nil
                    have eb : (va.length == ([] : List (Key × Value)).length && true) = xs.isEmpty := by
                      rw [lx]; cases xs <;> rfl
                    cases o with
                    | eq => exact PySem.W.keq_eq (knd := mixKind X.prog X.w) (r := true) ya db.1 da db.2 (by omega) (fun z => hits z _ _) (by rw [eb]; exact ⟨.bl _, H, I, rfl, now rh hs (.d (.bl _))⟩)
                    | ne => exact PySem.W.keq_ne (knd := mixKind X.prog X.w) (r := true) ya db.1 da db.2 (by omega) (fun z => hits z _ _) (by rw [eb]; exact ⟨.bl _, H, I, rfl, now rh hs (.d (.bl _))⟩)
                    | _ => exact hs.elim
            · rw [if_neg he] at hs; exact hs.elim
          | _ => (rw [dEq] at hs; rw [e1, e2] at hs; exact hs.elim)
    | _ => exact hs.elim
  | _ => exact hs.elim
theorem op_cmp_iw (hu : X.A.units + 64 < cLine) (ww : X.w = TheW.w) (o : CO) : OpR X (compareOp o.op) (Iw.r2 X fun p q h => R.of ((cmpop o p q h).map Iw.bool) h) := by
  by_cases hi : o = .is ∨ o = .isn
  · rcases hi with rfl | rfl
    · intro pins s σ H x y v u Q I rx ry ⟨E, m, hh, p, q, rh, ra, rb, hs⟩
      have hs : satG X.mg X.K E m H (RV X.K) (R.of ((isB p q).map Iw.bool) hh) Q := hs
      cases e2 : isB p q with
      | none => rw [e2] at hs; exact hs.elim
      | some b =>
        rw [e2] at hs
        obtain ⟨d, rfl, hc⟩ := isB_at ra rb e2
        rcases hc with ⟨c, rfl, rfl⟩ | ⟨rfl, hv⟩
        · exact op_isBl pins s σ H _ _ v u Q I rx ry ⟨c, d, rfl, rfl, now rh hs (.d (.bl _))⟩
        · cases ry
          exact wpAny_is_other (hv v rx).1 (hv v rx).2 ⟨.bl false, H, I, rfl, now rh hs (.d (.bl _))⟩
    · intro pins s σ H x y v u Q I rx ry ⟨E, m, hh, p, q, rh, ra, rb, hs⟩
      have hs : satG X.mg X.K E m H (RV X.K) (R.of (((isB p q).map (!·)).map Iw.bool) hh) Q := hs
      cases e2 : isB p q with
      | none => rw [e2] at hs; exact hs.elim
      | some b =>
        rw [e2] at hs
        obtain ⟨d, rfl, hc⟩ := isB_at ra rb e2
        rcases hc with ⟨c, rfl, rfl⟩ | ⟨rfl, hv⟩
        · exact op_notBl pins s σ H _ _ v u Q I rx ry ⟨c, d, rfl, rfl, now rh hs (.d (.bl _))⟩
        · cases ry
          exact wpAny_isNot_other (hv v rx).1 (hv v rx).2 ⟨.bl true, H, I, rfl, now rh hs (.d (.bl _))⟩
  by_cases ho : o = .isin ∨ o = .nin
  · rcases ho with rfl | rfl
    · intro pins s σ H x y v u Q I rx ry ⟨E, m, hh, p, q, rh, ra, rb, hs⟩
      refine isIn_sound (X := X) hu ww false pins s σ H x y v u Q I rx ry ⟨E, m, hh, p, q, rh, ra, rb, ?_⟩
      exact hs
    · intro pins s σ H x y v u Q I rx ry ⟨E, m, hh, p, q, rh, ra, rb, hs⟩
      refine isIn_sound (X := X) hu ww true pins s σ H x y v u Q I rx ry ⟨E, m, hh, p, q, rh, ra, rb, ?_⟩
      have e : (cmpop .nin p q hh).map Iw.bool = (isIn hh p q).map fun b => Iw.bool (if true = true then !b else b) := by
        show ((isIn hh p q).map _).map _ = _
        cases isIn hh p q <;> rfl
      dsimp only at hs
      rw [e] at hs
      exact hs
  · intro pins s σ H x y v u Q I rx ry ⟨E, m, hh, p, q, rh, ra, rb, hs⟩
    dsimp only at hs
    cases ea : view hh p with
    | none => exact dEq_iw hu ww o I rx ry rh ra rb ((congrArg (fun z => satG X.mg X.K E m H (RV X.K) (R.of (z.map Iw.bool) hh) Q) (cmp_none (fun z => hi (z.elim .inl .inr)) (fun z => ho (z.elim .inl .inr)) (.inl ea))).mp hs)
    | some dx =>
      cases eb : view hh q with
      | none => exact dEq_iw hu ww o I rx ry rh ra rb ((congrArg (fun z => satG X.mg X.K E m H (RV X.K) (R.of (z.map Iw.bool) hh) Q) (cmp_none (fun z => hi (z.elim .inl .inr)) (fun z => ho (z.elim .inl .inr)) (.inr eb))).mp hs)
      | some dy =>
        obtain ⟨as, r1⟩ := view_reads I rh ra ea rx
        obtain ⟨bs, r2⟩ := view_reads I rh rb eb ry
        have eqc : ∀ b : Bool, satG X.mg X.K E m H (RV X.K) (R.of ((if eqOk dx dy = true then some b else none).map Iw.bool) hh) Q → (dx.plain = true ∧ dy.plain = true ∧ X.A.units + min dx.depth dy.depth < cLine) ∧ Q (.bl b) H := fun b hb => by
          by_cases c : eqOk dx dy = true
          · rw [if_pos c] at hb
            have c2 := c
            unfold eqOk at c2
            simp only [Bool.and_eq_true, decide_eq_true_eq] at c2
            exact ⟨⟨c2.1, c2.2.1, deep_ok hu c2.2.2⟩, now rh hb (.d (.bl _))⟩
          · rw [if_neg c] at hb
            exact hb.elim
        have ltc : ∀ b : Bool, satG X.mg X.K E m H (RV X.K) (R.of ((if ltOk dx dy = true then some b else none).map Iw.bool) hh) Q → (PySem.W.alike dx dy = true ∧ dx ≠ .none ∧ X.A.units + min dx.depth dy.depth < cLine) ∧ Q (.bl b) H := fun b hb => by
          by_cases c : ltOk dx dy = true
          · rw [if_pos c] at hb
            obtain ⟨c1, c2, c3⟩ := ltOk_of c
            exact ⟨⟨c1, c2, deep_ok hu c3⟩, now rh hb (.d (.bl _))⟩
          · rw [if_neg c] at hb
            exact hb.elim
        cases o with
        | eq =>
          simp only [cmpop, ea, eb] at hs
          obtain ⟨⟨h1, h2, h3⟩, q⟩ := eqc _ hs
          exact PySem.SeqAt.eq_plain r1 r2 h1 h2 h3 ⟨.bl _, H, I, rfl, q⟩
        | ne =>
          simp only [cmpop, ea, eb] at hs
          obtain ⟨⟨h1, h2, h3⟩, q⟩ := eqc _ hs
          exact PySem.SeqAt.ne_plain r1 r2 h1 h2 h3 ⟨.bl _, H, I, rfl, q⟩
        | lt =>
          simp only [cmpop, ea, eb] at hs
          obtain ⟨⟨h1, h2, h3⟩, q⟩ := ltc _ hs
          exact PySem.W.lt_data r1 r2 h1 h2 h3 ⟨.bl _, H, I, rfl, q⟩
        | gt =>
          simp only [cmpop, ea, eb] at hs
          obtain ⟨⟨h1, h2, h3⟩, q⟩ := ltc _ hs
          exact PySem.W.gt_data r1 r2 h1 h2 h3 ⟨.bl _, H, I, rfl, q⟩
        | le =>
          simp only [cmpop, ea, eb] at hs
          obtain ⟨⟨h1, h2, h3⟩, q⟩ := ltc _ hs
          exact PySem.W.le_data r1 r2 h1 h2 h3 ⟨.bl _, H, I, rfl, q⟩
        | ge =>
          simp only [cmpop, ea, eb] at hs
          obtain ⟨⟨h1, h2, h3⟩, q⟩ := ltc _ hs
          exact PySem.W.ge_data r1 r2 h1 h2 h3 ⟨.bl _, H, I, rfl, q⟩
        | isin => exact absurd (Or.inl rfl) ho
        | nin => exact absurd (Or.inr rfl) ho
        | is => exact absurd (Or.inl rfl) hi
        | isn => exact absurd (Or.inr rfl) hi
/-! ### truth -/
theorem isEmptyP {K : PySem.W.Frag} {m : Mp} {H : Hp} {vs : List V} {xs : List PV} (r : RVs K m H vs xs) : (!xs.isEmpty) = !vs.isEmpty := by
  cases r <;> rfl
theorem isEmptyR {m : Mp} {H : Hp} {vs : List V} {xs : List PyData} (r : RpA m H vs xs) : (!xs.isEmpty) = !vs.isEmpty := by
  cases r <;> rfl
theorem tru_iw {K : PySem.W.Frag} {m : Mp} {H : Hp} {h : Hs} {v : V} {p : PV} {b : Bool} (rh : RH K m h H) (r : RV K m H v p) (e : tru h p = some b) : TruV K v H b := by
  cases p with
  | d x =>
    cases x with
    | none => cases rv_none r; cases e; rfl
    | bool c => cases rv_bool r; cases e; rfl
    | int i => cases rv_int r; cases e; rfl
    | str x =>
      cases rv_str r
      unfold tru at e
      dsimp only at e
      split at e
      · rename_i hl
        cases e
        exact ⟨by rw [← line_eq]; exact hl, by
          cases hx : x.length with
          | zero => rfl
          | succ n => simp; omega⟩
      · cases e
    | list ds =>
      obtain ⟨a, vs, rfl, ha, _, qa⟩ := rv_lst r
      cases e
      exact .inl ⟨vs, SqL.of ha, isEmptyR qa⟩
    | tuple ds =>
      obtain ⟨a, vs, rfl, ha, _, qa⟩ := rv_tup r
      cases e
      exact .inr (.inl ⟨vs, SqT.of ha, isEmptyR qa⟩)
    | dict _ => cases e
  | ref n =>
    unfold tru at e
    dsimp only at e
    split at e
    · rename_i xs e0
      cases e
      obtain ⟨a, vs, rfl, _, ha, qa⟩ := rv_ref rh r e0
      exact .inl ⟨vs, SqL.of ha, isEmptyP qa⟩
    · cases e
  | scr _ => cases e
  | pr _ _ => cases e
/-! ### items and slices -/
theorem atI_pair {α β : Type} {F : α → β → Prop} {xs : List α} {ys : List β} {i : Int} {y : β} (r : Paired F xs ys) (e : atI ys i = some y) : ∃ x, atI xs i = some x ∧ F x y := by
  unfold atI at e ⊢
  rw [Paired.length r]
  cases e1 : ixN ys.length i with
  | none => rw [e1] at e; cases e
  | some j =>
    rw [e1] at e
    exact PairedGet r e
theorem RpA.paired {m : Mp} {H : Hp} : ∀ {vs : List V} {ds : List PyData}, RpA m H vs ds → Paired (Rp m H) vs ds
  | _, _, .nil => .nil
  | _, _, .cons r t => .cons r (RpA.paired t)
theorem RpA.of_paired {m : Mp} {H : Hp} : ∀ {vs : List V} {ds : List PyData}, Paired (Rp m H) vs ds → RpA m H vs ds
  | _, _, .nil => .nil
  | _, _, .cons r t => .cons r (RpA.of_paired t)
theorem ints_paired {K : PySem.W.Frag} {m : Mp} {H : Hp} : ∀ ns : List Int, Paired (RV K m H) (ns.map V.int) (ns.map Iw.int)
  | [] => .nil
  | n :: ns => .cons (.d (.int n)) (ints_paired ns)
theorem atI_map {α β : Type} (f : α → β) (xs : List α) (i : Int) : atI (xs.map f) i = (atI xs i).map f := by
  unfold atI
  rw [List.length_map]
  cases ixN xs.length i <;> simp
theorem ix_dict (hu : X.A.units + 64 < cLine) (ww : X.w = TheW.w) : IxR X (fun x y H Q => ∃ a v, x = .ref a ∧ GetX X.K H a y (some v) ∧ Q v H) := by
  intro value slice pins s σ H x y v u Q I rx ry h hs
  obtain ⟨a, w, rfl, g, q⟩ := h
  cases rx
  have hT := dictX_typeIs ww I g
  unfold subscriptTail
  refine wpAny_bind ?_
  rw [getitemInPython_of_ne hT.not_modules]
  refine wpAny_bind (wpAny_specialOf hT PySem.F.slot_dict_getitem.lookup ?_)
  have fin : wpAny (model X.prog X.w) X.A (subscripted slice false (.ref a) u) (fun r s₃ => wpAny (model X.prog X.w) X.A (letTemporaryGo value (.ref a) r >>= fun _ => pure r) (EP X pins σ Q) X.xe s₃) X.xe s := by
    rw [hs]
    refine wpAny_operating (x_getItem ww hu I g ry fun w' s3 I3 rw' => wpAny_bind (wpAny_letTemporaryGo (wpAny_pure ⟨w, H, I3, rw', q⟩)))
  first
    | exact wpAny_pure (wpAny_bind fin)
    | exact wpAny_bind (wpAny_pure (wpAny_bind fin))
    | exact wpAny_bind fin
theorem ix_iw1 : IxR X (Iw.r2 X fun x y h => ixv1 x y h) := by
  intro ex ey pins s σ H x y v u Q I rx ry ⟨E, m, hh, p, q, rh, ra, rb, hs⟩ hsub
  cases q with
  | d dy =>
    cases dy with
    | int j =>
      cases rv_int rb
      have hs : satG X.mg X.K E m H (RV X.K) (R.of (getIx hh p j) hh) Q := hs
      cases e : getIx hh p j with
      | none => rw [e] at hs; exact hs.elim
      | some z =>
        rw [e] at hs
        have lists : ∀ xs, getL hh p = some xs → atI xs j = some z → wpAny (model X.prog X.w) X.A (subscriptTail ex ey v u) (EP X pins σ Q) X.xe s := fun xs e1 e2 => by
          obtain ⟨a, vs, rfl, ha, qa⟩ := getL_at rh ra e1
          obtain ⟨w, e3, rz⟩ := atI_pair qa e2
          exact ix_list ex ey pins s σ H _ _ v u Q I rx ry ⟨a, vs, j, w, rfl, rfl, SqL.of ha, e3, now rh hs rz⟩ hsub
        cases p with
        | d dx =>
          cases dx with
          | tuple ds =>
            obtain ⟨a, vs, rfl, ha, na, qa⟩ := rv_tup ra
            obtain ⟨dz, e1, rfl⟩ := Option.map_eq_some_iff.mp (show (atI ds j).map PV.d = some z from e)
            obtain ⟨w, e3, rz⟩ := atI_pair qa.paired e1
            exact ix_tup ex ey pins s σ H _ _ v u Q I rx ry ⟨a, vs, j, w, rfl, rfl, SqT.of ha, e3, now rh hs (.d rz)⟩ hsub
          | str z0 =>
            cases rv_str ra
            have e : (if z0.length ≤ line then (atI z0.cps.toList j).map fun c => PV.d (.str ⟨#[c]⟩) else none) = some z := e
            by_cases hl : z0.length ≤ line
            · rw [if_pos hl] at e
              obtain ⟨c, e1, rfl⟩ := Option.map_eq_some_iff.mp e
              exact ix_str ex ey pins s σ H _ _ v u Q I rx ry ⟨z0, j, c, rfl, rfl, by rw [← line_eq]; exact hl, e1, now rh hs (.d (.str _))⟩ hsub
            · rw [if_neg hl] at e; cases e
          | list ds =>
            obtain ⟨xs, e1, e2⟩ := Option.bind_eq_some_iff.mp (show (getL hh (.d (.list ds))).bind (fun xs => atI xs j) = some z from e)
            exact lists xs e1 e2
          | _ => cases (show (none : Option PV) = some z from e)
        | ref n =>
          obtain ⟨xs, e1, e2⟩ := Option.bind_eq_some_iff.mp (show (getL hh (.ref n)).bind (fun xs => atI xs j) = some z from e)
          exact lists xs e1 e2
        | scr ns =>
          cases ra with
          | scr sc =>
            obtain ⟨i, e1, rfl⟩ := Option.map_eq_some_iff.mp (show (atI ns j).map Iw.int = some z from e)
            exact ix_list ex ey pins s σ H _ _ v u Q I rx ry ⟨_, _, j, .int i, rfl, rfl, sc.sq, by rw [atI_map, e1]; rfl, now rh hs (.d (.int _))⟩ hsub
        | pr _ _ => cases (show (none : Option PV) = some z from e)
    | _ => exact hs.elim
  | _ => exact hs.elim
theorem ix_iw (hu : X.A.units + 64 < cLine) (ww : X.w = TheW.w) : IxR X (Iw.r2 X fun x y h => ixv x y h) := by
  intro ex ey pins s σ H x y v u Q I rx ry ⟨E, m, hh, p, q, rh, ra, rb, hs⟩ hsub
  cases q with
  | d dy =>
    have hs : satG X.mg X.K E m H (RV X.K) (match dgetv hh p dy with
      | some o => R.of o hh
      | none => ixv1 p (.d dy) hh) Q := hs
    cases e : dgetv hh p dy with
    | none =>
      rw [e] at hs
      exact ix_iw1 ex ey pins s σ H x y v u Q I rx ry ⟨E, m, hh, p, _, rh, ra, rb, hs⟩ hsub
    | some o =>
      rw [e] at hs
      obtain ⟨a, ov, rfl, g, ro⟩ := dget_at rh ra (rv_d rb) e
      cases ro with
      | none => exact hs.elim
      | some r => exact ix_dict hu ww ex ey pins s σ H _ y v u Q I rx ry ⟨a, _, rfl, g, now rh hs r⟩ hsub
  | _ => exact hs.elim
def rsl (X : Cx) : V → Option Int → Option Int → Hp → VK → Prop := fun x lo hi H Q => ∃ (E : Value → Hp → Prop) (m : Mp) (h : Hs) (p : PV), RH X.K m h H ∧ RV X.K m H x p ∧ satG X.mg X.K E m H (RV X.K) (slice p lo hi h) Q
theorem cutV_eq (xs : List V) (lo hi : Option Int) : cutV xs lo hi = cut xs lo hi := rfl
theorem cut_pair {α β : Type} {F : α → β → Prop} {xs : List α} {ys : List β} {lo hi : Option Int} (r : Paired F xs ys) : Paired F (cut xs lo hi) (cut ys lo hi) := by
  unfold cut
  rw [Paired.length r]
  exact PairedTake _ (PairedDrop _ r)
theorem cut_whole {α : Type} {xs : List α} {lo hi : Option Int} (h : HT.sIx xs.length 0 lo = 0 ∧ HT.sIx xs.length xs.length hi = xs.length) : cut xs lo hi = xs := by
  unfold cut
  rw [h.1, h.2]; simp
theorem sl_iw : SlR X (rsl X) := by
  intro pins s σ H x v vl vu lo hi sl Q I rx hsl pl pu ⟨E, m, hh, p, rh, ra, hs⟩
  have lists : ∀ xs, getL hh p = some xs → satG X.mg X.K E m H (RV X.K) (mkL false (cut xs lo hi) hh) Q → ∃ T id, typeLookup (.type T) "__getitem__" = pure (some (.builtin id)) ∧ s.TypeIs v T ∧ wpAny (model X.prog X.w) X.A (getItem v (.ref sl)) (EP X pins σ Q) X.xe s := fun xs e1 hs => by
    obtain ⟨a, vs, rfl, ha, qa⟩ := getL_at rh ra e1
    exact sl_list pins s σ H _ v vl vu lo hi sl Q I rx hsl pl pu ⟨a, vs, rfl, SqL.of ha, fun p hp => newMk rh hs (cut_pair qa) hp⟩
  cases p with
  | d dx =>
    cases dx with
    | tuple ds =>
      obtain ⟨a, vs, rfl, ha, na, qa⟩ := rv_tup ra
      have hs : satG X.mg X.K E m H (RV X.K) (.ok (.d (.tuple (cut ds lo hi))) hh) Q := hs
      refine sl_tupA pins s σ H _ v vl vu lo hi sl Q I rx hsl pl pu ⟨a, vs, rfl, SqT.of ha, fun hw => ?_, fun _ p hp => newTup rh hs (RpA.of_paired (cut_pair qa.paired)) hp⟩
      rw [qa.length] at hw
      rw [cut_whole hw] at hs
      exact now rh hs (.d (.tup ha na qa))
    | str z =>
      cases rv_str ra
      obtain ⟨hl, hs⟩ := satG_if (show satG X.mg X.K E m H (RV X.K) (if z.length ≤ line then .ok (.d (.str ⟨(cut z.cps.toList lo hi).toArray⟩)) hh else .bad) Q from hs)
      have e : cutS z lo hi = ⟨(cut z.cps.toList lo hi).toArray⟩ := by
        unfold cutS cut
        rw [Array.length_toList] <;> rfl
      exact sl_str pins s σ H _ v vl vu lo hi sl Q I rx hsl pl pu ⟨z, rfl, by rw [← line_eq]; exact hl, by rw [e]; exact now rh hs (.d (.str _))⟩
    | list ds => exact lists _ rfl hs
    | _ => exact hs.elim
  | ref n =>
    have hs : satG X.mg X.K E m H (RV X.K) (match getL hh (.ref n) with
      | some xs => mkL false (cut xs lo hi) hh
      | none => .bad) Q := hs
    cases e : getL hh (.ref n) with
    | none => rw [e] at hs; exact hs.elim
    | some xs => rw [e] at hs; exact lists xs e hs
  | scr ns => exact hs.elim
  | pr _ _ => exact hs.elim
end
end Iw
end

section
set_option Elab.async false
set_option linter.all false
set_option maxRecDepth 100000
/-! sorted(list), sorted(tuple), sorted(dict with tuple keys), by data -/
namespace Iw
open PySem PySem.Spec PyProof.Rows L2 PySem.W PySem.Calls
variable [TheW]
section
variable {X : Cx} {pins : List (Addr × Obj)} {σ : Sv} {H : Hp} {s : Shared} {m : Mp} {h : Hs} {Q : VK}
abbrev sR (m : Mp) (H : Hp) : Value → V × PyData → Prop := fun w b => RelV b.1 w ∧ Rp m H b.1 b.2
theorem each_of : ∀ {vs : List V} {ds : List PyData} {us : List Value}, Vals vs us → RpA m H vs ds → EachIs (sR m H) us (vs.zip ds)
  | _, _, _, .nil, .nil => .nil
  | _, _, _, .cons r t, .cons q u => .cons ⟨r, q⟩ (each_of t u)
theorem zip_snd : ∀ {vs : List V} {ds : List PyData}, RpA m H vs ds → (vs.zip ds).map Prod.snd = ds
  | _, _, .nil => rfl
  | _, _, .cons _ t => congrArg (_ :: ·) (zip_snd t)
theorem of_each : ∀ {B : List (V × PyData)} {us : List Value}, EachIs (sR m H) us B → Vals (B.map Prod.fst) us ∧ RpA m H (B.map Prod.fst) (B.map Prod.snd)
  | _, _, .nil => ⟨.nil, .nil⟩
  | _, _, .cons r t => ⟨.cons r.1 (of_each t).1, .cons r.2 (of_each t).2⟩
theorem srt_map (bs : List (V × PyData)) : (bs.mergeSort (dataLe false Prod.snd)).map Prod.snd = srtD (bs.map Prod.snd) := by
  rw [srtD_eq]
  exact List.map_mergeSort fun a _ b _ => rfl
theorem srtOk_of {ds : List PyData} (e : srtOk ds = true) : AllAlike ds ∧ Sortable ds ∧ ds.length ≤ sizeLine ∧ ∀ d ∈ ds, d.depth ≤ deep := by
  unfold srtOk at e
  simp only [Bool.and_eq_true, decide_eq_true_eq, List.all_eq_true] at e
  obtain ⟨e1, e2, e3, e4⟩ := e
  refine ⟨e1, ?_, by rw [← line_eq]; exact e3, e4⟩
  unfold sortable at e2
  simp only [Bool.or_eq_true, List.all_eq_true] at e2
  rcases e2 with e2 | e2
  · refine .inl fun d hd => ?_
    have := e2 d hd
    cases d with
    | tuple xs =>
      cases xs with
      | nil => exact absurd this (by simp)
      | cons x r => exact ⟨x, r, rfl⟩
    | _ => exact absurd this (by simp)
  · refine .inr fun d hd => ?_
    have := e2 d hd
    cases d with
    | tuple xs => exact absurd this (by simp)
    | none => exact absurd this (by simp)
    | _ => exact ⟨by simp, fun xs => by simp⟩
theorem each_reads (I : Inv X pins σ H s) : ∀ {us : List Value} {B : List (V × PyData)}, EachIs (sR m H) us B → EachIs (fun v b => ∃ as, Reads s.heap v b.2 as) us B
  | _, _, .nil => .nil
  | _, _, .cons r t => .cons (Rp.reads I r.2 r.1) (each_reads I t)
theorem srt_done (I : Inv X pins σ H s) {B : List (V × PyData)} {ds : List PyData} {out : List Value} {h' : Heap} {tk c : Nat} {p : Addr} (eb : B.map Prod.snd = ds) (hl : ds.length ≤ sizeLine) (ho : out.length = B.length) (eo : EachIs (sR m H) out (B.mergeSort (dataLe false Prod.snd)))
    (hp : s.heap.objs.size ≤ p) (hk : ∀ b o, s.heap.get? b = some o → h'.get? b = some o) (hg : h'.get? p = some { cls := .type "list", data := .seq out.toArray c })
    (fin : ∀ p vs', H p = none → RpA m H vs' (srtD ds) → Q (.ref p) (upd H p (.lst vs'))) : EP X pins σ Q (.ref p) { s with heap := h', toks := tk } := by
  obtain ⟨q1, q2⟩ := of_each eo
  rw [srt_map, eb] at q2
  have hn := I.hok.fresh hp
  refine ⟨.ref p, _, I.laid hk hp (show ObjOk X.prog X.w _ _ _ (.lst ((B.mergeSort (dataLe false Prod.snd)).map Prod.fst)) from ⟨?_, out, c, q1, hg⟩), rfl, fin p _ hn q2⟩
  rw [List.length_map, List.length_mergeSort, ← List.length_map (f := Prod.snd), eb]
  exact hl
theorem srt_list (hu : X.A.units + 64 < cLine) (I : Inv X pins σ H s) {a : Addr} {vs : List V} {ds : List PyData} (ha : H a = some (.lst vs)) (ra : RpA m H vs ds) (ok : srtOk ds = true)
    (fin : ∀ p vs', H p = none → RpA m H vs' (srtD ds) → Q (.ref p) (upd H p (.lst vs'))) : wpAny (model X.prog X.w) X.A (call (.builtin "sorted") [.ref a]) (EP X pins σ Q) X.xe s := by
  obtain ⟨hal, hso, hl, hd⟩ := srtOk_of ok
  obtain ⟨its, rv, p, hz⟩ := I.list (SqL.of ha)
  have e := each_of rv ra
  have eb := zip_snd ra
  refine sorted_data (enc := Prod.snd) (R := sR m H) (bs := vs.zip ds) p.isList e (each_reads I e) (by rw [eb]; exact hal) (by rw [eb]; exact hso) (by rw [← List.length_map (f := Prod.snd), eb]; exact hl) (fun b hb => ?_) fun out ho eo => ?_
  · have := hd b.2 (by rw [← eb]; exact List.mem_map.mpr ⟨b, hb, rfl⟩)
    have : deep = 60 := rfl
    omega
  · obtain ⟨c, hc⟩ := sortedAll_at s.heap its out.toArray
    exact srt_done (tk := s.toks) I eb hl ho eo (Nat.le_succ _) (fun _ _ => sortedAll_old) hc fin
theorem keysRp {h : Hs} (rh : RH X.K m h H) : ∀ {kvs : List (List Key × V)} {bs : List Addr}, IsKeys H kvs bs → RpA m H (bs.map V.ref) (kvs.map fun kv => .tuple (kv.1.map keyD))
  | _, _, .nil => .nil
  | (ks, _) :: _, _, .cons r t => by
    refine .cons (.tup r (rh.tup r) ?_) (keysRp rh t)
    have go : ∀ ks : List Key, RpA m H (ks.map kV) (ks.map keyD) := fun ks => by
      induction ks with
      | nil => exact .nil
      | cons k ks ih =>
        refine .cons ?_ ih
        cases k with
        | inl i => exact .int i
        | inr x => exact .str x
    exact go ks
theorem srt_dict (hc : X.calm = true) (hu : X.A.units + 64 < cLine) (I : Inv X pins σ H s) {h : Hs} (rh : RH X.K m h H) {d : Addr} {kvs : List (List Key × V)} (ha : Rd H d (.dT kvs)) (ok : srtOk (kvs.map fun kv => .tuple (kv.1.map keyD)) = true)
    (fin : ∀ p vs', H p = none → RpA m H vs' (srtD (kvs.map fun kv => .tuple (kv.1.map keyD))) → Q (.ref p) (upd H p (.lst vs'))) : wpAny (model X.prog X.w) X.A (call (.builtin "sorted") [.ref d]) (EP X pins σ Q) X.xe s := by
  obtain ⟨hal, hso, hl, hd⟩ := srtOk_of ok
  obtain ⟨z, lo, xs, rel, o, es, ep, ho, hx, hdat, hes, hnd⟩ := rd_of I.hok ha
  have hn : es.size = kvs.length := by
    rw [← Array.length_toList, hes, List.length_map, Paired.length rel]
  have iks := isKeys_of rel
  refine call_function_entry kind_sorted plain_sorted entry_sorted (args_sorted1 _) ?_
  unfold Builtin.«sorted»
  refine wpAny_bind (m := checkCount "sorted" 1 1 _) (wpAny_pure ?_)
  refine wpAny_bind (kdu_collect (A := X.A.in1) (kdl_raw (prog := X.prog) (w := X.w) lo hx hdat) (I.ok.hd hc) ho (by rw [hn]; exact z) fun h' tk acc hk hacc => ?_)
  have hal' : acc.toList.length = es.size := by rw [Array.length_toList]; exact hacc.1
  refine wpAny_bind (wpAny_newList ?_ (by rw [hal', hn]; exact z))
  have I1 : Inv X pins σ H { s with heap := h', toks := tk } := I.kept hk
  have rv : Vals ((xs.map fun x => x.2.1).map V.ref) acc.toList := by
    refine vals_of_at (by rw [List.length_map, List.length_map, hal', hn, Paired.length rel]) fun j x w h1 h2 => ?_
    obtain ⟨en, he1, he2⟩ := hacc.2 j w (by rw [← Array.getElem?_toList]; exact h2)
    rw [List.map_map, List.getElem?_map] at h1
    obtain ⟨q, hq, rfl⟩ := Option.map_eq_some_iff.mp h1
    rw [← Array.getElem?_toList, hes, List.getElem?_map, hq] at he1
    have he1 := Option.some.inj he1
    subst he2
    rw [← he1]
    rfl
  have e := each_of rv (keysRp rh iks)
  have eb := zip_snd (keysRp rh iks)
  have er := each_reads I1 e
  generalize hB : ((xs.map fun x => x.2.1).map V.ref).zip (kvs.map fun kv => PyData.tuple (kv.1.map keyD)) = B at e eb er
  have ho2 : (h'.push { cls := .type "list", data := .seq acc.toList.toArray }).get? h'.objs.size = some (seqObj "list" acc.toList.toArray 0) := Heap.get?_push_size _ rfl
  have er' : EachIs (fun v b => ∃ as, Reads (sortingHeap (h'.push { cls := .type "list", data := .seq acc.toList.toArray }) h'.objs.size acc.toList) v b.2 as) acc.toList B :=
    er.mono fun _ _ ⟨as, r⟩ => ⟨as, PyProof.Rows.Reads.keeps (fun b o q => sortingHeap_old (Nat.ne_of_lt (Heap.lt_size q)) (Heap.get?_push_of_some _ q)) r⟩
  have hlen : acc.toList.length = B.length := e.length
  refine wpAny_bind (wpAny_holding (wpAny_call_entry slot_list_sort ⟨_, ho2, rfl⟩ entry_list_sort (list_sort_vals (s := { s with heap := h'.push { cls := .type "list", data := .seq acc.toList.toArray }, toks := tk }) (κ := dataKind (sortingHeap (h'.push { cls := .type "list", data := .seq acc.toList.toArray }) h'.objs.size acc.toList) (B.map Prod.snd)) ho2
    (SortsAt.data (s := { s with heap := sortingHeap (h'.push { cls := .type "list", data := .seq acc.toList.toArray }) h'.objs.size acc.toList, toks := tk }) (each_map (R := fun v d => ∃ as, Reads (sortingHeap (h'.push { cls := .type "list", data := .seq acc.toList.toArray }) h'.objs.size acc.toList) v d as) Prod.snd er') (by rw [eb]; exact hal) (by rw [eb]; exact hso) (bound_map fun b hb => ?_)) (by rw [hal', hn]; exact z) ⟨.none, rfl, ?_⟩) (args_list_sort _)))
  · have := hd b.2 (by rw [← eb]; exact List.mem_map.mpr ⟨b, hb, rfl⟩)
    have : deep = 60 := rfl
    show X.A.units + 1 + 1 + b.snd.depth < cLine
    omega
  · refine wpAny_pure ⟨_, rfl, ?_⟩
    have eo := sortVals_data false e er' (by rw [eb]; exact hal)
    generalize hout : sortVals (dataKind (sortingHeap (h'.push { cls := .type "list", data := .seq acc.toList.toArray }) h'.objs.size acc.toList) (B.map Prod.snd)) false acc.toList acc.toList = out at eo
    have ho3 : out.length = B.length := by rw [← hout, sortVals_length false rfl]; exact hlen
    obtain ⟨c, hcc⟩ := sortedHeap_at (out := out.toArray) ho2
    exact srt_done (tk := tk) I1 eb hl ho3 eo (Nat.le_refl _) (fun b o q => (sortedHeap_old (Nat.ne_of_lt (Heap.lt_size q)) (by rw [Heap.size_push]; exact Nat.lt_succ_of_lt (Heap.lt_size q))).trans (Heap.get?_push_of_some _ q)) hcc fin
theorem srt_rows (hc : X.calm = true) (hu : X.A.units + 64 < cLine) (I : Inv X pins σ H s) {d : Addr} {o : Obj} {es : Array DictEntry} {ep : Nat} {ks : List V} {ds : List PyData} (lo : (d == sysModules) = false) (ho : s.heap.get? d = some o) (hx : o.ExactDict) (hdat : o.data = .dict es ep) (hn : es.size = ks.length) (z : ks.length ≤ sizeLine)
    (ent : ∀ (j : Nat) (k : V), ks[j]? = some k → ∃ en : DictEntry, es[j]? = some en ∧ RelV k en.key) (kr : RpA m H ks ds) (ok : srtOk ds = true)
    (fin : ∀ p vs', H p = none → RpA m H vs' (srtD ds) → Q (.ref p) (upd H p (.lst vs'))) : wpAny (model X.prog X.w) X.A (call (.builtin "sorted") [.ref d]) (EP X pins σ Q) X.xe s := by
  obtain ⟨hal, hso, hl, hd⟩ := srtOk_of ok
  refine call_function_entry kind_sorted plain_sorted entry_sorted (args_sorted1 _) ?_
  unfold Builtin.«sorted»
  refine wpAny_bind (m := checkCount "sorted" 1 1 _) (wpAny_pure ?_)
  refine wpAny_bind (kdu_collect (A := X.A.in1) (kdl_raw (prog := X.prog) (w := X.w) lo hx hdat) (I.ok.hd hc) ho (by rw [hn]; exact z) fun h' tk acc hk hacc => ?_)
  have hal' : acc.toList.length = es.size := by rw [Array.length_toList]; exact hacc.1
  refine wpAny_bind (wpAny_newList ?_ (by rw [hal', hn]; exact z))
  have I1 : Inv X pins σ H { s with heap := h', toks := tk } := I.kept hk
  have rv : Vals ks acc.toList := by
    refine vals_of_at (by rw [hal', hn]) fun j x w h1 h2 => ?_
    obtain ⟨en, he1, he2⟩ := hacc.2 j w (by rw [← Array.getElem?_toList]; exact h2)
    obtain ⟨en', he3, he4⟩ := ent j x h1
    rw [he3] at he1
    cases he1
    rw [he2]
    exact he4
  have e := each_of rv kr
  have eb := zip_snd kr
  have er := each_reads I1 e
  generalize hB : ks.zip ds = B at e eb er
  have ho2 : (h'.push { cls := .type "list", data := .seq acc.toList.toArray }).get? h'.objs.size = some (seqObj "list" acc.toList.toArray 0) := Heap.get?_push_size _ rfl
  have er' : EachIs (fun v b => ∃ as, Reads (sortingHeap (h'.push { cls := .type "list", data := .seq acc.toList.toArray }) h'.objs.size acc.toList) v b.2 as) acc.toList B :=
    er.mono fun _ _ ⟨as, r⟩ => ⟨as, PyProof.Rows.Reads.keeps (fun b o q => sortingHeap_old (Nat.ne_of_lt (Heap.lt_size q)) (Heap.get?_push_of_some _ q)) r⟩
  have hlen : acc.toList.length = B.length := e.length
  refine wpAny_bind (wpAny_holding (wpAny_call_entry slot_list_sort ⟨_, ho2, rfl⟩ entry_list_sort (list_sort_vals (s := { s with heap := h'.push { cls := .type "list", data := .seq acc.toList.toArray }, toks := tk }) (κ := dataKind (sortingHeap (h'.push { cls := .type "list", data := .seq acc.toList.toArray }) h'.objs.size acc.toList) (B.map Prod.snd)) ho2
    (SortsAt.data (s := { s with heap := sortingHeap (h'.push { cls := .type "list", data := .seq acc.toList.toArray }) h'.objs.size acc.toList, toks := tk }) (each_map (R := fun v d => ∃ as, Reads (sortingHeap (h'.push { cls := .type "list", data := .seq acc.toList.toArray }) h'.objs.size acc.toList) v d as) Prod.snd er') (by rw [eb]; exact hal) (by rw [eb]; exact hso) (bound_map fun b hb => ?_)) (by rw [hal', hn]; exact z) ⟨.none, rfl, ?_⟩) (args_list_sort _)))
  · have := hd b.2 (by rw [← eb]; exact List.mem_map.mpr ⟨b, hb, rfl⟩)
    have : deep = 60 := rfl
    show X.A.units + 1 + 1 + b.snd.depth < cLine
    omega
  · refine wpAny_pure ⟨_, rfl, ?_⟩
    have eo := sortVals_data false e er' (by rw [eb]; exact hal)
    generalize hout : sortVals (dataKind (sortingHeap (h'.push { cls := .type "list", data := .seq acc.toList.toArray }) h'.objs.size acc.toList) (B.map Prod.snd)) false acc.toList acc.toList = out at eo
    have ho3 : out.length = B.length := by rw [← hout, sortVals_length false rfl]; exact hlen
    obtain ⟨c, hcc⟩ := sortedHeap_at (out := out.toArray) ho2
    exact srt_done (tk := tk) I1 eb hl ho3 eo (Nat.le_refl _) (fun b o q => (sortedHeap_old (Nat.ne_of_lt (Heap.lt_size q)) (by rw [Heap.size_push]; exact Nat.lt_succ_of_lt (Heap.lt_size q))).trans (Heap.get?_push_of_some _ q)) hcc fin
theorem PN.keys {K : PySem.W.Frag} {m : Mp} {H : Hp} {xs : List (NestedKey × Addr × V)} {kvs : List (NestedKey × PV)} (r : PN K m H xs kvs) : RpA m H (xs.map fun x => V.ref x.2.1) (kvs.map fun kv => kv.1.data) := by
  induction r with
  | nil => exact .nil
  | cons h t ih =>
    rw [List.map_cons, List.map_cons]
    refine .cons ?_ ih
    rw [← h.1.1]
    exact h.2.1
/-- a dict by nested tuples, locked or not -/
theorem nd_rows (ww : X.w = TheW.w) (I : Inv X pins σ H s) {d : Addr} {xs : List (NestedKey × Addr × V)} {K : PySem.W.Frag} {kvs : List (NestedKey × PV)} (ha : Rd H d (ND TheW.w d xs)) (r : PN K m H xs kvs) :
    (d == sysModules) = false ∧ xs.length ≤ sizeLine ∧ ∃ (o : Obj) (es : Array DictEntry) (ep : Nat), s.heap.get? d = some o ∧ o.ExactDict ∧ o.data = .dict es ep ∧ es.size = (xs.map fun x => V.ref x.2.1).length ∧
    (∀ (j : Nat) (k : V), (xs.map fun x => V.ref x.2.1)[j]? = some k → ∃ en : DictEntry, es[j]? = some en ∧ RelV k en.key) ∧ RpA m H (xs.map fun x => V.ref x.2.1) (kvs.map fun kv => kv.1.data) := by
  obtain ⟨⟨z, hs, ys, rel, o, es, ep, ho, hx, hd, he, hn⟩, _, _⟩ := (show ObjOk X.prog X.w H s.heap d (ND TheW.w d xs) from ha.ok I.hok)
  refine ⟨hs, z, o, es, ep, ho, hx, hd, ?_, fun j k e => ?_, ?_⟩
  · rw [← Array.length_toList, he, List.length_map, List.length_map, Paired.length rel]
  · rw [List.getElem?_map] at e
    obtain ⟨x, e1, rfl⟩ := Option.map_eq_some_iff.mp e
    obtain ⟨y, e3, h1, h2, h3⟩ := paired_get rel e1
    have e4 : es[j]? = some (entN TheW.w y) := by rw [← Array.getElem?_toList, he, List.getElem?_map, e3]; rfl
    exact ⟨_, e4, by show RelV (.ref x.2.1) (.ref y.2.1); rw [h2]; rfl⟩
  · exact r.keys
theorem srt_dictN (hc : X.calm = true) (hu : X.A.units + 64 < cLine) (ww : X.w = TheW.w) (I : Inv X pins σ H s) {d : Addr} {xs : List (NestedKey × Addr × V)} {K : PySem.W.Frag} {kvs : List (NestedKey × PV)} (ha : Rd H d (ND TheW.w d xs)) (r : PN K m H xs kvs) (ok : srtOk (kvs.map fun kv => kv.1.data) = true)
    (fin : ∀ p vs', H p = none → RpA m H vs' (srtD (kvs.map fun kv => kv.1.data)) → Q (.ref p) (upd H p (.lst vs'))) : wpAny (model X.prog X.w) X.A (call (.builtin "sorted") [.ref d]) (EP X pins σ Q) X.xe s := by
  obtain ⟨hs, z, o, es, ep, ho, hx, hd, h1, h2, h3⟩ := nd_rows ww I ha r
  exact srt_rows hc hu I hs ho hx hd h1 (by rw [List.length_map]; exact z) h2 h3 ok fin
/-- list(d) -/
theorem ls_dictN (hc : X.calm = true) (ww : X.w = TheW.w) (I : Inv X pins σ H s) {d : Addr} {xs : List (NestedKey × Addr × V)} {K : PySem.W.Frag} {kvs : List (NestedKey × PV)} (ha : Rd H d (ND TheW.w d xs)) (r : PN K m H xs kvs)
    (fin : ∀ p vs', H p = none → RpA m H vs' (kvs.map fun kv => kv.1.data) → Q (.ref p) (upd H p (.lst vs'))) : wpAny (model X.prog X.w) X.A (call (.type "list") [.ref d]) (EP X pins σ Q) X.xe s := by
  obtain ⟨hs, z, o, es, ep, ho, hx, hdt, hn, ent, kr⟩ := nd_rows ww I ha r
  refine PySem.W.kdl_call (kdl_raw hs hx hdt) (I.ok.hd hc) ho (by rw [hn, List.length_map]; exact z) fun h' tk acc' c' kp e it => ?_
  have hal' : acc'.toList.length = es.size := by rw [Array.length_toList]; exact it.1
  have rv : Vals (xs.map fun x => V.ref x.2.1) acc'.toList := by
    refine vals_of_at (by rw [hal', hn]) fun j x w h1 h2 => ?_
    obtain ⟨en, he1, he2⟩ := it.2 j w (by rw [← Array.getElem?_toList]; exact h2)
    obtain ⟨en', he3, he4⟩ := ent j x h1
    rw [he3] at he1
    cases he1
    rw [he2]
    exact he4
  refine ⟨.ref s.heap.objs.size, _, I.laid (t' := tk) (o := .lst (xs.map fun x => V.ref x.2.1)) kp (Nat.le_refl _) ?_, rfl, fin _ _ (I.hok.fresh (Nat.le_refl _)) kr⟩
  exact ⟨by rw [List.length_map]; exact z, acc'.toList, c', rv, by rw [Array.toArray_toList]; exact e⟩
theorem srt_dictK (hc : X.calm = true) (hu : X.A.units + 64 < cLine) (I : Inv X pins σ H s) {d : Addr} {kvs : List (Key × V)} (ha : H d = some (.dK kvs)) (ok : srtOk (kvs.map fun kv => keyD kv.1) = true)
    (fin : ∀ p vs', H p = none → RpA m H vs' (srtD (kvs.map fun kv => keyD kv.1)) → Q (.ref p) (upd H p (.lst vs'))) : wpAny (model X.prog X.w) X.A (call (.builtin "sorted") [.ref d]) (EP X pins σ Q) X.xe s := by
  obtain ⟨hal, hso, hl, hd⟩ := srtOk_of ok
  obtain ⟨z, lo, vs, rk, dd⟩ := dk_of I.hok ha
  obtain ⟨ep, hat⟩ := dd.dictAt
  have hkl : kvs.length = vs.length := Paired.length rk
  refine call_function_entry kind_sorted plain_sorted entry_sorted (args_sorted1 _) ?_
  unfold Builtin.«sorted»
  refine wpAny_bind (m := checkCount "sorted" 1 1 _) (wpAny_pure ?_)
  refine wpAny_bind (kdu_collect (A := X.A.in1) (PySem.W.kdl_dict (prog := X.prog) (w := X.w) (knd := mixKind X.prog X.w) (kvs := vs) (ep := ep) lo) (I.ok.hd hc) hat (by rw [← hkl]; exact z) fun h' tk acc hk hacc => ?_)
  have hal' : acc.toList.length = kvs.length := by rw [Array.length_toList, hacc.1, hkl]
  refine wpAny_bind (wpAny_newList ?_ (by rw [hal']; exact z))
  have I1 : Inv X pins σ H { s with heap := h', toks := tk } := I.kept hk
  have rv : Vals (kvs.map fun kv => kV kv.1) acc.toList := by
    refine vals_of_at (by rw [List.length_map, hal']) fun j x w h1 h2 => ?_
    obtain ⟨k, y, hky, hi⟩ := hacc.2 j w (by rw [← Array.getElem?_toList]; exact h2)
    have e1 : (kvs.map (·.1))[j]? = some k := by
      rw [KV.keys rk, List.getElem?_map, hky] <;> rfl
    have e2 : (kvs.map fun kv => kV kv.1)[j]? = some (kV k) := by
      have e3 : (kvs.map fun kv => kV kv.1) = (kvs.map (·.1)).map kV := by rw [List.map_map] <;> rfl
      rw [e3, List.getElem?_map, e1] <;> rfl
    rw [e2] at h1
    cases h1
    exact keyIs_rel hi
  have kr : RpA m H (kvs.map fun kv => kV kv.1) (kvs.map fun kv => keyD kv.1) := by
    clear ok fin hal hso hl hd rk hkl rv ha hal' z
    induction kvs with
    | nil => exact .nil
    | cons kv kvs ih =>
      refine .cons ?_ ih
      obtain ⟨k, _⟩ := kv
      cases k with
      | inl i => exact .int i
      | inr x => exact .str x
  have e := each_of rv kr
  have eb := zip_snd kr
  have er := each_reads I1 e
  generalize hB : (kvs.map fun kv => kV kv.1).zip (kvs.map fun kv => keyD kv.1) = B at e eb er
  have ho2 : (h'.push { cls := .type "list", data := .seq acc.toList.toArray }).get? h'.objs.size = some (seqObj "list" acc.toList.toArray 0) := Heap.get?_push_size _ rfl
  have er' : EachIs (fun v b => ∃ as, Reads (sortingHeap (h'.push { cls := .type "list", data := .seq acc.toList.toArray }) h'.objs.size acc.toList) v b.2 as) acc.toList B :=
    er.mono fun _ _ ⟨as, r⟩ => ⟨as, PyProof.Rows.Reads.keeps (fun b o q => sortingHeap_old (Nat.ne_of_lt (Heap.lt_size q)) (Heap.get?_push_of_some _ q)) r⟩
  have hlen : acc.toList.length = B.length := e.length
  refine wpAny_bind (wpAny_holding (wpAny_call_entry slot_list_sort ⟨_, ho2, rfl⟩ entry_list_sort (list_sort_vals (s := { s with heap := h'.push { cls := .type "list", data := .seq acc.toList.toArray }, toks := tk }) (κ := dataKind (sortingHeap (h'.push { cls := .type "list", data := .seq acc.toList.toArray }) h'.objs.size acc.toList) (B.map Prod.snd)) ho2
    (SortsAt.data (s := { s with heap := sortingHeap (h'.push { cls := .type "list", data := .seq acc.toList.toArray }) h'.objs.size acc.toList, toks := tk }) (each_map (R := fun v d => ∃ as, Reads (sortingHeap (h'.push { cls := .type "list", data := .seq acc.toList.toArray }) h'.objs.size acc.toList) v d as) Prod.snd er') (by rw [eb]; exact hal) (by rw [eb]; exact hso) (bound_map fun b hb => ?_)) (by rw [hal']; exact z) ⟨.none, rfl, ?_⟩) (args_list_sort _)))
  · have := hd b.2 (by rw [← eb]; exact List.mem_map.mpr ⟨b, hb, rfl⟩)
    have : deep = 60 := rfl
    show X.A.units + 1 + 1 + b.snd.depth < cLine
    omega
  · refine wpAny_pure ⟨_, rfl, ?_⟩
    have eo := sortVals_data false e er' (by rw [eb]; exact hal)
    generalize hout : sortVals (dataKind (sortingHeap (h'.push { cls := .type "list", data := .seq acc.toList.toArray }) h'.objs.size acc.toList) (B.map Prod.snd)) false acc.toList acc.toList = out at eo
    have ho3 : out.length = B.length := by rw [← hout, sortVals_length false rfl]; exact hlen
    obtain ⟨c, hcc⟩ := sortedHeap_at (out := out.toArray) ho2
    exact srt_done (tk := tk) I1 eb hl ho3 eo (Nat.le_refl _) (fun b o q => (sortedHeap_old (Nat.ne_of_lt (Heap.lt_size q)) (by rw [Heap.size_push]; exact Nat.lt_succ_of_lt (Heap.lt_size q))).trans (Heap.get?_push_of_some _ q)) hcc fin
end
end Iw
end

section
set_option Elab.async false
set_option linter.all false
set_option maxRecDepth 100000
namespace Iw
open PySem PySem.Spec PyProof.Rows L2
variable [TheW]
section
variable {X : Cx} {K : PySem.W.Frag} {mg : Str → Option Value} {E : Value → Hp → Prop} {m : Mp} {H : Hp} {h : Hs}
theorem bools_at : ∀ {xs : List PV} {vs : List V} {bs : List Bool}, RVs K m H vs xs → bools xs = some bs → vs = bs.map V.bl
  | [], _, _, r, e => by cases r; cases e; rfl
  | .d x :: xs, _, _, .cons r t, e => by
    cases x with
    | bool b =>
      have e : (bools xs).map (b :: ·) = some _ := e
      obtain ⟨bs', e1, rfl⟩ := Option.map_eq_some_iff.mp e
      cases rv_bool r
      rw [bools_at t e1]; rfl
    | _ => cases e
  | .ref _ :: _, _, _, .cons r t, e => by cases e
  | .scr _ :: _, _, _, .cons r t, e => by cases e
  | .pr _ _ :: _, _, _, .cons r t, e => by cases e
theorem intsOf_at : ∀ {xs : List PV} {vs : List V} {bs : List Int}, RVs K m H vs xs → intsOf xs = some bs → vs = bs.map V.int
  | [], _, _, r, e => by cases r; cases e; rfl
  | .d x :: xs, _, _, .cons r t, e => by
    cases x with
    | int b =>
      have e : (intsOf xs).map (b :: ·) = some _ := e
      obtain ⟨bs', e1, rfl⟩ := Option.map_eq_some_iff.mp e
      cases rv_int r
      rw [intsOf_at t e1]; rfl
    | _ => cases e
  | .ref _ :: _, _, _, .cons r t, e => by cases e
  | .scr _ :: _, _, _, .cons r t, e => by cases e
  | .pr _ _ :: _, _, _, .cons r t, e => by cases e
theorem rvs1 {vs : List V} {p : PV} (r : RVs K m H vs [p]) : ∃ v, vs = [v] ∧ RV K m H v p := by
  cases r with
  | cons r t => cases t; exact ⟨_, rfl, r⟩
theorem rvs2 {vs : List V} {p q : PV} (r : RVs K m H vs [p, q]) : ∃ v w, vs = [v, w] ∧ RV K m H v p ∧ RV K m H w q := by
  cases r with
  | cons r t =>
    obtain ⟨w, rfl, r2⟩ := rvs1 t
    exact ⟨_, _, rfl, r, r2⟩
theorem satG_of {α β : Type} {rel : Mp → Hp → β → α → Prop} {Q : β → Hp → Prop} {o : Option α} (hs : satG mg K E m H rel (R.of o h) Q) : ∃ a, o = some a ∧ satG mg K E m H rel (.ok a h) Q := by
  cases o with
  | none => exact hs.elim
  | some a => exact ⟨a, rfl, hs⟩
theorem leastI_spec : ∀ (xs : List Int) (x : Int), leastI x xs ∈ x :: xs ∧ ∀ y ∈ x :: xs, leastI x xs ≤ y
  | [], x => ⟨by simp [leastI], by simp [leastI]⟩
  | z :: xs, x => by
    obtain ⟨h1, h2⟩ := leastI_spec xs (min x z)
    show leastI (min x z) xs ∈ _ ∧ ∀ y ∈ _, leastI (min x z) xs ≤ y
    refine ⟨?_, fun y hy => ?_⟩
    · rcases List.mem_cons.mp h1 with e | e
      · rw [e]
        rcases Int.le_total x z with c | c
        · rw [Int.min_eq_left c]; simp
        · rw [Int.min_eq_right c]; simp
      · simp [e]
    · have b := h2 (min x z) (by simp)
      rcases List.mem_cons.mp hy with e | e
      · subst e; omega
      · rcases List.mem_cons.mp e with e | e
        · subst e; omega
        · exact h2 y (by simp [e])
theorem mostI_spec : ∀ (xs : List Int) (x : Int), mostI x xs ∈ x :: xs ∧ ∀ y ∈ x :: xs, y ≤ mostI x xs
  | [], x => ⟨by simp [mostI], by simp [mostI]⟩
  | z :: xs, x => by
    obtain ⟨h1, h2⟩ := mostI_spec xs (max x z)
    show mostI (max x z) xs ∈ _ ∧ ∀ y ∈ _, y ≤ mostI (max x z) xs
    refine ⟨?_, fun y hy => ?_⟩
    · rcases List.mem_cons.mp h1 with e | e
      · rw [e]
        rcases Int.le_total x z with c | c
        · rw [Int.max_eq_right c]; simp
        · rw [Int.max_eq_left c]; simp
      · simp [e]
    · have b := h2 (max x z) (by simp)
      rcases List.mem_cons.mp hy with e | e
      · subst e; omega
      · rcases List.mem_cons.mp e with e | e
        · subst e; omega
        · exact h2 y (by simp [e])
theorem uniq_least {xs : List Int} {a b : Int} (ha : a ∈ xs) (hb : b ∈ xs) (la : ∀ y ∈ xs, a ≤ y) (lb : ∀ y ∈ xs, b ≤ y) : a = b := Int.le_antisymm (la b hb) (lb a ha)
theorem uniq_most {xs : List Int} {a b : Int} (ha : a ∈ xs) (hb : b ∈ xs) (la : ∀ y ∈ xs, y ≤ a) (lb : ∀ y ∈ xs, y ≤ b) : a = b := Int.le_antisymm (lb a ha) (la b hb)
theorem len_iw {v : V} {p : PV} {n : Nat} (rh : RH K m h H) (r : RV K m H v p) (e : lenOf h p = some n) : LenV K v H n := by
  have lists : ∀ xs, getL h p = some xs → xs.length = n → LenV K v H n := fun xs e1 e2 => by
    obtain ⟨a, vs, rfl, ha, qa⟩ := getL_at rh r e1
    exact .inl ⟨vs, SqL.of ha, by rw [qa.len, e2]⟩
  cases p with
  | d x =>
    cases x with
    | str z =>
      cases rv_str r
      have e : (if z.length ≤ line then some z.length else none) = some n := e
      by_cases hl : z.length ≤ line
      · rw [if_pos hl] at e; cases e
        exact ⟨by rw [← line_eq]; exact hl, rfl⟩
      · rw [if_neg hl] at e; cases e
    | tuple ds =>
      obtain ⟨a, vs, rfl, ha, na, qa⟩ := rv_tup r
      cases e
      exact .inr ⟨vs, SqT.of ha, qa.length.symm⟩
    | list ds =>
      obtain ⟨xs, e1, e2⟩ := Option.map_eq_some_iff.mp (show (getL h (.d (.list ds))).map (·.length) = some n from e)
      exact lists xs e1 e2
    | _ => cases (show (none : Option Nat) = some n from e)
  | ref j =>
    obtain ⟨xs, e1, e2⟩ := Option.map_eq_some_iff.mp (show (getL h (.ref j)).map (·.length) = some n from e)
    exact lists xs e1 e2
  | scr ns =>
    cases r with
    | scr sc =>
      cases e
      exact .inl ⟨_, sc.sq, by simp⟩
  | pr _ _ => cases e
/-- repr of data -/
theorem repr_data {prog : Program} {w : World} {A : Around} {E : Value → Shared → Prop} {s : Shared} {v : Value} {d : PyData} {as : List Addr} {Q : Value → Shared → Prop} (r : Reads s.heap v d as) (hs : d.showable = true) (hd : d.hasDict = false)
    (hg : A.guards = some []) (hu : A.units + (d.depth + 1) < cLine) (hz : d.shown.length ≤ sizeLine) (h : ∀ h' u tk, (∀ b o, s.heap.get? b = some o → h'.get? b = some o) → Q (.str d.shown u) { s with heap := h', toks := tk }) :
    wpAny (model prog w) A (call (.builtin "repr") [v]) Q E s := by
  have hsm := PyData.noDict_hsm (as := as) hd
  cases r with
  | none => exact PySem.P.repr_of_none (h s.heap _ _ fun _ _ e => e)
  | bool b => exact PySem.P.repr_of_bool (h s.heap _ _ fun _ _ e => e)
  | int i t => exact PySem.P.repr_of_int (of_decide_eq_true hs) (h s.heap _ _ fun _ _ e => e)
  | str x t => exact PySem.P.repr_of_str (h s.heap _ _ fun _ _ e => e) hz
  | list h1 h2 h3 h4 => exact repr_of_reads' (Reads.list h1 h2 h3 h4) hs hsm hg hu (fun _ _ e => e) h hz
  | tuple h1 h2 h3 h4 => exact repr_of_reads' (Reads.tuple h1 h2 h3 h4) hs hsm hg hu (fun _ _ e => e) h hz
  | dict h1 h2 h3 h4 h5 => cases hd
theorem keys_pair {κ : Type} {P : V → PV → Prop} {vs : List (κ × V)} {xs : List (κ × PV)} (r : Paired (fun p q => p.1 = q.1 ∧ P p.2 q.2) vs xs) : vs.map (·.1) = xs.map (·.1) := by
  induction r with
  | nil => rfl
  | cons h t ih => rw [List.map_cons, List.map_cons, ih, h.1]
theorem ints_keys : ∀ (kvs : List (L2.Key × PV)) {is : List Int}, intsOf (kvs.map fun kv => .d (keyD kv.1)) = some is → kvs.map (·.1) = is.map Sum.inl
  | [], is, e => by cases e; rfl
  | (k, v) :: kvs, is, e => by
    cases k with
    | inl i =>
      obtain ⟨is', e1, rfl⟩ := Option.map_eq_some_iff.mp (show (intsOf (kvs.map fun kv => .d (keyD kv.1))).map (i :: ·) = some is from e)
      rw [List.map_cons, List.map_cons, ints_keys kvs e1]
    | inr x => cases e
def Bi.val : Bi → Value
  | .all => .builtin "all"
  | .any => .builtin "any"
  | .len => .builtin "len"
  | .int1 => .type "int"
  | .bool1 => .type "bool"
  | .str1 => .type "str"
  | .repr => .builtin "repr"
  | .max2 => .builtin "max"
  | .min2 => .builtin "min"
  | .max1 => .builtin "max"
  | .min1 => .builtin "min"
  | .sum => .builtin "sum"
  | .tuple1 => .type "tuple"
  | .list1 _ => .type "list"
  | .srt1 _ => .builtin "sorted"
  | .dict1 => .type "dict"
theorem RpA.rvs' {m : Mp} {H : Hp} {K : PySem.W.Frag} {vs : List V} {ds : List PyData} (r : RpA m H vs ds) : RVs K m H vs (ds.map .d) := r.rvs
/-- a list's or a tuple's items -/
theorem items_at (rh : RH K m h H) {v : V} {p : PV} {xs : List PV} (r : RV K m H v p) (e : itemsOf h p = some xs) : ∃ a vs, v = .ref a ∧ (H a = some (.lst vs) ∨ H a = some (.tup vs)) ∧ RVs K m H vs xs := by
  have lists : getL h p = some xs → ∃ a vs, v = .ref a ∧ (H a = some (.lst vs) ∨ H a = some (.tup vs)) ∧ RVs K m H vs xs := fun e => by
    obtain ⟨a, vs, h1, h2, h3⟩ := getL_at rh r e
    exact ⟨a, vs, h1, .inl h2, h3⟩
  cases p with
  | d x =>
    cases x with
    | tuple ds =>
      obtain ⟨a, vs, rfl, ha, na, qa⟩ := rv_tup r
      cases e
      exact ⟨a, vs, rfl, .inr ha, qa.rvs⟩
    | _ => exact lists e
  | ref n => exact lists e
  | scr ns => exact lists e
  | pr _ _ => exact lists e
theorem datas_map : ∀ ds : List PyData, datas (ds.map PV.d) = some ds
  | [] => rfl
  | d :: ds => by show (datas (ds.map PV.d)).map _ = _; rw [datas_map ds]; rfl
theorem pairsK_at : ∀ {vs : List V} {ds : List PyData} {kvs : List (Key × PyData)}, RpA m H vs ds → pairsK ds = some kvs →
    ∃ (ps : List Addr) (ws : List (Key × V)), vs = ps.map V.ref ∧ Paired (fun p kv => SqT K H p [kV kv.1, kv.2]) ps ws ∧ Paired (fun p q => p.1 = q.1 ∧ RV K m H p.2 q.2) ws (kvs.map fun kv => (kv.1, PV.d kv.2))
  | _, _, _, .nil, e => by
    cases e
    exact ⟨[], [], rfl, .nil, .nil⟩
  | _, _, _, .cons (v := v) (d := d) (ds := ds) r t, e => by
    unfold pairsK at e
    split at e
    · rename_i e0; cases e0
    · rename_i k x r' e0
      injection e0 with e1 e2
      subst e1 e2
      obtain ⟨q, e3, e4⟩ := Option.bind_eq_some_iff.mp e
      obtain ⟨kvs', e5, rfl⟩ := Option.map_eq_some_iff.mp e4
      obtain ⟨ps, ws, rfl, h2, h3⟩ := pairsK_at t e5
      cases r with
      | tup h n ra =>
        cases ra with
        | cons r1 ra =>
          cases ra with
          | cons r2 ra =>
            cases ra
            have := keyOf_at r1 e3
            subst this
            exact ⟨_ :: ps, (q, _) :: ws, rfl, .cons (SqT.of h) h2, .cons ⟨rfl, .d r2⟩ h3⟩
    · cases e
theorem merge_pair {P : V → PV → Prop} {ws : List (Key × V)} {xs : List (Key × PV)} (t : Paired (fun p q => p.1 = q.1 ∧ P p.2 q.2) ws xs) : ∀ {vs : List (Key × V)} {ys : List (Key × PV)}, Paired (fun p q => p.1 = q.1 ∧ P p.2 q.2) vs ys → Paired (fun p q => p.1 = q.1 ∧ P p.2 q.2) (mergeK vs ws) (mergeP ys xs) := by
  induction t with
  | nil => intro vs ys r; exact r
  | @cons a b as bs h t ih =>
    intro vs ys r
    obtain ⟨k, v⟩ := a
    obtain ⟨k', x⟩ := b
    obtain ⟨e, q⟩ := h
    have e : k = k' := e
    subst e
    exact ih (put_pair k q r)
theorem call_bi (hc : X.calm = true) (hg : X.A.guards = some []) (hu : X.A.units + 64 < cLine) (ww : X.w = TheW.w) (b : Bi) : CallR X b.val (rs X (biop b)) := by
  intro pins s σ H xs us Q I rv ⟨E, m, hh, ps, rh, ra, hs⟩
  cases ps with
  | nil => cases b <;> exact hs.elim
  | cons p ps =>
    cases ps with
    | nil =>
      obtain ⟨v, rfl, r1⟩ := rvs1 ra
      cases b with
      | all =>
        obtain ⟨z, e, hs⟩ := satG_of (show satG X.mg X.K E m H (RV X.K) (R.of (((getL hh p).bind bools).map fun bs => Iw.bool (bs.all id)) hh) Q from hs)
        obtain ⟨bs, e1, rfl⟩ := Option.map_eq_some_iff.mp e
        obtain ⟨l, e2, e3⟩ := Option.bind_eq_some_iff.mp e1
        obtain ⟨a, vs, rfl, ha, qa⟩ := getL_at rh r1 e2
        have ev := bools_at qa e3
        subst ev
        exact cr_all hc pins s σ H _ us Q I rv ⟨a, bs, rfl, SqL.of ha, now rh hs (.d (.bl _))⟩
      | any =>
        obtain ⟨z, e, hs⟩ := satG_of (show satG X.mg X.K E m H (RV X.K) (R.of (((getL hh p).bind bools).map fun bs => Iw.bool (bs.any id)) hh) Q from hs)
        obtain ⟨bs, e1, rfl⟩ := Option.map_eq_some_iff.mp e
        obtain ⟨l, e2, e3⟩ := Option.bind_eq_some_iff.mp e1
        obtain ⟨a, vs, rfl, ha, qa⟩ := getL_at rh r1 e2
        have ev := bools_at qa e3
        subst ev
        exact cr_any hc pins s σ H _ us Q I rv ⟨a, bs, rfl, SqL.of ha, now rh hs (.d (.bl _))⟩
      | len =>
        obtain ⟨z, e, hs⟩ := satG_of (show satG X.mg X.K E m H (RV X.K) (R.of ((lenOf hh p).map fun n : Nat => Iw.int n) hh) Q from hs)
        obtain ⟨n, e1, rfl⟩ := Option.map_eq_some_iff.mp e
        exact L2.call_len pins s σ H _ us Q I rv ⟨v, n, rfl, len_iw rh r1 e1, now rh hs (.d (.int _))⟩
      | int1 =>
        rcases p with (_|b|i|_|_|_|_) | _ | _ <;> first | exact hs.elim | skip
        · cases rv_bool r1
          refine call_int1 pins s σ H _ us Q I rv (.inr ⟨b, rfl, ?_⟩)
          have e : (if b = true then (1 : Int) else 0) = cond b 1 0 := by cases b <;> rfl
          rw [e]
          exact now rh hs (.d (.int _))
        · cases rv_int r1
          exact call_int1 pins s σ H _ us Q I rv (.inl ⟨i, rfl, now rh hs (.d (.int _))⟩)
      | bool1 =>
        rcases p with (_|b|i|_|_|_|_) | _ | _ <;> first | exact hs.elim | skip
        · cases rv_bool r1
          exact call_bool1 pins s σ H _ us Q I rv (.inr ⟨b, rfl, now rh hs (.d (.bl _))⟩)
        · cases rv_int r1
          exact call_bool1 pins s σ H _ us Q I rv (.inl ⟨i, rfl, now rh hs (.d (.bl _))⟩)
      | str1 =>
        rcases p with (_|b|i|_|_|_|_) | _ | _ <;> first | exact hs.elim | skip
        cases rv_int r1
        obtain ⟨hl, hs⟩ := satG_if hs
        exact call_str_int pins s σ H _ us Q I rv ⟨i, rfl, hl, now rh hs (.d (.str _))⟩
      | repr =>
        cases p with
        | d x =>
          obtain ⟨hl, hs⟩ := satG_if hs
          unfold reprOk at hl
          simp only [Bool.and_eq_true, decide_eq_true_eq, Bool.not_eq_true'] at hl
          obtain ⟨w, rfl, rw1⟩ := vals1 rv
          obtain ⟨as, hr⟩ := Rp.reads I (rv_d r1) rw1
          refine repr_data hr hl.1 hl.2.1 hg (by have := hl.2.2.1; have : deep = 60 := rfl; omega) (by rw [← line_eq]; exact hl.2.2.2) fun h' u tk hk => ?_
          exact ⟨.str _, H, I.kept hk, ⟨_, rfl⟩, now rh hs (.d (.str _))⟩
        | _ => exact hs.elim
      | max1 =>
        have hs : satG X.mg X.K E m H (RV X.K) (match (getL hh p).bind intsOf with
          | some (x :: r) => .ok (Iw.int (mostI x r)) hh
          | _ => .bad) Q := hs
        split at hs
        · rename_i x r e1
          obtain ⟨l, e2, e3⟩ := Option.bind_eq_some_iff.mp e1
          obtain ⟨a, vs, rfl, ha, qa⟩ := getL_at rh r1 e2
          have ev := intsOf_at qa e3
          subst ev
          refine cr_max hc pins s σ H _ us Q I rv ⟨a, x :: r, rfl, SqL.of ha, by simp, fun k hk hle => ?_⟩
          obtain ⟨q1, q2⟩ := mostI_spec r x
          rw [uniq_most hk q1 hle q2]
          exact now rh hs (.d (.int _))
        · exact hs.elim
      | min1 =>
        have hz : satG X.mg X.K E m H (RV X.K) (match (minItems hh p).bind intsOf with
          | some (x :: r) => .ok (Iw.int (leastI x r)) hh
          | _ => .bad) Q := hs
        split at hz
        · rename_i x r e1
          obtain ⟨l, e2, e3⟩ := Option.bind_eq_some_iff.mp e1
          have lists : getL hh p = some l → wpAny (model X.prog X.w) X.A (call (.builtin "min") us) (EP X pins σ Q) X.xe s := fun e2 => by
            obtain ⟨a, vs, rfl, ha, qa⟩ := getL_at rh r1 e2
            have ev := intsOf_at qa e3
            subst ev
            refine cr_min hc pins s σ H _ us Q I rv ⟨a, x :: r, rfl, SqL.of ha, by simp, fun k hk hle => ?_⟩
            obtain ⟨q1, q2⟩ := leastI_spec r x
            rw [uniq_least hk q1 hle q2]
            exact now rh hz (.d (.int _))
          cases p with
          | ref n =>
            unfold minItems at e2
            dsimp only at e2
            split at e2
            · rename_i kvs e0
              cases e2
              obtain ⟨a, u, h4, h5, h6⟩ := rh.at_ n _ e0
              cases r1 with
              | ref hn =>
                rw [h4] at hn; cases hn
                cases h6 with
                | dK rp =>
                  refine cr_minK hc pins s σ H _ us Q I rv ⟨a, _, x :: r, rfl, h5, (keys_pair rp).trans (ints_keys kvs e3), by simp, fun k hk hle => ?_⟩
                  obtain ⟨q1, q2⟩ := leastI_spec r x
                  rw [uniq_least hk q1 hle q2]
                  exact now rh hz (.d (.int _))
            · exact lists e2
          | d _ => exact lists e2
          | scr _ => exact lists e2
          | pr _ _ => exact lists e2
        · exact hz.elim
      | sum =>
        obtain ⟨z, e, hs⟩ := satG_of (show satG X.mg X.K E m H (RV X.K) (R.of (((getL hh p).bind intsOf).map fun ns => Iw.int ns.sum) hh) Q from hs)
        obtain ⟨bs, e1, rfl⟩ := Option.map_eq_some_iff.mp e
        obtain ⟨l, e2, e3⟩ := Option.bind_eq_some_iff.mp e1
        obtain ⟨a, vs, rfl, ha, qa⟩ := getL_at rh r1 e2
        have ev := intsOf_at qa e3
        subst ev
        exact cr_sum hc pins s σ H _ us Q I rv ⟨a, bs, rfl, SqL.of ha, now rh hs (.d (.int _))⟩
      | tuple1 =>
        have hs : satG X.mg X.K E m H (RV X.K) (match (itemsOf hh p).bind datas with
          | some ds => if ds.length ≤ line then .ok (.d (.tuple ds)) hh else .bad
          | none => .bad) Q := hs
        cases e : (itemsOf hh p).bind datas with
        | none => rw [e] at hs; exact hs.elim
        | some ds =>
          rw [e] at hs
          obtain ⟨hl, hs⟩ := satG_if hs
          obtain ⟨xs, e1, e2⟩ := Option.bind_eq_some_iff.mp e
          obtain ⟨a, vs, rfl, ha, qa⟩ := items_at rh r1 e1
          have rp := RVs.rpa qa e2
          refine L2.call_tuple_of pins s σ H _ us Q I rv ⟨a, vs, rfl, ?_⟩
          rcases ha with ha | ha
          · exact .inl ⟨SqL.of ha, fun l hl => newTup rh hs rp hl⟩
          · exact .inr ⟨SqT.of ha, now rh hs (.d (.tup ha (rh.tup ha) rp))⟩
      | list1 mt =>
        have hs : satG X.mg X.K E m H (RV X.K) (match lsItems hh p with
          | some xs => if xs.length ≤ line then mkL mt xs hh else .bad
          | none => .bad) Q := hs
        cases e : lsItems hh p with
        | none => rw [e] at hs; exact hs.elim
        | some xs =>
          rw [e] at hs
          obtain ⟨hl, hs⟩ := satG_if hs
          have seqs : itemsOf hh p = some xs → wpAny (model X.prog X.w) X.A (call (.type "list") us) (EP X pins σ Q) X.xe s := fun e => by
            obtain ⟨a, vs, rfl, ha, qa⟩ := items_at rh r1 e
            exact L2.call_list_of pins s σ H _ us Q I rv ⟨a, vs, rfl, ha.imp SqL.of SqT.of, fun l hl => newMk rh hs qa hl⟩
          cases p with
          | ref n =>
            unfold lsItems at e
            dsimp only at e
            split at e
            · rename_i kvs e0
              cases e
              obtain ⟨a, u, h1, h2, h3⟩ := rh.at_ n _ e0
              cases r1 with
              | ref ha =>
                rw [h1] at ha; cases ha
                obtain ⟨w, rfl, rw1⟩ := vals1 rv
                cases rw1
                cases h3 with
                | dN rp =>
                  refine ls_dictN hc ww I (.inl h2) rp fun l vs' hl r => ?_
                  refine newMk rh hs ?_ hl
                  rw [show (kvs.map fun kv => PV.d kv.1.data) = (kvs.map fun kv => kv.1.data).map PV.d by rw [List.map_map]; rfl]
                  exact r.rvs
            · exact seqs e
          | _ => exact seqs e
      | srt1 mt =>
        have hs : satG X.mg X.K E m H (RV X.K) (match (keysAll hh p).bind datas with
          | some ds => if srtOk ds = true then mkL mt ((srtD ds).map .d) hh else .bad
          | none => .bad) Q := hs
        cases e : (keysAll hh p).bind datas with
        | none => rw [e] at hs; exact hs.elim
        | some ds =>
          rw [e] at hs
          obtain ⟨hl, hs⟩ := satG_if hs
          obtain ⟨xs, e1, e2⟩ := Option.bind_eq_some_iff.mp e
          have fin : ∀ p vs', H p = none → RpA m H vs' (srtD ds) → Q (.ref p) (upd H p (.lst vs')) := fun l vs' hl r => newMk rh hs r.rvs hl
          obtain ⟨w, rfl, rw1⟩ := vals1 rv
          have lists : getL hh p = some xs → wpAny (model X.prog X.w) X.A (call (.builtin "sorted") [w]) (EP X pins σ Q) X.xe s := fun e1 => by
            obtain ⟨a, vs, rfl, ha, qa⟩ := getL_at rh r1 e1
            cases rw1
            exact srt_list hu I ha (RVs.rpa qa e2) hl fin
          cases p with
          | d x =>
            exact lists e1
          | scr ns => cases e1
          | pr _ _ => cases e1
          | ref n =>
            unfold keysAll at e1
            dsimp only at e1
            split at e1
            · rename_i kvs e0
              cases e1
              obtain ⟨a, u, h1, h2, h3⟩ := rh.at_ n _ e0
              cases r1 with
              | ref ha =>
                rw [h1] at ha; cases ha
                cases rw1
                cases h3 with
                | dT rp =>
                  rename_i kvs'
                  have ek : (kvs'.map fun kv => PyData.tuple (kv.1.map keyD)) = ds := by
                    have go : ∀ {vs : List (List Key × V)} {xs : List (List Key × PV)}, Paired (fun p q => p.1 = q.1 ∧ RV X.K m H p.2 q.2) vs xs → (xs.map fun kv => PV.d (.tuple (kv.1.map keyD))) = (vs.map fun kv => PyData.tuple (kv.1.map keyD)).map .d := fun r => by
                      induction r with
                      | nil => rfl
                      | cons r _ ih => simp only [List.map_cons]; rw [r.1, ih]
                    rw [go rp, datas_map] at e2
                    exact Option.some.inj e2
                  subst ek
                  exact srt_dict hc hu I rh (.inl h2) hl fin
            · rename_i kvs e0
              cases e1
              obtain ⟨a, u, h1, h2, h3⟩ := rh.at_ n _ e0
              cases r1 with
              | ref ha =>
                rw [h1] at ha; cases ha
                cases rw1
                cases h3 with
                | dTl rp =>
                  rename_i kvs'
                  have ek : (kvs'.map fun kv => PyData.tuple (kv.1.map keyD)) = ds := by
                    have go : ∀ {vs : List (List Key × V)} {xs : List (List Key × PV)}, Paired (fun p q => p.1 = q.1 ∧ RV X.K m H p.2 q.2) vs xs → (xs.map fun kv => PV.d (.tuple (kv.1.map keyD))) = (vs.map fun kv => PyData.tuple (kv.1.map keyD)).map .d := fun r => by
                      induction r with
                      | nil => rfl
                      | cons r _ ih => simp only [List.map_cons]; rw [r.1, ih]
                    rw [go rp, datas_map] at e2
                    exact Option.some.inj e2
                  subst ek
                  exact srt_dict hc hu I rh (.inr ⟨_, h2⟩) hl fin
            · rename_i kvs e0
              cases e1
              obtain ⟨a, u, h1, h2, h3⟩ := rh.at_ n _ e0
              cases r1 with
              | ref ha =>
                rw [h1] at ha; cases ha
                cases rw1
                cases h3 with
                | dK rp =>
                  rename_i kvs'
                  have ek : (kvs'.map fun kv => keyD kv.1) = ds := by
                    have go : ∀ {vs : List (Key × V)} {xs : List (Key × PV)}, Paired (fun p q => p.1 = q.1 ∧ RV X.K m H p.2 q.2) vs xs → (xs.map fun kv => PV.d (keyD kv.1)) = (vs.map fun kv => keyD kv.1).map .d := fun r => by
                      induction r with
                      | nil => rfl
                      | cons r _ ih => simp only [List.map_cons]; rw [r.1, ih]
                    rw [go rp, datas_map] at e2
                    exact Option.some.inj e2
                  subst ek
                  exact srt_dictK hc hu I h2 hl fin
            · rename_i kvs e0
              cases e1
              obtain ⟨a, u, h1, h2, h3⟩ := rh.at_ n _ e0
              cases r1 with
              | ref ha =>
                rw [h1] at ha; cases ha
                cases rw1
                cases h3 with
                | dN rp =>
                  have ek : (kvs.map fun kv => kv.1.data) = ds := by
                    rw [show (kvs.map fun kv => PV.d kv.1.data) = (kvs.map fun kv => kv.1.data).map PV.d by rw [List.map_map]; rfl, datas_map] at e2
                    exact Option.some.inj e2
                  subst ek
                  exact srt_dictN hc hu ww I (.inl h2) rp hl fin
            · rename_i kvs e0
              cases e1
              obtain ⟨a, u, h1, h2, h3⟩ := rh.at_ n _ e0
              cases r1 with
              | ref ha =>
                rw [h1] at ha; cases ha
                cases rw1
                cases h3 with
                | dNl rp =>
                  have ek : (kvs.map fun kv => kv.1.data) = ds := by
                    rw [show (kvs.map fun kv => PV.d kv.1.data) = (kvs.map fun kv => kv.1.data).map PV.d by rw [List.map_map]; rfl, datas_map] at e2
                    exact Option.some.inj e2
                  subst ek
                  exact srt_dictN hc hu ww I (.inr ⟨_, h2⟩) rp hl fin
            · exact lists e1
      | dict1 =>
        rcases p with (_|_|_|_|ds|_|_) | _ | _ <;> first | exact hs.elim | skip
        have hs : satG X.mg X.K E m H (RV X.K) (match pairsK ds with
          | some kvs => .ok (.ref hh.length) (hh ++ [.dK (mergeP [] (kvs.map fun kv => (kv.1, .d kv.2)))])
          | none => .bad) Q := hs
        cases e : pairsK ds with
        | none => rw [e] at hs; exact hs.elim
        | some kvs =>
          rw [e] at hs
          obtain ⟨a, vs, rfl, ha, na, qa⟩ := rv_lst r1
          obtain ⟨ps, ws, rfl, h2, h3⟩ := pairsK_at (K := X.K) qa e
          refine L2.call_dictP hc pins s σ H _ us Q I rv ⟨a, ps, ws, rfl, SqL.of ha, h2, fun l hl => ?_⟩
          refine hs _ _ _ (Evo.alloc rh hl) (rh.alloc hl (.dK (merge_pair h3 .nil))) (.ref ?_)
          rw [← rh.len]; simp
      | _ => exact hs.elim
    | cons q ps =>
      cases ps with
      | nil =>
        obtain ⟨v, w, rfl, r1, r2⟩ := rvs2 ra
        cases b with
        | max2 =>
          rcases p with (_|_|i|_|_|_|_) | _ | _ <;> first | exact hs.elim | skip
          rcases q with (_|_|j|_|_|_|_) | _ | _ <;> first | exact hs.elim | skip
          cases rv_int r1
          cases rv_int r2
          exact call_max2 hc pins s σ H _ us Q I rv ⟨i, j, rfl, now rh hs (.d (.int _))⟩
        | min2 =>
          rcases p with (_|_|i|_|_|_|_) | _ | _ <;> first | exact hs.elim | skip
          rcases q with (_|_|j|_|_|_|_) | _ | _ <;> first | exact hs.elim | skip
          cases rv_int r1
          cases rv_int r2
          exact call_min2 hc pins s σ H _ us Q I rv ⟨i, j, rfl, now rh hs (.d (.int _))⟩
        | _ => exact hs.elim
      | cons r ps => cases b <;> exact hs.elim
end
end Iw
end

section
set_option Elab.async false
set_option linter.all false
set_option maxRecDepth 100000
/-! expressions: the readings, one rule a form -/
namespace Iw
open PySem PySem.Spec PyProof.Rows L2
variable [TheW]
/-- what is wanted of an exception: at these slots -/
abbrev Ex (W : WX) (σ : Sv) : Value → Hp → Prop := fun C H => W C none σ H
/-- the readings of what the interpreter gives -/
def tE (X : Cx) (W : WX) (f : Sg → Hs → R PV) : TE := fun σ H Q => ∃ m p h, RS X.K m H σ p ∧ RH X.K m h H ∧ satG X.mg X.K (Ex W σ) m H (RV X.K) (f p h) Q
def tA (X : Cx) (W : WX) (f : Sg → Hs → R (List PV)) : TA := fun σ H Q => ∃ m p h, RS X.K m H σ p ∧ RH X.K m h H ∧ satG X.mg X.K (Ex W σ) m H (RVs X.K) (f p h) Q
abbrev same {α : Type} (_ : Mp) (_ : Hp) (b a : α) : Prop := b = a
def tT (X : Cx) (W : WX) (f : Sg → Hs → R Bool) : TT := fun σ H Q => ∃ m p h, RS X.K m H σ p ∧ RH X.K m h H ∧ satG X.mg X.K (Ex W σ) m H same (f p h) Q
def tO (X : Cx) (W : WX) (f : Sg → Hs → R (Option Int)) : TO := fun σ H Q => ∃ m p h, RS X.K m H σ p ∧ RH X.K m h H ∧ satG X.mg X.K (Ex W σ) m H same (f p h) Q
theorem _root_.L2.PE.imp {X : Cx} {e : Expr} {t t' : TE} (h : PE X e t) (i : ∀ σ H Q, t' σ H Q → t σ H Q) : PE X e t' := ⟨fun pins s σ H Q I q => h.run pins s σ H Q I (i _ _ _ q)⟩
theorem _root_.L2.PT.imp {X : Cx} {e : Expr} {t t' : TT} (h : PT X e t) (i : ∀ σ H Q, t' σ H Q → t σ H Q) : PT X e t' := ⟨fun pins s σ H Q I q => h.run pins s σ H Q I (i _ _ _ q)⟩
theorem _root_.L2.PW.imp {X : Cx} {e : Expr} {t t' : TT} (h : PW X e t) (i : ∀ σ H Q, t' σ H Q → t σ H Q) : PW X e t' := ⟨fun w pins s σ H Q I q => h.run w pins s σ H Q I (i _ _ _ q)⟩
theorem _root_.L2.PA.imp {X : Cx} {e : List Expr} {t t' : TA} (h : PA X e t) (i : ∀ σ H Q, t' σ H Q → t σ H Q) : PA X e t' := ⟨fun p pins s σ H Q I q => h.run p pins s σ H Q I (i _ _ _ q)⟩
theorem _root_.L2.PO.imp {X : Cx} {e : Option Expr} {t t' : TO} (h : PO X e t) (i : ∀ σ H Q, t' σ H Q → t σ H Q) : PO X e t' := ⟨fun pins s σ H Q I q => h.run pins s σ H Q I (i _ _ _ q)⟩
theorem R.bind_assoc {α β γ : Type} (r : R α) (f : α → Hs → R β) (g : β → Hs → R γ) : (r.bind f).bind g = r.bind fun a h => (f a h).bind g := by cases r <;> rfl
section
variable {X : Cx} {W : WX} {σ : Sv} {H : Hp} {Q : VK}
/-- the first part of a bind -/
theorem tE.bind1 {α β : Type} {rel : Mp → Hp → β → α → Prop} {A : Sg → Hs → R PV} {f : PV → Hs → R α} {Q : β → Hp → Prop} {m : Mp} {p : Sg} {h : Hs} (rs : RS X.K m H σ p) (rh : RH X.K m h H) (hs : satG X.mg X.K (Ex W σ) m H rel ((A p h).bind f) Q) :
    tE X W A σ H fun x H1 => ∃ m1 a h1, Evo m H m1 H1 ∧ RS X.K m1 H1 σ p ∧ RH X.K m1 h1 H1 ∧ RV X.K m1 H1 x a ∧ satG X.mg X.K (Ex W σ) m1 H1 rel (f a h1) Q :=
  ⟨m, p, h, rs, rh, (satG.bind (rel := RV X.K) hs).mono fun b H1 ⟨m1, a, h1, ev, rh1, ra, s1⟩ => ⟨m1, a, h1, ev, rs.evo ev, rh1, ra, s1⟩⟩
theorem tE.mono {A : Sg → Hs → R PV} {Q Q' : VK} (h : tE X W A σ H Q) (hq : ∀ x H', Q x H' → Q' x H') : tE X W A σ H Q' := let ⟨m, p, hh, rs, rh, s⟩ := h; ⟨m, p, hh, rs, rh, s.mono hq⟩
theorem tT.bind1 {α β : Type} {rel : Mp → Hp → β → α → Prop} {A : Sg → Hs → R Bool} {f : Bool → Hs → R α} {Q : β → Hp → Prop} {m : Mp} {p : Sg} {h : Hs} (rs : RS X.K m H σ p) (rh : RH X.K m h H) (hs : satG X.mg X.K (Ex W σ) m H rel ((A p h).bind f) Q) :
    tT X W A σ H fun x H1 => ∃ m1 h1, Evo m H m1 H1 ∧ RS X.K m1 H1 σ p ∧ RH X.K m1 h1 H1 ∧ satG X.mg X.K (Ex W σ) m1 H1 rel (f x h1) Q :=
  ⟨m, p, h, rs, rh, (satG.bind (rel := same) hs).mono fun b H1 ⟨m1, a, h1, ev, rh1, ra, s1⟩ => by subst ra; exact ⟨m1, h1, ev, rs.evo ev, rh1, s1⟩⟩
theorem tT.mono {A : Sg → Hs → R Bool} {Q Q' : Bool → Hp → Prop} (h : tT X W A σ H Q) (hq : ∀ x H', Q x H' → Q' x H') : tT X W A σ H Q' := let ⟨m, p, hh, rs, rh, s⟩ := h; ⟨m, p, hh, rs, rh, s.mono hq⟩
theorem tA.bind1 {α β : Type} {rel : Mp → Hp → β → α → Prop} {A : Sg → Hs → R (List PV)} {f : List PV → Hs → R α} {Q : β → Hp → Prop} {m : Mp} {p : Sg} {h : Hs} (rs : RS X.K m H σ p) (rh : RH X.K m h H) (hs : satG X.mg X.K (Ex W σ) m H rel ((A p h).bind f) Q) :
    tA X W A σ H fun x H1 => ∃ m1 a h1, Evo m H m1 H1 ∧ RS X.K m1 H1 σ p ∧ RH X.K m1 h1 H1 ∧ RVs X.K m1 H1 x a ∧ satG X.mg X.K (Ex W σ) m1 H1 rel (f a h1) Q :=
  ⟨m, p, h, rs, rh, (satG.bind (rel := RVs X.K) hs).mono fun b H1 ⟨m1, a, h1, ev, rh1, ra, s1⟩ => ⟨m1, a, h1, ev, rs.evo ev, rh1, ra, s1⟩⟩
theorem tA.mono {A : Sg → Hs → R (List PV)} {Q Q' : List V → Hp → Prop} (h : tA X W A σ H Q) (hq : ∀ x H', Q x H' → Q' x H') : tA X W A σ H Q' := let ⟨m, p, hh, rs, rh, s⟩ := h; ⟨m, p, hh, rs, rh, s.mono hq⟩
theorem tO.bind1 {α β : Type} {rel : Mp → Hp → β → α → Prop} {A : Sg → Hs → R (Option Int)} {f : Option Int → Hs → R α} {Q : β → Hp → Prop} {m : Mp} {p : Sg} {h : Hs} (rs : RS X.K m H σ p) (rh : RH X.K m h H) (hs : satG X.mg X.K (Ex W σ) m H rel ((A p h).bind f) Q) :
    tO X W A σ H fun x H1 => ∃ m1 h1, Evo m H m1 H1 ∧ RS X.K m1 H1 σ p ∧ RH X.K m1 h1 H1 ∧ satG X.mg X.K (Ex W σ) m1 H1 rel (f x h1) Q :=
  ⟨m, p, h, rs, rh, (satG.bind (rel := same) hs).mono fun b H1 ⟨m1, a, h1, ev, rh1, ra, s1⟩ => by subst ra; exact ⟨m1, h1, ev, rs.evo ev, rh1, s1⟩⟩
theorem tO.mono {A : Sg → Hs → R (Option Int)} {Q Q' : Option Int → Hp → Prop} (h : tO X W A σ H Q) (hq : ∀ x H', Q x H' → Q' x H') : tO X W A σ H Q' := let ⟨m, p, hh, rs, rh, s⟩ := h; ⟨m, p, hh, rs, rh, s.mono hq⟩
variable {A B : Dn}
theorem t_two {f : PV → PV → Hs → R PV} (h : tE X W (two A B f).e σ H Q) : tOp (Iw.r2 X f) (tE X W A.e) (tE X W B.e) σ H Q := by
  obtain ⟨m, p, hh, rs, rh, hs⟩ := h
  exact (tE.bind1 rs rh hs).mono fun x H1 ⟨m1, a, h1, _, rs1, rh1, ra, s1⟩ => (tE.bind1 rs1 rh1 s1).mono fun y H2 ⟨m2, b, h2, e2, rs2, rh2, rb, s2⟩ => ⟨_, m2, h2, a, b, rh2, ra.evo e2, rb, s2⟩
theorem t_one {f : PV → Hs → R PV} (h : tE X W (one A f).e σ H Q) : tUn (Iw.r1 X f) (tE X W A.e) σ H Q := by
  obtain ⟨m, p, hh, rs, rh, hs⟩ := h
  exact (tE.bind1 rs rh hs).mono fun x H1 ⟨m1, a, h1, _, rs1, rh1, ra, s1⟩ => ⟨_, m1, h1, a, rh1, ra, s1⟩
theorem t_args {f : List PV → Hs → R PV} (h : tE X W (args A f).e σ H Q) : tCB (Iw.rs X f) (tA X W A.a) σ H Q := by
  obtain ⟨m, p, hh, rs, rh, hs⟩ := h
  exact (tA.bind1 rs rh hs).mono fun x H1 ⟨m1, a, h1, _, rs1, rh1, ra, s1⟩ => ⟨_, m1, h1, a, rh1, ra, s1⟩
end
section
variable {X : Cx} {W : WX} {a b c : Expr} {A B C : Dn} {pos : Pos}
variable (cf : Str → List PV → Hs → R PV) (k : Nat)
theorem e_loc {i : Nat} {x : Str} (h : PE X (.Name x pos) (tVar i)) : PE X (.Name x pos) (tE X W (den cf k (.loc i)).e) := h.imp fun σ H Q ⟨m, p, hh, rs, rh, hs⟩ => by
  have hs : satG X.mg X.K (Ex W σ) m H (RV X.K) (match p[i]? with
    | some (some v) => .ok v hh
    | _ => .bad) Q := hs
  split at hs
  · rename_i v e
    obtain ⟨u, e1, r⟩ := rs.at_ i v e
    exact ⟨u, e1, now rh hs r⟩
  · exact hs.elim
theorem e_lit {e : Expr} {x : PyData} {v : V} (h : PE X e (tC v)) (hr : ∀ m H, Rp m H v x) : PE X e (tE X W (den cf k (.lit x)).e) := h.imp fun σ H Q ⟨m, p, hh, rs, rh, hs⟩ => now rh hs (.d (hr m H))
theorem e_bin (o : BO) (ha : PE X a (tE X W A.e)) (hb : PE X b (tE X W B.e)) : PE X (.BinOp a o.op b pos) (tE X W (two A B (binop o)).e) := (pe_op (op_bin_iw o) ha hb).imp fun _ _ _ => t_two
theorem un_neg_iw : UnR X (unaryOp .USub) (Iw.r1 X negv) := by
  intro pins s σ H x v Q I rx ⟨E, m, hh, p, rh, ra, hs⟩
  rcases p with (_|_|i|_|_|_|_) | _ | _ <;> first | exact hs.elim | skip
  cases rv_int ra
  exact un_neg pins s σ H _ v Q I rx ⟨i, rfl, now rh hs (.d (.int _))⟩
theorem e_neg (ha : PE X a (tE X W A.e)) : PE X (.UnaryOp .USub a pos) (tE X W (one A negv).e) := (pe_un un_neg_iw ha).imp fun _ _ _ => t_one
theorem e_not (ha : PE X a (tE X W A.e)) : PE X (.UnaryOp .Not a pos) (tE X W (fun σ h => (tOf A.e σ h).bind fun b h2 => .ok (bool (!b)) h2)) := (pe_notT ha).imp fun σ H Q ⟨m, p, hh, rs, rh, hs⟩ => by
  have hs : satG X.mg X.K (Ex W σ) m H (RV X.K) (((A.e p hh).bind fun x h1 => R.of (tru h1 x) h1).bind fun b h2 => .ok (bool (!b)) h2) Q := hs
  rw [R.bind_assoc] at hs
  refine (tE.bind1 rs rh hs).mono fun x H1 ⟨m1, a, h1, _, rs1, rh1, ra, s1⟩ => ?_
  cases e : tru h1 a with
  | none => rw [e] at s1; exact s1.elim
  | some b => rw [e] at s1; exact ⟨b, tru_iw rh1 ra e, now rh1 s1 (.d (.bl _))⟩
theorem e_and {rest : List Expr} (ha : PE X a (tE X W A.e)) (hb : PE X (.BoolOp .And (b :: rest) pos) (tE X W B.e)) : PE X (.BoolOp .And (a :: b :: rest) pos) (tE X W (fun σ h => (A.e σ h).bind fun x h1 => (R.of (tru h1 x) h1).bind fun c h2 => match c with
    | true => B.e σ h2
    | false => .ok x h2)) := (pe_andT ha hb).imp fun σ H Q ⟨m, p, hh, rs, rh, hs⟩ => by
  refine (tE.bind1 rs rh hs).mono fun x H1 ⟨m1, a, h1, _, rs1, rh1, ra, s1⟩ => ?_
  cases e : tru h1 a with
  | none => rw [e] at s1; exact s1.elim
  | some c =>
    rw [e] at s1
    refine ⟨c, tru_iw rh1 ra e, ?_⟩
    cases c with
    | true => exact iteT ⟨m1, p, h1, rs1, rh1, s1⟩
    | false => exact iteF (now rh1 s1 ra)
theorem e_or {rest : List Expr} (ha : PE X a (tE X W A.e)) (hb : PE X (.BoolOp .Or (b :: rest) pos) (tE X W B.e)) : PE X (.BoolOp .Or (a :: b :: rest) pos) (tE X W (fun σ h => (A.e σ h).bind fun x h1 => (R.of (tru h1 x) h1).bind fun c h2 => match c with
    | true => .ok x h2
    | false => B.e σ h2)) := (pe_orT ha hb).imp fun σ H Q ⟨m, p, hh, rs, rh, hs⟩ => by
  refine (tE.bind1 rs rh hs).mono fun x H1 ⟨m1, a, h1, _, rs1, rh1, ra, s1⟩ => ?_
  cases e : tru h1 a with
  | none => rw [e] at s1; exact s1.elim
  | some c =>
    rw [e] at s1
    refine ⟨c, tru_iw rh1 ra e, ?_⟩
    cases c with
    | true => exact iteT (now rh1 s1 ra)
    | false => exact iteF ⟨m1, p, h1, rs1, rh1, s1⟩
theorem e_one {op} (h : PE X a (tE X W A.e)) : PE X (.BoolOp op [a] pos) (tE X W A.e) := pe_one h
theorem e_cmp (hu : X.A.units + 64 < cLine) (ww : X.w = TheW.w) (o : CO) (ha : PE X a (tE X W A.e)) (hb : PE X b (tE X W B.e)) (hm : behindInMarks o.op b = false) : PE X (.Compare a [o.op] [b] pos) (tE X W (two A B fun x y h => R.of ((cmpop o x y h).map Iw.bool) h).e) :=
  (pe_cmpR (op_cmp_iw hu ww o) ha hb hm).imp fun _ _ _ => t_two
theorem satB {mg : Str → Option Value} {K : PySem.W.Frag} {E : Value → Hp → Prop} {m : Mp} {H : Hp} {h : Hs} {o : Option Bool} {Q : Bool → Hp → Prop} (hs : satG mg K E m H same (R.of o h) Q) : satG mg K E m H (RV K) (R.of (o.map Iw.bool) h) (fun x H' => ∃ k, x = .bl k ∧ Q k H') := by
  cases o with
  | none => exact hs
  | some b => exact fun x H' m' e rh r => ⟨b, rv_bool r, hs b H' m' e rh rfl⟩
theorem tOf_cmp (o : CO) (σ : Sg) (h : Hs) : tOf (two A B fun x y h => R.of ((cmpop o x y h).map Iw.bool) h).e σ h = (A.e σ h).bind fun x h1 => (B.e σ h1).bind fun y h2 => R.of (cmpop o x y h2) h2 := by
  show (((A.e σ h).bind fun x h1 => (B.e σ h1).bind fun y h2 => R.of ((cmpop o x y h2).map Iw.bool) h2)).bind _ = _
  rw [R.bind_assoc]
  congr 1
  funext x h1
  rw [R.bind_assoc]
  congr 1
  funext y h2
  cases cmpop o x y h2 <;> rfl
theorem t_cmp (hu : X.A.units + 64 < cLine) (ww : X.w = TheW.w) (o : CO) (ha : PE X a (tE X W A.e)) (hb : PE X b (tE X W B.e)) (hm : behindInMarks o.op b = false) : PT X (.Compare a [o.op] [b] pos) (tT X W (tOf (two A B fun x y h => R.of ((cmpop o x y h).map Iw.bool) h).e)) :=
  (pt_cmpR (op_cmp_iw hu ww o) ha hb hm).imp fun σ H Q ⟨m, p, hh, rs, rh, hs⟩ => by
    rw [tOf_cmp] at hs
    exact (tE.bind1 rs rh hs).mono fun x H1 ⟨m1, a, h1, _, rs1, rh1, ra, s1⟩ => (tE.bind1 rs1 rh1 s1).mono fun y H2 ⟨m2, b, h2, e2, rs2, rh2, rb, s2⟩ => ⟨_, m2, h2, a, b, rh2, ra.evo e2, rb, satB s2⟩
abbrev chainE (o q : CO) (A B C : Dn) : Sg → Hs → R PV := fun σ h => (A.e σ h).bind fun x h1 => (B.e σ h1).bind fun y h2 => (R.of (cmpop o x y h2) h2).bind fun t h3 => match t with
    | true => (C.e σ h3).bind fun z h4 => R.of ((cmpop q y z h4).map Iw.bool) h4
    | false => .ok (Iw.bool false) h3
theorem chain_read (o q : CO) {σ : Sv} {H : Hp} {Q : VK} (h : tE X W (chainE o q A B C) σ H Q) : tChain (Iw.r2 X fun x y h => R.of ((cmpop o x y h).map Iw.bool) h) (Iw.r2 X fun x y h => R.of ((cmpop q x y h).map Iw.bool) h) (tE X W A.e) (tE X W B.e) (tE X W C.e) σ H Q := by
  obtain ⟨m, p, hh, rs, rh, hs⟩ := h
  refine (tE.bind1 rs rh hs).mono fun x H1 ⟨m1, a, h1, _, rs1, rh1, ra, s1⟩ => (tE.bind1 rs1 rh1 s1).mono fun y H2 ⟨m2, b, h2, e2, rs2, rh2, rb, s2⟩ => ⟨Ex W σ, m2, h2, a, b, rh2, ra.evo e2, rb, ?_⟩
  refine satB ((satG.bind (rel := same) s2).mono fun t H3 ⟨m3, t', h3, e3, rh3, et, s3⟩ => ?_)
  have et : t = t' := et
  subst et
  have rs3 := rs2.evo e3
  cases t with
  | false => exact iteF (now rh3 s3 (.d (.bl _)))
  | true =>
    refine iteT ?_
    exact (tE.bind1 rs3 rh3 s3).mono fun z H4 ⟨m4, c, h4, e4, rs4, rh4, rc, s4⟩ => ⟨Ex W σ, m4, h4, b, c, rh4, (rb.evo e3).evo e4, rc, s4⟩
theorem e_chain (hu : X.A.units + 64 < cLine) (ww : X.w = TheW.w) (o q : CO) (ha : PE X a (tE X W A.e)) (hb : PE X b (tE X W B.e)) (hc : PE X c (tE X W C.e)) (hm : lastMarks [o.op, q.op] [b, c] = false) : PE X (.Compare a [o.op, q.op] [b, c] pos) (tE X W (chainE o q A B C)) :=
  (pe_chain (op_cmp_iw hu ww o) (op_cmp_iw hu ww q) ha hb hc hm).imp fun _ _ _ => chain_read o q
theorem tT_E {F : Sg → Hs → R PV} {σ : Sv} {H : Hp} {Q : Bool → Hp → Prop} (hb : ∀ σ h, (∃ b h', F σ h = .ok (Iw.bool b) h') ∨ (∀ v h', F σ h ≠ .ok v h')) (h : tT X W (tOf F) σ H Q) : tE X W F σ H (fun x H' => ∃ k, x = .bl k ∧ Q k H') := by
  obtain ⟨m, p, hh, rs, rh, hs⟩ := h
  refine ⟨m, p, hh, rs, rh, ?_⟩
  have hs : satG X.mg X.K (Ex W σ) m H same ((F p hh).bind fun x h1 => R.of (tru h1 x) h1) Q := hs
  rcases hb p hh with ⟨b, h', e⟩ | e
  · rw [e] at hs ⊢
    exact fun x H' m' ev rh' r => ⟨b, rv_bool r, hs b H' m' ev rh' rfl⟩
  · cases e2 : F p hh with
    | ok v h' => exact absurd e2 (e v h')
    | exc c h' => rw [e2] at hs; exact hs
    | bad => rw [e2] at hs; exact hs
theorem t_chain (hu : X.A.units + 64 < cLine) (ww : X.w = TheW.w) (o q : CO) (ha : PE X a (tE X W A.e)) (hb : PE X b (tE X W B.e)) (hc : PE X c (tE X W C.e)) (hm : lastMarks [o.op, q.op] [b, c] = false) : PT X (.Compare a [o.op, q.op] [b, c] pos) (tT X W (tOf (chainE o q A B C))) :=
  (pt_chain (op_cmp_iw hu ww o) (op_cmp_iw hu ww q) ha hb hc hm).imp fun σ H Q h => chain_read o q (tT_E (fun σ h => by
    unfold chainE
    cases A.e σ h with
    | ok x h1 =>
      dsimp only [R.bind]
      cases B.e σ h1 with
      | ok y h2 =>
        dsimp only [R.bind]
        cases cmpop o x y h2 with
        | none => exact .inr fun _ _ z => nomatch z
        | some t =>
          cases t with
          | false => exact .inl ⟨false, h2, rfl⟩
          | true =>
            dsimp only [R.of, R.bind]
            cases C.e σ h2 with
            | ok z h4 =>
              dsimp only [R.bind]
              cases cmpop q y z h4 with
              | none => exact .inr fun _ _ z => nomatch z
              | some t => exact .inl ⟨t, h4, rfl⟩
            | exc _ _ => exact .inr fun _ _ z => nomatch z
            | bad => exact .inr fun _ _ z => nomatch z
      | exc _ _ => exact .inr fun _ _ z => nomatch z
      | bad => exact .inr fun _ _ z => nomatch z
    | exc _ _ => exact .inr fun _ _ z => nomatch z
    | bad => exact .inr fun _ _ z => nomatch z) h)
end
end Iw
end

section
set_option Elab.async false
set_option linter.all false
set_option maxRecDepth 100000
namespace Iw
open PySem PySem.Spec PyProof.Rows L2
variable [TheW]
section
variable {X : Cx} {W : WX} {a b c : Expr} {es : List Expr} {A B C : Dn} {pos : Pos}
theorem isNon_eq {K : PySem.W.Frag} {m : Mp} {H : Hp} {v : V} {p : PV} (r : RV K m H v p) : isNonV p = decide (v = .non) := by
  cases r with
  | d r => cases r <;> rfl
  | ref _ => rfl
  | scr _ => rfl
  | pr _ _ => rfl
theorem e_isNon {j} {p2 : Pos} (ha : PE X a (tE X W A.e)) : PE X (.Compare a [.Is] [.Constant .none j p2] pos) (tE X W (one A fun x h => .ok (Iw.bool (isNonV x)) h).e) :=
  (pe_cmp (pc_isN ha)).imp fun σ H Q ⟨m, p, hh, rs, rh, hs⟩ => (tE.bind1 rs rh hs).mono fun x H1 ⟨m1, a, h1, _, rs1, rh1, ra, s1⟩ => by
    rw [← isNon_eq ra]; exact now rh1 s1 (.d (.bl _))
theorem e_notNon {j} {p2 : Pos} (ha : PE X a (tE X W A.e)) : PE X (.Compare a [.IsNot] [.Constant .none j p2] pos) (tE X W (one A fun x h => .ok (Iw.bool (!isNonV x)) h).e) :=
  (pe_cmp (pc_notN ha)).imp fun σ H Q ⟨m, p, hh, rs, rh, hs⟩ => (tE.bind1 rs rh hs).mono fun x H1 ⟨m1, a, h1, _, rs1, rh1, ra, s1⟩ => by
    rw [← isNon_eq ra]; exact now rh1 s1 (.d (.bl _))
theorem one_bool {f : PV → Bool} {σ : Sv} {H : Hp} {Q : Bool → Hp → Prop} (h : tT X W (tOf (one A fun x h => .ok (Iw.bool (f x)) h).e) σ H Q) : tE X W A.e σ H fun x H1 => ∃ (m1 : Mp) (p1 : PV), RV X.K m1 H1 x p1 ∧ Q (f p1) H1 := by
  obtain ⟨m, p, hh, rs, rh, hs⟩ := h
  have hs : satG X.mg X.K (Ex W σ) m H same (((A.e p hh).bind fun x h1 => .ok (Iw.bool (f x)) h1).bind fun x h1 => R.of (tru h1 x) h1) Q := hs
  rw [R.bind_assoc] at hs
  exact (tE.bind1 rs rh hs).mono fun x H1 ⟨m1, a, h1, _, rs1, rh1, ra, s1⟩ => ⟨m1, a, ra, now rh1 s1 rfl⟩
theorem t_isNon {j} {p2 : Pos} (ha : PE X a (tE X W A.e)) : PT X (.Compare a [.Is] [.Constant .none j p2] pos) (tT X W (tOf (one A fun x h => .ok (Iw.bool (isNonV x)) h).e)) :=
  (pt_cmp (pc_isN ha)).imp fun σ H Q h => (one_bool h).mono fun x H1 ⟨m1, p1, r, q⟩ => ⟨_, rfl, by rw [← isNon_eq r]; exact q⟩
theorem t_notNon {j} {p2 : Pos} (ha : PE X a (tE X W A.e)) : PT X (.Compare a [.IsNot] [.Constant .none j p2] pos) (tT X W (tOf (one A fun x h => .ok (Iw.bool (!isNonV x)) h).e)) :=
  (pt_cmp (pc_notN ha)).imp fun σ H Q h => (one_bool (f := fun x => !isNonV x) h).mono fun x H1 ⟨m1, p1, r, q⟩ => ⟨_, rfl, by rw [← isNon_eq r]; exact q⟩
/-! ### tests -/
theorem t_plain (ha : PE X a (tE X W A.e)) (he : ∀ whole, isTrue a X.env whole = (do let v ← whole; standAt a.pos; holding [v] (truthy v))) : PT X a (tT X W (tOf A.e)) :=
  (pt_truth ha he).imp fun σ H Q ⟨m, p, hh, rs, rh, hs⟩ => by
    have hs : satG X.mg X.K (Ex W σ) m H same ((A.e p hh).bind fun x h1 => R.of (tru h1 x) h1) Q := hs
    refine (tE.bind1 rs rh hs).mono fun x H1 ⟨m1, a, h1, _, rs1, rh1, ra, s1⟩ => ?_
    obtain ⟨b, e, s2⟩ := satG_of s1
    exact ⟨b, tru_iw rh1 ra e, now rh1 s2 rfl⟩
theorem tOf_not (σ : Sg) (h : Hs) : tOf (fun σ h => (tOf A.e σ h).bind fun b h2 => .ok (Iw.bool (!b)) h2) σ h = (tOf A.e σ h).bind fun b h1 => .ok (!b) h1 := by
  show ((tOf A.e σ h).bind _).bind _ = _
  rw [R.bind_assoc]; rfl
theorem t_not (ha : PT X a (tT X W (tOf A.e))) : PT X (.UnaryOp .Not a pos) (tT X W (tOf fun σ h => (tOf A.e σ h).bind fun b h2 => .ok (Iw.bool (!b)) h2)) :=
  (pt_not ha).imp fun σ H Q ⟨m, p, hh, rs, rh, hs⟩ => by
    rw [tOf_not] at hs
    exact (tT.bind1 rs rh hs).mono fun x H1 ⟨m1, h1, _, rs1, rh1, s1⟩ => now rh1 s1 rfl
abbrev andE (A B : Dn) : Sg → Hs → R PV := fun σ h => (A.e σ h).bind fun x h1 => (R.of (tru h1 x) h1).bind fun c h2 => match c with
    | true => B.e σ h2
    | false => .ok x h2
abbrev orE (A B : Dn) : Sg → Hs → R PV := fun σ h => (A.e σ h).bind fun x h1 => (R.of (tru h1 x) h1).bind fun c h2 => match c with
    | true => .ok x h2
    | false => B.e σ h2
theorem tOf_and (σ : Sg) (h : Hs) : tOf (andE A B) σ h = (tOf A.e σ h).bind fun c h1 => match c with
    | true => tOf B.e σ h1
    | false => .ok false h1 := by
  unfold tOf andE
  cases A.e σ h with
  | ok x h1 =>
    dsimp only [R.bind]
    cases e : tru h1 x with
    | none => rfl
    | some c =>
      cases c with
      | true => rfl
      | false => show R.of (tru h1 x) h1 = _; rw [e]; rfl
  | exc _ _ => rfl
  | bad => rfl
theorem tOf_or (σ : Sg) (h : Hs) : tOf (orE A B) σ h = (tOf A.e σ h).bind fun c h1 => match c with
    | true => .ok true h1
    | false => tOf B.e σ h1 := by
  unfold tOf orE
  cases A.e σ h with
  | ok x h1 =>
    dsimp only [R.bind]
    cases e : tru h1 x with
    | none => rfl
    | some c =>
      cases c with
      | false => rfl
      | true => show R.of (tru h1 x) h1 = _; rw [e]; rfl
  | exc _ _ => rfl
  | bad => rfl
theorem w_one {op} (h : PT X a (tT X W (tOf A.e))) : PW X (.BoolOp op [a] pos) (tT X W (tOf A.e)) := by
  cases op with
  | And => exact pw_and1 h
  | Or => exact pw_or1 h
theorem w_and (ha : PT X a (tT X W (tOf A.e))) (hb : PW X (.BoolOp .And (b :: es) pos) (tT X W (tOf B.e))) : PW X (.BoolOp .And (a :: b :: es) pos) (tT X W (tOf (andE A B))) :=
  (pw_and ha hb).imp fun σ H Q ⟨m, p, hh, rs, rh, hs⟩ => by
    rw [tOf_and] at hs
    refine (tT.bind1 rs rh hs).mono fun x H1 ⟨m1, h1, _, rs1, rh1, s1⟩ => ?_
    cases x with
    | true => exact iteT ⟨m1, p, h1, rs1, rh1, s1⟩
    | false => exact iteF (now rh1 s1 rfl)
theorem w_or (ha : PT X a (tT X W (tOf A.e))) (hb : PW X (.BoolOp .Or (b :: es) pos) (tT X W (tOf B.e))) : PW X (.BoolOp .Or (a :: b :: es) pos) (tT X W (tOf (orE A B))) :=
  (pw_or ha hb).imp fun σ H Q ⟨m, p, hh, rs, rh, hs⟩ => by
    rw [tOf_or] at hs
    refine (tT.bind1 rs rh hs).mono fun x H1 ⟨m1, h1, _, rs1, rh1, s1⟩ => ?_
    cases x with
    | false => exact iteF ⟨m1, p, h1, rs1, rh1, s1⟩
    | true => exact iteT (now rh1 s1 rfl)
abbrev iteE (C A B : Dn) : Sg → Hs → R PV := fun σ h => (tOf C.e σ h).bind fun t h1 => match t with
    | true => A.e σ h1
    | false => B.e σ h1
theorem e_ite (hc : PT X c (tT X W (tOf C.e))) (ha : PE X a (tE X W A.e)) (hb : PE X b (tE X W B.e)) : PE X (.IfExp c a b pos) (tE X W (iteE C A B)) :=
  (pe_ifExp hc ha hb).imp fun σ H Q ⟨m, p, hh, rs, rh, hs⟩ => (tT.bind1 rs rh hs).mono fun x H1 ⟨m1, h1, _, rs1, rh1, s1⟩ => by
    cases x with
    | true => exact iteT ⟨m1, p, h1, rs1, rh1, s1⟩
    | false => exact iteF ⟨m1, p, h1, rs1, rh1, s1⟩
/-! ### argument lists, displays -/
theorem a_nil (cf : Str → List PV → Hs → R PV) (k : Nat) : PA X [] (tA X W (den cf k .nil).a) := pa_nil.imp fun σ H Q ⟨m, p, hh, rs, rh, hs⟩ => now rh hs .nil
abbrev consA (A B : Dn) : Sg → Hs → R (List PV) := fun σ h => (A.e σ h).bind fun x h1 => (B.a σ h1).bind fun xs h2 => .ok (x :: xs) h2
theorem a_cons (ha : PE X a (tE X W A.e)) (hb : PA X es (tA X W B.a)) (hs : starEach (a :: es) X.env = (false, eval a X.env) :: starEach es X.env) : PA X (a :: es) (tA X W (consA A B)) :=
  (pa_cons ha hb hs).imp fun σ H Q ⟨m, p, hh, rs, rh, hs⟩ => (tE.bind1 rs rh hs).mono fun x H1 ⟨m1, a, h1, _, rs1, rh1, ra, s1⟩ => (tA.bind1 rs1 rh1 s1).mono fun y H2 ⟨m2, b, h2, e2, rs2, rh2, rb, s2⟩ => now rh2 s2 (.cons (ra.evo e2) rb)
theorem e_tup {x1} (ha : PA X es (tA X W A.a)) : PE X (.Tuple es x1 pos) (tE X W (args A tupOf).e) :=
  (pe_tup ha).imp fun σ H Q ⟨m, p, hh, rs, rh, hs⟩ => (tA.bind1 rs rh hs).mono fun x H1 ⟨m1, a, h1, _, rs1, rh1, ra, s1⟩ => by
    have s1 : satG X.mg X.K (Ex W σ) m1 H1 (RV X.K) (match datas a with
      | some ds => if ds.length ≤ line then .ok (.d (.tuple ds)) h1 else .bad
      | none => .bad) Q := s1
    cases e : datas a with
    | none => rw [e] at s1; exact s1.elim
    | some ds =>
      rw [e] at s1
      obtain ⟨hl, s2⟩ := satG_if s1
      exact ⟨by rw [ra.len, ← datas_len e, ← line_eq]; exact hl, fun p hp => newTup rh1 s2 (ra.rpa e) hp⟩
theorem e_lst (mt : Bool) (ha : PA X es (tA X W A.a)) : PE X (.List es pos) (tE X W (args A (lstOf mt)).e) :=
  (pe_lst ha).imp fun σ H Q ⟨m, p, hh, rs, rh, hs⟩ => (tA.bind1 rs rh hs).mono fun x H1 ⟨m1, a, h1, _, rs1, rh1, ra, s1⟩ => by
    obtain ⟨hl, s2⟩ := satG_if (show satG X.mg X.K (Ex W σ) m1 H1 (RV X.K) (if a.length ≤ line then mkL mt a h1 else .bad) Q from s1)
    exact ⟨by rw [ra.len, ← line_eq]; exact hl, fun p hp => newMk rh1 s2 ra hp⟩
/-! ### calls of built-ins -/
theorem e_bif {x : Str} {p : Pos} {e : Expr} (i : Bi) {id : String} (hi : i.val = .builtin id) (hc : X.calm = true) (hg : X.A.guards = some []) (hu : X.A.units + 64 < cLine) (ww : X.w = TheW.w) (gl : Gl X x) (hm : X.mg x = none) (hv : bootBuiltins x = some (.builtin id)) (ha : PA X (e :: es) (tA X W A.a)) (hn : x ≠ "__name__") (hdb : (x == ("__debug__" : Str)) = false)
    (he : starEach (e :: es) X.env = (false, eval e X.env) :: starEach es X.env) (hpl : (backTo pos (starEach es X.env)).any (·.1) = false) : PE X (.Call (.Name x p) (e :: es) [] pos) (tE X W (args A (biop i)).e) := by
  have r := call_bi hc hg hu ww i
  rw [hi] at r
  exact (pe_callB r gl hm hv ha hn hdb he hpl).imp fun _ _ _ => t_args
theorem e_bit {x : Str} {p : Pos} {e : Expr} (i : Bi) {id : String} (hi : i.val = .type id) (hc : X.calm = true) (hg : X.A.guards = some []) (hu : X.A.units + 64 < cLine) (ww : X.w = TheW.w) (gl : Gl X x) (hm : X.mg x = none) (hv : bootBuiltins x = some (.type id)) (ha : PA X (e :: es) (tA X W A.a)) (hn : x ≠ "__name__") (hdb : (x == ("__debug__" : Str)) = false)
    (he : starEach (e :: es) X.env = (false, eval e X.env) :: starEach es X.env) (hpl : (backTo pos (starEach es X.env)).any (·.1) = false) : PE X (.Call (.Name x p) (e :: es) [] pos) (tE X W (args A (biop i)).e) := by
  have r := call_bi hc hg hu ww i
  rw [hi] at r
  exact (pe_callTy r gl hm hv ha hn hdb he hpl).imp fun _ _ _ => t_args
/-! ### isinstance -/
def tyName : PyData → Option String
  | .none => some "NoneType"
  | .bool _ => some "bool"
  | .int _ => some "int"
  | .str _ => some "str"
  | .list _ => some "list"
  | .tuple _ => some "tuple"
  | .dict _ => none
theorem ty_at {K : PySem.W.Frag} {m : Mp} {H : Hp} {v : V} {x : PyData} (r : Rp m H v x) : ∃ t, tyName x = some t ∧ TyX K H v (.type t) := by
  cases r with
  | non => exact ⟨_, rfl, .base .non⟩
  | bl b => exact ⟨_, rfl, .base (.bl b)⟩
  | int i => exact ⟨_, rfl, .base (.int i)⟩
  | str x => exact ⟨_, rfl, .base (.str x)⟩
  | lst e _ _ => exact ⟨_, rfl, .base (.lst e)⟩
  | tup e _ _ => exact ⟨_, rfl, .base (.tup e)⟩
theorem isi_kit {h : Hs} {x : PyData} {T : String} {b : Bool} {t : String} (e : isiT h T (.d x) = some b) (ht : tyName x = some t) : kitB t T = some b := by
  unfold isiT at e
  dsimp only at e
  split at e <;> cases e <;> cases x <;> cases ht <;> first | (show kitB _ _ = some true; decide +kernel) | (show kitB _ _ = some false; decide +kernel)
theorem e_isi {x y : Str} {p p2 : Pos} {T : String} (gl : Gl X x) (hm : X.mg x = none) (hv : bootBuiltins x = some (.builtin "isinstance")) (hn : x ≠ "__name__") (hdb : (x == ("__debug__" : Str)) = false)
    (gly : Gl X y) (hmy : X.mg y = none) (hvy : bootBuiltins y = some (.type T)) (hny : y ≠ "__name__") (hdby : (y == ("__debug__" : Str)) = false) (ha : PE X a (tE X W A.e))
    (hs : starEach [a, .Name y p2] X.env = (false, eval a X.env) :: starEach [.Name y p2] X.env) : PE X (.Call (.Name x p) [a, .Name y p2] [] pos) (tE X W (one A fun x h => R.of ((isiT h T x).map Iw.bool) h).e) :=
  (pe_callB call_isi gl hm hv (pa_cons ha (pa_cons (pe_bltn (v := .ty T) gly hmy hvy rfl hny hdby) pa_nil (by rfl)) hs) hn hdb hs (by rfl)).imp fun σ H Q ⟨m, p, hh, rs, rh, hs⟩ =>
    (tE.bind1 rs rh hs).mono fun x H1 ⟨m1, a, h1, _, rs1, rh1, ra, s1⟩ => by
      cases a with
      | d dx =>
        obtain ⟨z, e, s2⟩ := satG_of s1
        obtain ⟨b, e1, rfl⟩ := Option.map_eq_some_iff.mp e
        obtain ⟨t, e2, ty⟩ := ty_at (K := X.K) (rv_d ra)
        exact ⟨x, .ty T, .type t, .type T, b, rfl, .ty T, ty, kit_ty (isi_kit e1 e2), now rh1 s2 (.d (.bl _))⟩
      | _ => exact s1.elim
/-! ### items, slices -/
theorem e_ix (hu : X.A.units + 64 < cLine) (ww : X.w = TheW.w) (ha : PE X a (tE X W A.e)) (hb : PE X b (tE X W B.e)) (hs : PlainIx b) : PE X (.Subscript a b pos) (tE X W (two A B ixv).e) := (pe_ix (ix_iw hu ww) ha hb hs).imp fun _ _ _ => t_two
theorem o_nop (cf : Str → List PV → Hs → R PV) (k : Nat) : PO X none (tO X W (den cf k .nop).o) := po_none.imp fun σ H Q ⟨m, p, hh, rs, rh, hs⟩ => now rh hs rfl
theorem o_some (ha : PE X a (tE X W A.e)) : PO X (some a) (tO X W (oOf A.e)) := (po_some ha).imp fun σ H Q ⟨m, p, hh, rs, rh, hs⟩ => (tE.bind1 rs rh hs).mono fun x H1 ⟨m1, a, h1, _, rs1, rh1, ra, s1⟩ => by
  rcases a with (_|_|i|_|_|_|_) | _ | _ <;> first | exact s1.elim | skip
  exact ⟨i, rv_int ra, now rh1 s1 rfl⟩
abbrev sliceE (A : Dn) (L U : Sg → Hs → R (Option Int)) : Sg → Hs → R PV := fun σ h => (A.e σ h).bind fun x h1 => (L σ h1).bind fun l h2 => (U σ h2).bind fun u h3 => slice x l u h3
theorem e_sl {lo hi : Option Expr} {L U : Sg → Hs → R (Option Int)} {p2 : Pos} (ha : PE X a (tE X W A.e)) (hl : PO X lo (tO X W L)) (hu : PO X hi (tO X W U)) : PE X (.Subscript a (.Slice lo hi none p2) pos) (tE X W (sliceE A L U)) :=
  (pe_slice sl_iw ha hl hu).imp fun σ H Q ⟨m, p, hh, rs, rh, hs⟩ => (tE.bind1 rs rh hs).mono fun x H1 ⟨m1, a, h1, _, rs1, rh1, ra, s1⟩ => (tO.bind1 rs1 rh1 s1).mono fun l H2 ⟨m2, h2, e2, rs2, rh2, s2⟩ => (tO.bind1 rs2 rh2 s2).mono fun u H3 ⟨m3, h3, e3, rs3, rh3, s3⟩ =>
    ⟨_, m3, h3, a, rh3, (ra.evo e2).evo e3, s3⟩
end
end Iw
end

section
set_option Elab.async false
set_option linter.all false
set_option maxRecDepth 100000
/-! list(zip(a, b)) of two tuples: each tuple that is given out is kept -/
namespace Iw
open PySem PySem.Spec PyProof.Rows L2
variable [TheW]
open Sem (wp)
section
variable {prog : Program} {w : World} {A : Around} {E : Value → Shared → Prop} {s : Shared}
theorem zipT_item_held {z TI TO T i1 i2 a b : Addr} {f : Bool} {oT : Obj} {j : Nat} {xs ys : Array Value} {x y : Value} {Q : Option Value → Shared → Prop} (D : ZipApart z TI TO i1 i2 a b)
    (hz : IsZipHeld s.heap z TI TO T f) (hT : s.heap.get? T = some oT) (hTI : IsPair s.heap TI (.ref i1) (.ref i2))
    (h1 : s.heap.IsTupleIter i1 a j) (h2 : s.heap.IsTupleIter i2 b j) (ha : s.heap.IsTuple a xs) (hb : s.heap.IsTuple b ys) (hx : xs[j]? = some x) (hy : ys[j]? = some y)
    (hQ : ∀ h', IsZipHeld h' z TI TO T true → h'.IsTupleIter i1 a (j + 1) → h'.IsTupleIter i2 b (j + 1) → IsPair h' s.heap.objs.size x y → h'.objs.size = s.heap.objs.size + 1 →
      (∀ c o, c ≠ z → c ≠ i1 → c ≠ i2 → s.heap.get? c = some o → h'.get? c = some o) → Q (some (.ref s.heap.objs.size)) { s with heap := h' }) :
    wpAny (model prog w) A (pyNext (.ref z)) Q E s := by
  have ty : s.TypeIs (.ref z) "zip" := ⟨_, hz, rfl⟩
  have core : ∀ {A : Around} {E : Value → Shared → Prop}, wpAny (model prog w) A (Builtin.«zip.__next__» ⟨[.ref z], []⟩) (fun fin s' => ∃ v, fin = .done (.ret v) ∧ Q (some v) s') E s := by
    intro A E
    show wpAny _ _ (field (.ref z) 2 >>= _) _ _ _
    refine wpAny_bind (wpAny_field hz rfl (x := .bool false) rfl ?_)
    show wpAny _ _ (field (.ref z) 3 >>= _) _ _ _
    refine wpAny_bind (wpAny_field hz rfl (x := .ref TI) rfl (wpAny_bind (wpAny_seqItems hTI rfl ?_)))
    show wpAny _ _ (Builtin.SmallTypes.ownedTupleIsFree (.ref z) >>= _) _ _ _
    refine wpAny_bind (wpAny_tupleHeld_zip hz hT fun g1 z1 k1 => ?_)
    simp only [Bool.false_eq_true, if_false]
    refine wpAny_bind ?_
    rw [← Array.forIn_toList]
    simp only [List.forIn_cons, List.forIn_nil]
    refine wpAny_bind (wpAny_bind (wpAny_holding ?_))
    show wpAny _ _ (Builtin.SmallTypes.nextOf (.ref i1) >>= _) _ _ _
    refine wpAny_bind (RZ.nextOf_tuple_item (s := { s with heap := g1 }) (h1.extBut k1.extBut D.i1z) (ha.extBut k1.extBut D.l1z) hx fun g2 n1 k2 => wpAny_pure (wpAny_pure ?_))
    refine wpAny_bind (wpAny_bind (wpAny_holding ?_))
    show wpAny _ _ (Builtin.SmallTypes.nextOf (.ref i2) >>= _) _ _ _
    refine wpAny_bind (RZ.nextOf_tuple_item (s := { s with heap := g2 }) ((h2.extBut k1.extBut D.i2z).extBut k2.extBut D.i12.symm) ((hb.extBut k1.extBut D.l2z).extBut k2.extBut D.l2i1) hy fun g3 n2 k3 => wpAny_pure (wpAny_pure (wpAny_pure ?_)))
    show wpAny _ _ (newTuple [x, y] >>= _) _ _ _
    refine wpAny_bind (wpAny_newTuple (wpAny_pure ⟨_, rfl, ?_⟩))
    have sz : g3.objs.size = s.heap.objs.size := by rw [k3.1, k2.1, k1.1]
    have old : ∀ c o, c ≠ z → c ≠ i1 → c ≠ i2 → s.heap.get? c = some o → g3.get? c = some o := fun c o c1 c2 c3 e => k3.extBut _ _ c3 (k2.extBut _ _ c2 (k1.extBut _ _ c1 e))
    have zz : IsZipHeld g3 z TI TO T true := k3.extBut _ _ D.i2z.symm (k2.extBut _ _ D.i1z.symm z1)
    have up : ∀ c o, g3.get? c = some o → (g3.push { cls := .type "tuple", data := .seq #[x, y] }).get? c = some o := fun c o e => Heap.get?_push_of_some _ e
    have pr : IsPair (g3.push { cls := .type "tuple", data := .seq #[x, y] }) g3.objs.size x y := Heap.get?_push_size _ rfl
    have fin := hQ (g3.push { cls := .type "tuple", data := .seq #[x, y] }) (up _ _ zz) ((n1.extBut k3.extBut D.i12).at fun o e => up _ o e) (n2.at fun o e => up _ o e) (by rw [← sz]; exact pr) (by rw [Heap.size_push, sz])
      fun c o c1 c2 c3 e => up _ _ (old c o c1 c2 c3 e)
    rw [← sz] at fin
    exact fin
  unfold pyNext
  refine wpAny_bind (wpAny_attempt (wpAny_callSpecial?_slot (name := Str.ofString "__next__") ty F.slot_zip_next (wpAny_call_entry F.slot_zip_next ty F.entry_zip_next ?_ (F.args_zip_next_1 _))))
  refine wpAny_mono core (fun fin s' ⟨v, e, q⟩ => ⟨v, e, ?_⟩) fun _ _ q => q
  exact wpAny_pure q
theorem zipT_end_held {z TI TO T i1 i2 a b : Addr} {f : Bool} {oT : Obj} {j : Nat} {xs ys : Array Value} {Q : Option Value → Shared → Prop} (hh : A.handled = none) (D : ZipApart z TI TO i1 i2 a b)
    (hz : IsZipHeld s.heap z TI TO T f) (hT : s.heap.get? T = some oT) (hTI : IsPair s.heap TI (.ref i1) (.ref i2))
    (h1 : s.heap.IsTupleIter i1 a j) (h2 : s.heap.IsTupleIter i2 b j) (ha : s.heap.IsTuple a xs) (hb : s.heap.IsTuple b ys) (hend : xs[j]? = none ∨ ys[j]? = none)
    (hQ : ∀ h', (∀ c o, c ≠ z → c ≠ i1 → c ≠ i2 → s.heap.get? c = some o → h'.get? c = some o) → Q none { s with heap := h' }) :
    wpAny (model prog w) A (pyNext (.ref z)) Q E s := by
  have ty : s.TypeIs (.ref z) "zip" := ⟨_, hz, rfl⟩
  have core : ∀ {A : Around} {R : Fin → Shared → Prop} {E : Value → Shared → Prop}, A.handled = none → (∀ h' e, (∀ c o, c ≠ z → c ≠ i1 → c ≠ i2 → s.heap.get? c = some o → h'.get? c = some o) → (∃ o, h'.get? e = some o ∧ o.cls = .type "StopIteration") → E (.ref e) { s with heap := h' }) →
      wpAny (model prog w) A (Builtin.«zip.__next__» ⟨[.ref z], []⟩) R E s := by
    intro A R E hh hE
    show wpAny _ _ (field (.ref z) 2 >>= _) _ _ _
    refine wpAny_bind (wpAny_field hz rfl (x := .bool false) rfl ?_)
    show wpAny _ _ (field (.ref z) 3 >>= _) _ _ _
    refine wpAny_bind (wpAny_field hz rfl (x := .ref TI) rfl (wpAny_bind (wpAny_seqItems hTI rfl ?_)))
    show wpAny _ _ (Builtin.SmallTypes.ownedTupleIsFree (.ref z) >>= _) _ _ _
    refine wpAny_bind (wpAny_tupleHeld_zip hz hT fun g1 z1 k1 => ?_)
    simp only [Bool.false_eq_true, if_false]
    refine wpAny_bind ?_
    rw [← Array.forIn_toList]
    simp only [List.forIn_cons, List.forIn_nil]
    refine wpAny_bind (wpAny_bind (wpAny_holding ?_))
    show wpAny _ _ (Builtin.SmallTypes.nextOf (.ref i1) >>= _) _ _ _
    have a1 := h1.extBut k1.extBut D.i1z
    have a2 := ha.extBut k1.extBut D.l1z
    cases hx : xs[j]? with
    | none => exact wpAny_bind (RZ.nextOf_tuple_end (s := { s with heap := g1 }) hh a1 a2 hx fun g2 e k2 he => hE g2 e (fun c o c1 c2 _ x => k2 _ _ c2 (k1.extBut _ _ c1 x)) he)
    | some x =>
      have hy : ys[j]? = none := by
        rcases hend with q | q
        · rw [hx] at q; cases q
        · exact q
      refine wpAny_bind (RZ.nextOf_tuple_item (s := { s with heap := g1 }) a1 a2 hx fun g2 n1 k2 => wpAny_pure (wpAny_pure ?_))
      refine wpAny_bind (wpAny_bind (wpAny_holding ?_))
      show wpAny _ _ (Builtin.SmallTypes.nextOf (.ref i2) >>= _) _ _ _
      exact wpAny_bind (RZ.nextOf_tuple_end (s := { s with heap := g2 }) hh ((h2.extBut k1.extBut D.i2z).extBut k2.extBut D.i12.symm) ((hb.extBut k1.extBut D.l2z).extBut k2.extBut D.l2i1) hy fun g3 e k3 he =>
        hE g3 e (fun c o c1 c2 c3 x => k3 _ _ c3 (k2.extBut _ _ c2 (k1.extBut _ _ c1 x))) he)
  unfold pyNext
  refine wpAny_bind (wpAny_attempt (wpAny_callSpecial?_slot (name := Str.ofString "__next__") ty F.slot_zip_next (wpAny_call_entry F.slot_zip_next ty F.entry_zip_next ?_ (F.args_zip_next_1 _))))
  refine core hh fun h' e hk he => ?_
  obtain ⟨o, ho, hc⟩ := he
  exact wpAny_bind (wpAny_isInstance (T := "StopIteration") (b := true) ⟨o, ho, hc⟩ isSubtype_stop (wpAny_pure (hQ _ hk)))
/-- a zip of two tuples behind j turns, S no part of it -/
def ZS (h : Heap) (z TI TO i1 i2 a b S : Addr) (j : Nat) : Prop :=
  IsPair h TI (.ref i1) (.ref i2) ∧ h.IsTupleIter i1 a j ∧ h.IsTupleIter i2 b j ∧
    ((IsZip h z TI TO .none ∧ ∃ u v, IsPair h TO u v) ∨ ∃ T f oT, IsZipHeld h z TI TO T f ∧ h.get? T = some oT ∧ T ≠ z ∧ T ≠ i1 ∧ T ≠ i2 ∧ T ≠ S)
variable {z TI TO i1 i2 a b S : Addr} {j : Nat}
theorem ZS.frame {h h' : Heap} (q : ZS h z TI TO i1 i2 a b S j) (hS : S ≠ z ∧ S ≠ TI ∧ S ≠ TO ∧ S ≠ i1 ∧ S ≠ i2) (k : ∀ c o, c ≠ S → h.get? c = some o → h'.get? c = some o) : ZS h' z TI TO i1 i2 a b S j := by
  obtain ⟨s1, s2, s3, s4, s5⟩ := hS
  obtain ⟨q1, q2, q3, q4⟩ := q
  refine ⟨k _ _ s2.symm q1, q2.at fun o e => k _ o s4.symm e, q3.at fun o e => k _ o s5.symm e, ?_⟩
  rcases q4 with ⟨q4, u, v, q5⟩ | ⟨T, f, oT, q4, q5, r1, r2, r3, r4⟩
  · exact .inl ⟨k _ _ s1.symm q4, u, v, k _ _ s3.symm q5⟩
  · exact .inr ⟨T, f, oT, k _ _ s1.symm q4, k _ _ r4 q5, r1, r2, r3, r4⟩
theorem zs_item {xs ys : Array Value} {x y : Value} {Q : Option Value → Shared → Prop} (D : ZipApart z TI TO i1 i2 a b) (zs : ZS s.heap z TI TO i1 i2 a b S j) (hS : S < s.heap.objs.size)
    (ha : s.heap.IsTuple a xs) (hb : s.heap.IsTuple b ys) (hx : xs[j]? = some x) (hy : ys[j]? = some y)
    (hQ : ∀ h', ZS h' z TI TO i1 i2 a b S (j + 1) → IsPair h' s.heap.objs.size x y → h'.objs.size = s.heap.objs.size + 1 → (∀ c o, c ∉ [z, TO, i1, i2] → s.heap.get? c = some o → h'.get? c = some o) → Q (some (.ref s.heap.objs.size)) { s with heap := h' }) :
    wpAny (model prog w) A (pyNext (.ref z)) Q E s := by
  obtain ⟨q1, q2, q3, q4⟩ := zs
  have lt : ∀ {c o}, s.heap.get? c = some o → s.heap.objs.size ≠ c := fun e => Nat.ne_of_gt (Heap.lt_size e)
  have n1 : s.heap.objs.size ≠ i1 := let ⟨_, e, _⟩ := q2; lt e
  have n2 : s.heap.objs.size ≠ i2 := let ⟨_, e, _⟩ := q3; lt e
  rcases q4 with ⟨hz, u, v, hTO⟩ | ⟨T, f, oT, hz, hT, r1, r2, r3, r4⟩
  · refine RZ.pyNext_zipT_item D hz q1 hTO q2 q3 ha hb hx hy fun h' a1 a2 a3 a4 a5 a6 hk => ?_
    exact hQ h' ⟨hk _ _ D.TIz D.TITO D.TIi1 D.TIi2 q1, a3, a4, .inr ⟨_, false, _, a1, a5, lt hz, n1, n2, Nat.ne_of_gt hS⟩⟩ a5 a6 fun c o hc e => hk c o (fun q => hc (by simp [q])) (fun q => hc (by simp [q])) (fun q => hc (by simp [q])) (fun q => hc (by simp [q])) e
  · refine zipT_item_held D hz hT q1 q2 q3 ha hb hx hy fun h' a1 a3 a4 a5 a6 hk => ?_
    exact hQ h' ⟨hk _ _ D.TIz D.TIi1 D.TIi2 q1, a3, a4, .inr ⟨T, true, oT, a1, hk _ _ r1 r2 r3 hT, r1, r2, r3, r4⟩⟩ a5 a6 fun c o hc e => hk c o (fun q => hc (by simp [q])) (fun q => hc (by simp [q])) (fun q => hc (by simp [q])) e
theorem zs_end {xs ys : Array Value} {Q : Option Value → Shared → Prop} (hh : A.handled = none) (D : ZipApart z TI TO i1 i2 a b) (zs : ZS s.heap z TI TO i1 i2 a b S j)
    (ha : s.heap.IsTuple a xs) (hb : s.heap.IsTuple b ys) (hend : xs[j]? = none ∨ ys[j]? = none)
    (hQ : ∀ h', (∀ c o, c ∉ [z, TO, i1, i2] → s.heap.get? c = some o → h'.get? c = some o) → Q none { s with heap := h' }) :
    wpAny (model prog w) A (pyNext (.ref z)) Q E s := by
  obtain ⟨q1, q2, q3, q4⟩ := zs
  rcases q4 with ⟨hz, u, v, hTO⟩ | ⟨T, f, oT, hz, hT, r1, r2, r3, r4⟩
  · exact RZ.pyNext_zipT_end hh D hz q1 hTO q2 q3 ha hb hend fun h' hk => hQ h' fun c o hc e => hk c o (fun q => hc (by simp [q])) (fun q => hc (by simp [q])) (fun q => hc (by simp [q])) (fun q => hc (by simp [q])) e
  · exact zipT_end_held hh D hz hT q1 q2 q3 ha hb hend fun h' hk => hQ h' fun c o hc e => hk c o (fun q => hc (by simp [q])) (fun q => hc (by simp [q])) (fun q => hc (by simp [q])) e
end
/-- the pairs that were laid so far -/
abbrev Laid2 (H : Hp) : List V → List (V × V) → Prop := Paired fun t p => ∃ T, t = V.ref T ∧ H T = some (.tup [p.1, p.2])
abbrev lstO (its : List Value) (c : Nat) : Obj := { cls := .type "list", dict := none, data := .seq its.toArray c, slots := #[] }
theorem Laid2.ext {H H' : Hp} (e : ∀ q o, H q = some o → H' q = some o) : ∀ {ts : List V} {ps : List (V × V)}, Laid2 H ts ps → Laid2 H' ts ps
  | _, _, .nil => .nil
  | _, _, .cons ⟨T, h1, h2⟩ r => .cons ⟨T, h1, e _ _ h2⟩ (Laid2.ext e r)
theorem FpOk.ext {X : Cx} {pins : List (Addr × Obj)} {H H' : Hp} {b : Addr} (f : FpOk X pins H b) (h : H' b = none) : FpOk X pins H' b := ⟨h, f.2⟩
theorem vals_app {xs ys : List V} {us vs : List Value} (a : Vals xs us) (b : Vals ys vs) : Vals (xs ++ ys) (us ++ vs) := by
  induction a with
  | nil => exact b
  | cons r _ ih => exact .cons r ih
theorem zl_loop {X : Cx} {pins : List (Addr × Obj)} {σ : Sv} {A : Around} {R : Result → Shared → Prop} {z TI TO i1 i2 a b S : Addr} {xs ys : List V} (hh : A.handled = none) (D : ZipApart z TI TO i1 i2 a b) (hS : S ≠ z ∧ S ≠ TI ∧ S ≠ TO ∧ S ≠ i1 ∧ S ≠ i2) (res : Value) (hl : (xs.zip ys).length ≤ sizeLine) :
    ∀ (rest dn : List (V × V)) (ts : List V) (s : Shared) (H : Hp) (its : List Value) (c : Nat), xs.zip ys = dn ++ rest → Inv X pins σ H s → H a = some (.tup xs) → H b = some (.tup ys) → ZS s.heap z TI TO i1 i2 a b S dn.length →
      (∀ e ∈ [z, TO, i1, i2, S], FpOk X pins H e ∧ e < s.heap.objs.size) → s.heap.get? S = some (lstO its c) → Vals ts its → Laid2 H ts dn →
      (∀ s' H' ts' its' c', Inv X pins σ H' s' → FpOk X pins H' S → s'.heap.get? S = some (lstO its' c') → Vals ts' its' → Laid2 H' ts' (xs.zip ys) → (∀ q o, H q = some o → H' q = some o) → (∀ T, V.ref T ∈ ts' → V.ref T ∈ ts ∨ H T = none) → R (.ok (.ret res)) s') →
      codeAny (model X.prog X.w) A (.builtin "list.extend.loop" ⟨[.ref S, .ref z, res], []⟩) R s := by
  intro rest
  induction rest with
  | nil =>
    intro dn ts s H its c ez I ha hb zs fp hSo rv ld hR
    rw [List.append_nil] at ez
    obtain ⟨ia, ra, pa, _⟩ := I.tuple (SqT.of ha)
    obtain ⟨ib, rb, pb, _⟩ := I.tuple (SqT.of hb)
    have la := ra.length
    have lb := rb.length
    have lz : (xs.zip ys).length = min xs.length ys.length := List.length_zip
    rw [ez] at lz
    have he : ia.toArray[dn.length]? = none ∨ ib.toArray[dn.length]? = none := by
      rcases Nat.le_total xs.length ys.length with q | q
      · exact .inl (by simp; omega)
      · exact .inr (by simp; omega)
    refine codeAny_builtin F.entry_extend_loop ?_
    rw [Around.under_plainId F.plain_extend_loop _]
    show wpAny _ A.in1 (pyNext (.ref z) >>= _) _ _ s
    refine wpAny_bind (zs_end (A := A.in1) hh D zs pa pb he fun h' hk => wpAny_pure ?_)
    have sub : ∀ e, e ∈ [z, TO, i1, i2] → e ∈ [z, TO, i1, i2, S] := fun e he => List.mem_append_left [S] he
    have I' : Inv X pins σ H { s with heap := h' } := I.turnedL (t' := s.toks) (ch := [z, TO, i1, i2]) hk fun e he => (fp e (sub e he)).1
    have s1 : S ∉ [z, TO, i1, i2] := fun q => by
      simp at q
      rcases q with q | q | q | q
      · exact hS.1 q
      · exact hS.2.2.1 q
      · exact hS.2.2.2.1 q
      · exact hS.2.2.2.2 q
    show R (.ok (.ret res)) { s with heap := h' }
    exact hR _ H ts its c I' (fp S (by simp)).1 (hk S _ s1 hSo) rv (by rw [ez]; exact ld) (fun _ _ q => q) fun _ q => .inl q
  | cons p rest ih =>
    intro dn ts s H its c ez I ha hb zs fp hSo rv ld hR
    obtain ⟨x, y⟩ := p
    obtain ⟨ia, ra, pa, _⟩ := I.tuple (SqT.of ha)
    obtain ⟨ib, rb, pb, _⟩ := I.tuple (SqT.of hb)
    have exy : (xs.zip ys)[dn.length]? = some (x, y) := by rw [ez]; simp
    obtain ⟨ex, ey⟩ := List.getElem?_zip_eq_some.mp exy
    obtain ⟨u, hu, ru⟩ := ra.get ex
    obtain ⟨v, hv, rw'⟩ := rb.get ey
    have hSl := (fp S (by simp)).2
    have dnl : dn.length < (xs.zip ys).length := by rw [ez]; simp
    have rvl := rv.length
    have ldl := ld.length
    refine codeAny_builtin F.entry_extend_loop ?_
    rw [Around.under_plainId F.plain_extend_loop _]
    show wpAny _ A.in1 (pyNext (.ref z) >>= _) _ _ s
    refine wpAny_bind (zs_item (A := A.in1) D zs hSl pa pb (x := u) (y := v) (by simpa using hu) (by simpa using hv) fun h' zs' hT hsz hk => ?_)
    have s1 : S ∉ [z, TO, i1, i2] := fun q => by
      simp at q
      rcases q with q | q | q | q
      · exact hS.1 q
      · exact hS.2.2.1 q
      · exact hS.2.2.2.1 q
      · exact hS.2.2.2.2 q
    have hSo' := hk S _ s1 hSo
    show wpAny _ A.in1 (updateSeq S (·.push (.ref s.heap.objs.size)) >>= _) _ _ _
    refine wpAny_bind ?_
    have fresh : H s.heap.objs.size = none := I.hok.fresh (Nat.le_refl _)
    have upS : ∀ e o, e ≠ S → h'.get? e = some o → (h'.update S (Obj.mapSeq (·.push (.ref s.heap.objs.size)))).get? e = some o := fun e o he q => (Heap.get?_update_other _ _ (Ne.symm he)).trans q
    have Sn : s.heap.objs.size ≠ S := Nat.ne_of_gt hSl
    have I' : Inv X pins σ (upd H s.heap.objs.size (.tup [x, y])) { s with heap := h'.update S (Obj.mapSeq (·.push (.ref s.heap.objs.size))) } :=
      I.turnedNew (t' := s.toks) (ch := [z, TO, i1, i2, S]) (fun e o he q => upS e o (fun z => he (by simp [z])) (hk e o (fun z => he (List.mem_append_left [S] z)) q)) (fun e he => (fp e he).1) (Nat.le_refl _)
        ⟨by show 2 ≤ sizeLine; decide, [u, v], .cons ru (.cons rw' .nil), ⟨_, upS _ _ Sn hT, rfl, _, rfl⟩⟩
    have ext : ∀ q o, H q = some o → upd H s.heap.objs.size (.tup [x, y]) q = some o := fun q o e => by rw [upd_ne (ne_of_none e fresh)]; exact e
    have hSo2 : ∃ c', (h'.update S (Obj.mapSeq (·.push (.ref s.heap.objs.size)))).get? S = some (lstO (its ++ [.ref s.heap.objs.size]) c') := by
      have := Heap.get?_update_self (Obj.mapSeq (·.push (.ref s.heap.objs.size))) hSo' rfl
      rw [this]
      simp [Obj.mapSeq, lstO]
    obtain ⟨c', hSo2⟩ := hSo2
    refine wpAny_updateSeq hSo' rfl (wpAny_pure ⟨plainId_quiet F.plain_extend_loop _, ih (dn ++ [(x, y)]) (ts ++ [.ref s.heap.objs.size]) _ _ (its ++ [.ref s.heap.objs.size]) c' (by rw [ez]; simp) I' (ext _ _ ha) (ext _ _ hb) ?_ ?_ hSo2 ?_ ?_ ?_⟩) ?_ ?_
    · rw [List.length_append]
      exact zs'.frame hS fun e o he q => upS e o he q
    · intro e he
      obtain ⟨f1, f2⟩ := fp e he
      refine ⟨FpOk.ext f1 (by rw [upd_ne (Nat.ne_of_lt f2)]; exact f1.1), ?_⟩
      show e < (h'.update S _).objs.size
      rw [Heap.size_update]
      exact Nat.lt_of_lt_of_le f2 (by rw [hsz]; exact Nat.le_succ _)
    · exact vals_app rv (.cons rfl .nil)
    · exact Paired.snoc (ld.ext ext) ⟨_, rfl, upd_same⟩
    · intro s'' H'' ts' its' c' J f g r l e nw
      refine hR s'' H'' ts' its' c' J f g r l (fun q o z => e q o (ext q o z)) fun T hT => ?_
      rcases nw T hT with q | q
      · rcases List.mem_append.mp q with q | q
        · exact .inl q
        · have q : V.ref T = V.ref s.heap.objs.size := List.mem_singleton.mp q
          injection q with q
          exact .inr (by rw [q]; exact fresh)
      · by_cases hT : T = s.heap.objs.size
        · exact .inr (by rw [hT]; exact fresh)
        · rw [upd_ne hT] at q
          exact .inr q
    · rw [List.size_toArray]; omega
    · rw [Array.size_push, List.size_toArray]; omega
theorem F_zip_no_len : typeLookup (.type "zip") "__len__" = pure none := by rw [typeLookup_type, builtinLookup_eq_fast]; kernel_rfl
theorem F_zip_no_hint : typeLookup (.type "zip") "__length_hint__" = pure none := by rw [typeLookup_type, builtinLookup_eq_fast]; kernel_rfl
theorem zl_extend {X : Cx} {pins : List (Addr × Obj)} {σ : Sv} {A : Around} {R : Result → Shared → Prop} {s : Shared} {H : Hp} {z TI TO i1 i2 a b S : Addr} {xs ys : List V} {c : Nat} (hh : A.handled = none) (D : ZipApart z TI TO i1 i2 a b) (hS : S ≠ z ∧ S ≠ TI ∧ S ≠ TO ∧ S ≠ i1 ∧ S ≠ i2) (res : Value) (hl : (xs.zip ys).length ≤ sizeLine)
    (I : Inv X pins σ H s) (ha : H a = some (.tup xs)) (hb : H b = some (.tup ys)) (hz : IsZip s.heap z TI TO .none) (zs : ZS s.heap z TI TO i1 i2 a b S 0) (fp : ∀ e ∈ [z, TO, i1, i2, S], FpOk X pins H e ∧ e < s.heap.objs.size) (hSo : s.heap.get? S = some (lstO [] c))
    (hR : ∀ s' H' ts' its' c', Inv X pins σ H' s' → FpOk X pins H' S → s'.heap.get? S = some (lstO its' c') → Vals ts' its' → Laid2 H' ts' (xs.zip ys) → (∀ q o, H q = some o → H' q = some o) → (∀ T, V.ref T ∈ ts' → H T = none) → R (.ok (.ret res)) s') :
    wpAny (model X.prog X.w) A.in1 (Builtin.List.listExtendWith (.ref S) (.ref z) res)
      (fun fin s' => match fin with | .done f => R (.ok f) s' | .again c' => c'.quiet = true ∧ codeAny (model X.prog X.w) A c' R s') (fun e s' => R (.error e) s') s := by
  have ty : s.TypeIs (.ref z) "zip" := ⟨_, hz, rfl⟩
  unfold Builtin.List.listExtendWith
  refine wpAny_bind (wpAny_typeOf ty ?_)
  have h1 : Builtin.List.listSameRef (.ref S) (.ref z) = false := by simp [Builtin.List.listSameRef, hS.1]
  have h2 : (Value.type "zip" == Value.type "list") = false := by decide
  have h3 : (Value.type "zip" == Value.type "tuple") = false := by decide
  simp only [h1, h2, h3, Bool.or_false, Bool.false_eq_true, if_false]
  refine wpAny_bind (wpAny_pyIter_zip hz ?_)
  refine wpAny_bind (wpAny_holding ?_)
  unfold Builtin.List.listLengthHint
  refine wpAny_bind (wpAny_specialOf ty F_zip_no_len ?_)
  show wpAny _ A.in1 (specialOf (Value.ref z) (Str.ofString "__length_hint__") >>= _) _ _ _
  refine wpAny_bind (wpAny_specialOf ty F_zip_no_hint (wpAny_pure ?_))
  show wpAny _ A.in1 (rule "list.extend.makes-room" >>= fun _ => Builtin.List.listTouch (.ref S) >>= fun _ => again (.builtin "list.extend.loop" ⟨[.ref S, .ref z, res], []⟩)) _ _ _
  refine wpAny_bind (wpAny_rule (wpAny_bind ?_))
  show wpAny _ A.in1 (updateSeq S (·.push .none) >>= fun _ => updateSeq S (·.pop)) _ _ _
  refine wpAny_bind (wpAny_updateSeq hSo rfl ?_)
  have hS2 := Heap.get?_update_self (Obj.mapSeq (·.push Value.none)) hSo rfl
  refine wpAny_updateSeq (hz := by seq_fits) hS2 rfl ?_
  have hS3 := Heap.get?_update_self (Obj.mapSeq (·.pop)) hS2 rfl
  have oth : ∀ e o, e ≠ S → s.heap.get? e = some o → ((s.heap.update S (Obj.mapSeq (·.push Value.none))).update S (Obj.mapSeq (·.pop))).get? e = some o := fun e o he q => (Heap.get?_update_other _ _ (Ne.symm he)).trans ((Heap.get?_update_other _ _ (Ne.symm he)).trans q)
  have fS := (fp S (by simp)).1
  have J : Inv X pins σ H { s with heap := (s.heap.update S (Obj.mapSeq (·.push Value.none))).update S (Obj.mapSeq (·.pop)) } := I.turnedL (t' := s.toks) (ch := [S]) (fun e o he q => oth e o (fun w => he (by simp [w])) q) (fun e he => by rw [List.mem_singleton.mp he]; exact fS)
  refine wpAny_pure ⟨plainId_quiet F.plain_extend_loop _, zl_loop (X := X) (pins := pins) (σ := σ) (xs := xs) (ys := ys) hh D hS res hl (xs.zip ys) [] [] _ H [] _ rfl J ha hb (zs.frame hS oth) ?_ hS3 .nil .nil ?_⟩
  · intro e he
    obtain ⟨f1, f2⟩ := fp e he
    refine ⟨f1, ?_⟩
    show e < ((s.heap.update S _).update S _).objs.size
    rw [Heap.size_update, Heap.size_update]
    exact f2
  · intro s' H' ts' its' c' J f g r l e nw
    exact hR s' H' ts' its' c' J f g r l e fun T hT => (nw T hT).resolve_left (fun q => nomatch q)
/-- a record of ours is told of from now on -/
theorem inv_track {X : Cx} {pins : List (Addr × Obj)} {σ : Sv} {H : Hp} {s : Shared} {S : Addr} {ob : HO} (I : Inv X pins σ H s) (f : FpOk X pins H S) (new : ObjOk X.prog X.w (upd H S ob) s.heap S ob) : Inv X pins σ (upd H S ob) s := by
  have hn : H S = none := f.1
  have ho : HOk X.prog X.w (upd H S ob) s.heap := fun b u e => by
    by_cases hb : b = S
    · subst hb
      rw [upd_same] at e
      cases e
      exact new
    · rw [upd_ne hb] at e
      exact (I.hok b u e).stay (fun c v _ q => q) (fun c q => by rw [upd_ne (ne_of_none q hn)]; exact q) fun c xs q => by rw [upd_ne (ne_of_none q hn)]; exact q
  refine I.step (g' := s.gens) (d' := s.drawn) (t' := s.toks) (h' := s.heap) (ch := [S]) (fun b hb => ?_) (fun b o _ _ _ e _ => e) (fun b o _ _ _ e _ => ⟨o.slots, e⟩) (fun b o hb e n => ?_) (fun b o _ e => ⟨o, e⟩) (fun b xs e => ?_) (fun b o u e => ?_) (fun b ps e => ⟨#[], ?_⟩) (fun m hm => hm) ho I.bare
  · rw [List.mem_singleton.mp hb]
    exact ⟨f.2.2.2.1, f.2.1, f.2.2.2.2.1, f.2.2.2.2.2⟩
  · rw [upd_ne (fun z => hb (by simp [z]))]; exact n
  · rw [upd_ne (ne_of_none e hn)]; exact e
  · rw [upd_ne (ne_of_none e hn)]; exact e
  · rw [upd_ne (ne_of_none e hn), e]; simp
theorem call_list_zip {X : Cx} {pins : List (Addr × Obj)} {σ : Sv} {s : Shared} {H : Hp} {z TI TO i1 i2 a b : Addr} {xs ys : List V} {Q : Value → Shared → Prop} (hh : X.A.handled = none) (D : ZipApart z TI TO i1 i2 a b) (hl : (xs.zip ys).length ≤ sizeLine)
    (I : Inv X pins σ H s) (ha : H a = some (.tup xs)) (hb : H b = some (.tup ys)) (hz : IsZip s.heap z TI TO .none) (hTI : IsPair s.heap TI (.ref i1) (.ref i2)) (hTO : IsPair s.heap TO .none .none) (h1 : s.heap.IsTupleIter i1 a 0) (h2 : s.heap.IsTupleIter i2 b 0)
    (fp : ∀ e ∈ [z, TO, i1, i2], FpOk X pins H e)
    (hQ : ∀ s' H' ts p, Inv X pins σ (upd H' p (.lst ts)) s' → H' p = none → Laid2 H' ts (xs.zip ys) → (∀ q o, H q = some o → H' q = some o) → (∀ T, V.ref T ∈ ts → H T = none) → H p = none → Q (.ref p) s') :
    wpAny (model X.prog X.w) X.A (call (.type "list") [.ref z]) Q X.xe s := by
  refine callType_codes (Q₁ := fun obj s₁ => obj = .ref s.heap.objs.size ∧ s₁ = { s with heap := s.heap.push { cls := .type "list", data := .seq #[] } }) F.called_list (F.typeCall_list_1 _) F.entry_list_init
    (code_list_new _ ⟨rfl, rfl⟩) fun obj s₁ h₁ => ?_
  obtain ⟨rfl, rfl⟩ := h₁
  have hS : (s.heap.push { cls := .type "list", data := .seq #[] }).get? s.heap.objs.size = some (lstO [] 0) := Heap.get?_push_size _ rfl
  have lt : ∀ {c o}, s.heap.get? c = some o → s.heap.objs.size ≠ c := fun e => Nat.ne_of_gt (Heap.lt_size e)
  have n1 : s.heap.objs.size ≠ i1 := let ⟨_, e, _⟩ := h1; lt e
  have n2 : s.heap.objs.size ≠ i2 := let ⟨_, e, _⟩ := h2; lt e
  have nS : s.heap.objs.size ≠ z ∧ s.heap.objs.size ≠ TI ∧ s.heap.objs.size ≠ TO ∧ s.heap.objs.size ≠ i1 ∧ s.heap.objs.size ≠ i2 := ⟨lt hz, lt hTI, lt hTO, n1, n2⟩
  refine ⟨⟨_, hS, rfl⟩, F.args_list_init_2 _ _, ?_⟩
  show wpAny _ _ (do let old ← Builtin.List.listItems (.ref s.heap.objs.size); Builtin.List.listUpdate (.ref s.heap.objs.size) (fun _ => #[]); letGo old.toList.reverse; Builtin.List.listExtendWith (.ref s.heap.objs.size) (.ref z) .none) _ _ _
  refine wpAny_bind ?_
  unfold Builtin.List.listItems
  refine wpAny_bind (wpAny_seqItems hS rfl (wpAny_pure ?_))
  show wpAny _ _ (updateSeq s.heap.objs.size (fun _ => #[]) >>= fun _ => letGo (#[] : Array Value).toList.reverse >>= fun _ => Builtin.List.listExtendWith (.ref s.heap.objs.size) (.ref z) .none) _ _ _
  refine wpAny_bind (wpAny_updateSeq hS rfl ?_)
  have hS2 := Heap.get?_update_self (Obj.mapSeq (fun _ => (#[] : Array Value))) hS rfl
  have oth : ∀ e o, e ≠ s.heap.objs.size → s.heap.get? e = some o → ((s.heap.push { cls := .type "list", data := .seq #[] }).update s.heap.objs.size (Obj.mapSeq (fun _ => (#[] : Array Value)))).get? e = some o :=
    fun e o he q => (Heap.get?_update_other _ _ (Ne.symm he)).trans (Heap.get?_push_of_some _ q)
  refine wpAny_bind (wpAny_letGo ?_)
  have fresh : H s.heap.objs.size = none := I.hok.fresh (Nat.le_refl _)
  have fS : FpOk X pins H s.heap.objs.size := I.fpOk (Nat.le_refl _) fresh
  have J : Inv X pins σ H { s with heap := (s.heap.push { cls := .type "list", data := .seq #[] }).update s.heap.objs.size (Obj.mapSeq (fun _ => (#[] : Array Value))) } :=
    I.turnedL (t' := s.toks) (ch := [s.heap.objs.size]) (fun e o he q => oth e o (fun w => he (by simp [w])) q) fun e he => by rw [List.mem_singleton.mp he]; exact fS
  have up : ∀ {e o}, s.heap.get? e = some o → ((s.heap.push { cls := .type "list", data := .seq #[] }).update s.heap.objs.size (Obj.mapSeq (fun _ => (#[] : Array Value)))).get? e = some o := fun q => oth _ _ (Ne.symm (lt q)) q
  obtain ⟨c, hS3⟩ : ∃ c, ((s.heap.push { cls := .type "list", data := .seq #[] }).update s.heap.objs.size (Obj.mapSeq (fun _ => (#[] : Array Value)))).get? s.heap.objs.size = some (lstO [] c) := ⟨_, hS2⟩
  refine zl_extend (A := X.A.in1) (c := c) hh D nS .none hl J ha hb (up hz) ⟨up hTI, h1.at fun o e => up e, h2.at fun o e => up e, .inl ⟨up hz, .none, .none, up hTO⟩⟩ ?_ ?_ ?_
  · intro e he
    rcases List.mem_append.mp (show e ∈ [z, TO, i1, i2] ++ [s.heap.objs.size] from he) with q | q
    · refine ⟨fp e q, ?_⟩
      show e < (Heap.update _ _ _).objs.size
      rw [Heap.size_update, Heap.size_push]
      have : e < s.heap.objs.size := by
        simp at q
        rcases q with q | q | q | q
        · rw [q]; exact Heap.lt_size hz
        · rw [q]; exact Heap.lt_size hTO
        · rw [q]; obtain ⟨_, e1, _⟩ := h1; exact Heap.lt_size e1
        · rw [q]; obtain ⟨_, e1, _⟩ := h2; exact Heap.lt_size e1
      exact Nat.lt_succ_of_lt this
    · rw [List.mem_singleton.mp q]
      refine ⟨fS, ?_⟩
      show _ < (Heap.update _ _ _).objs.size
      rw [Heap.size_update, Heap.size_push]
      exact Nat.lt_succ_self _
  · exact hS3
  · intro s' H' ts' its' c' I' f g r l e nw
    refine ⟨rfl, hQ s' H' ts' _ (inv_track I' f ⟨?_, its', c', r, g⟩) f.1 l e nw fresh⟩
    rw [l.length]; exact hl
end Iw
end

section
set_option Elab.async false
set_option linter.all false
set_option maxRecDepth 100000
/-! dict(list of pairs): keys that are tuples -/
namespace Iw
open PySem PySem.Spec PyProof.Rows L2
variable [TheW]
def mergeT (kvs more : List (List L2.Key × V)) : List (List L2.Key × V) := more.foldl (fun acc kv => putK acc kv.1 kv.2) kvs
theorem paired_right {α β : Type} {F : α → β → Prop} {G : β → Prop} (h : ∀ a b, F a b → G b) : ∀ {as : List α} {bs : List β}, Paired F as bs → ∀ b ∈ bs, G b
  | _, _, .nil => fun b hb => nomatch hb
  | _, _, .cons r t => fun b hb => by
    rcases List.mem_cons.mp hb with e | hb
    · rw [e]; exact h _ _ r
    · exact paired_right h t b hb
section
variable {X : Cx} {H : Hp}
abbrev PairT (H : Hp) : List Addr → List (Addr × List L2.Key × V) → Prop := Paired fun p kv => H p = some (.tup [.ref kv.1, kv.2.2]) ∧ H kv.1 = some (.tup (kv.2.1.map kV))
theorem pairs_ofT {pins : List (Addr × Obj)} {σ : Sv} {s : Shared} (I : Inv X pins σ H s) : ∀ {ps : List Addr} {kvs : List (Addr × List L2.Key × V)}, PairT H ps kvs →
    ∃ xs : List (List L2.Key × Addr × Value), Paired (fun (kv : Addr × List L2.Key × V) (q : List L2.Key × Addr × Value) => kv.2.1 = q.1 ∧ kv.1 = q.2.1 ∧ H q.2.1 = some (.tup (q.1.map kV)) ∧ RelV kv.2.2 q.2.2) kvs xs ∧
      ∀ (j : Nat) (q : List L2.Key × Addr × Value), xs[j]? = some q → ∃ b, ps[j]? = some b ∧ IsTup s.heap b #[.ref q.2.1, q.2.2]
  | _, _, .nil => ⟨[], .nil, fun j q e => by simp at e⟩
  | _, _, .cons (a := p) (b := kv) h t => by
    obtain ⟨xs, r, hp⟩ := pairs_ofT I t
    obtain ⟨its, rv, ht, _⟩ := I.tuple (SqT.of h.1)
    obtain ⟨u, y, ei, ru, ry⟩ := vals2 rv
    subst ei
    cases ru
    refine ⟨(kv.2.1, kv.1, y) :: xs, .cons ⟨rfl, rfl, h.2, ry⟩ r, fun j q e => ?_⟩
    cases j with
    | zero =>
      have e' : (kv.2.1, kv.1, y) = q := Option.some.inj e
      subst e'
      exact ⟨p, rfl, ht⟩
    | succ j => exact hp j q (by simpa using e)
theorem merge_KT : ∀ {kvs : List (Addr × List L2.Key × V)} {xs : List (List L2.Key × Addr × Value)} {k0 : List (List L2.Key × V)} {x0 : List (List L2.Key × Addr × Value)},
    Paired (fun (kv : Addr × List L2.Key × V) (q : List L2.Key × Addr × Value) => kv.2.1 = q.1 ∧ kv.1 = q.2.1 ∧ H q.2.1 = some (.tup (q.1.map kV)) ∧ RelV kv.2.2 q.2.2) kvs xs → KT H k0 x0 → KT H (mergeT k0 (kvs.map (·.2))) (storedAllH x0 xs)
  | _, _, _, _, .nil, k => k
  | _, _, _, _, .cons (a := kv) (b := q) h t, k => by
    have := KT.put k q.1 (b := q.2.1) (y := kv.2.2) (u := q.2.2) h.2.2.1 h.2.2.2
    refine merge_KT (k0 := putK _ _ _) (x0 := storedH _ _ _ _) t ?_
    rw [h.1]
    exact this
theorem call_dictPT (hcalm : X.calm = true) (hu : X.A.units + 64 < cLine) : CallR X (.type "dict") (fun xs H Q => ∃ (a : Addr) (ps : List Addr) (kvs : List (Addr × List L2.Key × V)), xs = [.ref a] ∧ H a = some (.lst (ps.map V.ref)) ∧ PairT H ps kvs ∧
    ∀ p, H p = none → Q (.ref p) (upd H p (.dT (mergeT [] (kvs.map (·.2)))))) := by
  intro pins s σ H xs us Q I r q
  obtain ⟨a, ps, kvs, ex, ha, hp, q⟩ := q
  subst ex
  obtain ⟨u, eu, rx⟩ := vals1 r
  subst eu
  cases rx
  obtain ⟨its, rv, pl, hz⟩ := I.list (SqL.of ha)
  have ei := refs_at rv
  subst ei
  rw [List.length_map] at hz
  obtain ⟨xs, rel, hx⟩ := pairs_ofT I hp
  obtain ⟨o, n, ho, hc, hd, hdat⟩ := pl
  have lps := hp.length
  have lxs := rel.length
  have keyAt : ∀ x ∈ xs, H x.2.1 = some (.tup (x.1.map kV)) := paired_right (fun _ _ h => h.2.2.1) rel
  have keyIs : ∀ x ∈ xs, (tupleKind (mixKind X.prog X.w)).is s.heap x.1 x.2.1 := fun x hx => key_of I.hok (keyAt x hx)
  have lx : xs.length = ps.length := lxs.symm.trans lps.symm
  refine call_dict_pairsH (knd := tupleKind (mixKind X.prog X.w)) (ps := xs) (PairArg.list a (ps.map Value.ref).toArray (fun j => ps.getD j 0) (xs.map fun q => (.ref q.2.1, q.2.2))) (I.ok.hd hcalm) ?_ ?_ ?_ ?_ ?_ fun h' tk hd' k => ?_
  · show X.A.in1.in1.units < cLine
    simp only [Around.in1_units]
    omega
  · refine ⟨⟨o, n, ho, hc, hd, hdat⟩, by simp [lx], fun j kk v e => ?_⟩
    rw [List.getElem?_map] at e
    obtain ⟨q, e1, e2⟩ := Option.map_eq_some_iff.mp e
    cases e2
    obtain ⟨b, e3, e4⟩ := hx j q e1
    have e5 : ps.getD j 0 = b := by simp [List.getD, e3]
    refine ⟨by simp [e3], ?_⟩
    show PairAt s.heap (ps.getD j 0) _ _
    rw [e5]
    exact .inl e4
  · refine ⟨by simp, fun i key v e => ?_⟩
    have e : (xs.map fun q => (Value.ref q.2.1, q.2.2))[i]? = some (key, v) := e
    rw [List.getElem?_map] at e
    obtain ⟨q, e1, e2⟩ := Option.map_eq_some_iff.mp e
    cases e2
    exact ⟨q.1, q.2.1, e1, rfl⟩
  · intro h' hk x hx
    obtain ⟨o', i', n', h1, h2, h3, h4⟩ := keyIs x hx
    exact ⟨o', i', n', hk _ _ (Nat.ne_of_lt (Heap.lt_size h1)) (fun q => nomatch q) h1, h2, h3, h4⟩
  · rw [List.length_map, lx]; exact hz
  · have hm : (s.heap.objs.size == sysModules) = false := beq_eq_false_iff_ne.mpr (Nat.ne_of_gt I.big)
    have kt := merge_KT (k0 := []) (x0 := []) rel .nil
    have hlen : (mergeT [] (kvs.map (·.2))).length ≤ sizeLine := by
      rw [kt.length]
      refine Nat.le_trans (storedAllH_length xs []) ?_
      rw [List.length_nil, Nat.zero_add, lx]; exact hz
    have fresh : H s.heap.objs.size = none := I.hok.fresh (Nat.le_refl _)
    have k2 : ∀ b o, s.heap.get? b = some o → h'.get? b = some o := fun b o e => k b o (fun q => nomatch q) e
    obtain ⟨o1, es, ep, q1, q2, q3, q4, q5, q6⟩ := hd'
    exact ⟨.ref s.heap.objs.size, upd H s.heap.objs.size (.dT (mergeT [] (kvs.map (·.2)))), I.laid (t' := tk) k2 (Nat.le_refl _) (show ObjOk X.prog X.w _ _ _ (.dT (mergeT [] (kvs.map (·.2)))) from ⟨hlen, hm, storedAllH [] xs, kt.keeps fun b ys e => by rw [upd_ne (ne_of_none e fresh)]; exact e, o1, es, ep, q1, q2, q3, q4, q6⟩), rfl, q _ fresh⟩
end
end Iw
end

section
set_option Elab.async false
set_option linter.all false
set_option maxRecDepth 100000
/-! method calls: append, extend, pop, get; {} -/
namespace Iw
open PySem PySem.Spec PyProof.Rows L2
variable [TheW]
section
variable {X : Cx} {W : WX} {a b c o e : Expr} {es : List Expr} {A B C : Dn} {pos apos cpos : Pos}
theorem lst_at {K : PySem.W.Frag} {m : Mp} {H : Hp} {h : Hs} (rh : RH K m h H) {v : V} {p : PV} (r : RV K m H v p) (e : lstAt h p = true) : ∃ n a xs vs, p = .ref n ∧ v = .ref a ∧ h[n]? = some (.lst xs) ∧ m.own[n]? = some a ∧ H a = some (.lst vs) ∧ RVs K m H vs xs := by
  cases p with
  | ref n =>
    unfold lstAt at e
    dsimp only at e
    split at e
    · rename_i xs e0
      obtain ⟨a, vs, rfl, h1, h2, h3⟩ := rv_ref rh r e0
      exact ⟨n, a, xs, vs, rfl, rfl, e0, h1, h2, h3⟩
    · cases e
  | _ => cases e
abbrev appE (k : Nat) (A B : Dn) : Sg → Hs → R PV := fun σ h => (A.e σ h).bind fun l h1 => if lstAt h1 l = true then (B.e σ h1).bind fun y h2 => appv k l y h2 else .bad
abbrev extE (k : Nat) (A B : Dn) : Sg → Hs → R PV := fun σ h => (A.e σ h).bind fun l h1 => if lstAt h1 l = true then (B.e σ h1).bind fun y h2 => extv k l y h2 else .bad
theorem nfL {H : Hp} {a : Addr} {vs : List V} (e : H a = some (.lst vs)) : ∀ o u, H a ≠ some (.frz o u) := fun o u z => by rw [e] at z; cases z
theorem nfK {H : Hp} {a : Addr} {vs : List (Key × V)} (e : H a = some (.dK vs)) : ∀ o u, H a ≠ some (.frz o u) := fun o u z => by rw [e] at z; cases z
theorem nfT {H : Hp} {a : Addr} {vs : List (List Key × V)} (e : H a = some (.dT vs)) : ∀ o u, H a ≠ some (.frz o u) := fun o u z => by rw [e] at z; cases z
theorem wr_lst {K : PySem.W.Frag} {mg : Str → Option Value} {E : Value → Hp → Prop} {m : Mp} {H : Hp} {h : Hs} {α : Type} {Q : α → Hp → Prop} {p : PV} {rel : Mp → Hp → α → PV → Prop} (rh : RH K m h H) {n : Nat} {a : Addr} {u : HO} {ob : Ob} (ha : m.own[n]? = some a) (nf : ∀ o u, H a ≠ some (.frz o u)) (ro : RO K m H a u ob)
    {x : α} (hs : satG mg K E m H rel (.ok p (h.set n ob)) Q) (rx : rel m (upd H a u) x p) : Q x (upd H a u) :=
  hs _ _ _ (rh.wr ha nf) (rh.write ha nf (ro.evo (rh.wr ha nf))) rx
theorem e_app (k : Nat) (ho : PE X o (tE X W A.e)) (he : PE X e (tE X W B.e)) (hbase : attributeBase o "append" X.env (eval o X.env) = eval o X.env)
    (hfew : ((backTo cpos (starEach [e] X.env)).all (fun x => !x.1) && (backToKw cpos (keywordEach [] X.env)).all (fun x => x.1.isSome)
      && decide (([e] : List Expr).length + ([] : List Keyword).length + (if ([] : List Keyword).isEmpty then 0 else 1) < 30)) = true)
    (hline : (apos.endLine == cpos.line) = true) (hst : starEach [e] X.env = (false, eval e X.env) :: starEach [] X.env) : PE X (.Call (.Attribute o "append" apos) [e] [] cpos) (tE X W (appE k A B)) :=
  (pe_bm PySem.F.plainAttrs_list PySem.F.slot_list_append PySem.F.type_list_append mt_append ho (pa_cons he pa_nil hst) hbase hfew hline hst (by rfl)).imp fun σ H Q ⟨m, p, hh, rs, rh, hs⟩ =>
    (tE.bind1 rs rh hs).mono fun x H1 ⟨m1, a, h1, _, rs1, rh1, ra, s1⟩ => by
      obtain ⟨hl, s1⟩ := satG_if s1
      obtain ⟨n, ad, xs, vs, rfl, rfl, e0, e1, e2, e3⟩ := lst_at rh1 ra hl
      refine ⟨.inl ⟨rfl, vs, SqL.of e2⟩, (tE.bind1 rs1 rh1 s1).mono fun y H2 ⟨m2, b, h2, ev2, rs2, rh2, rb, s2⟩ => ?_⟩
      have s2 : satG X.mg X.K (Ex W σ) m2 H2 (RV X.K) (match h2[n]? with
        | some (.lst xs) => if storeOk k n b = true ∧ xs.length < line then .ok (.d .none) (h2.set n (.lst (xs ++ [b]))) else .bad
        | _ => .bad) Q := s2
      split at s2
      · rename_i xs2 q0
        obtain ⟨hc, s2⟩ := satG_if s2
        obtain ⟨a', vs2, q1, q2, q3, q4⟩ := rv_ref rh2 (ra.evo ev2) q0
        cases q1
        refine ⟨_, vs2, y, rfl, rfl, q3, by rw [q4.len, ← line_eq]; exact hc.2, ?_⟩
        exact wr_lst rh2 q2 (nfL q3) (.lst (PairedApp q4 (.cons rb .nil))) s2 (.d .non)
      · exact s2.elim
theorem e_ext (k : Nat) (ho : PE X o (tE X W A.e)) (he : PE X e (tE X W B.e)) (hbase : attributeBase o "extend" X.env (eval o X.env) = eval o X.env)
    (hfew : ((backTo cpos (starEach [e] X.env)).all (fun x => !x.1) && (backToKw cpos (keywordEach [] X.env)).all (fun x => x.1.isSome)
      && decide (([e] : List Expr).length + ([] : List Keyword).length + (if ([] : List Keyword).isEmpty then 0 else 1) < 30)) = true)
    (hline : (apos.endLine == cpos.line) = true) (hst : starEach [e] X.env = (false, eval e X.env) :: starEach [] X.env) : PE X (.Call (.Attribute o "extend" apos) [e] [] cpos) (tE X W (extE k A B)) :=
  (pe_bm PySem.F.plainAttrs_list PySem.F.slot_list_extend PySem.F.type_list_extend mt_extend ho (pa_cons he pa_nil hst) hbase hfew hline hst (by rfl)).imp fun σ H Q ⟨m, p, hh, rs, rh, hs⟩ =>
    (tE.bind1 rs rh hs).mono fun x H1 ⟨m1, a, h1, _, rs1, rh1, ra, s1⟩ => by
      obtain ⟨hl, s1⟩ := satG_if s1
      obtain ⟨n, ad, xs, vs, rfl, rfl, e0, e1, e2, e3⟩ := lst_at rh1 ra hl
      refine ⟨.inl ⟨rfl, vs, SqL.of e2⟩, (tE.bind1 rs1 rh1 s1).mono fun y H2 ⟨m2, b, h2, ev2, rs2, rh2, rb, s2⟩ => ?_⟩
      have s2 : satG X.mg X.K (Ex W σ) m2 H2 (RV X.K) (match h2[n]?, getL h2 b with
        | some (.lst xs), some ys => if (ys.all (storeOk k n)) = true ∧ xs.length + ys.length ≤ line then .ok (.d .none) (h2.set n (.lst (xs ++ ys))) else .bad
        | _, _ => .bad) Q := s2
      split at s2
      · rename_i xs2 ys2 q0 g0
        obtain ⟨hc, s2⟩ := satG_if s2
        obtain ⟨a', vs2, q1, q2, q3, q4⟩ := rv_ref rh2 (ra.evo ev2) q0
        cases q1
        obtain ⟨b', ws, rfl, g1, g2⟩ := getL_at rh2 rb g0
        refine ⟨_, b', vs2, ws, rfl, rfl, q3, g1, by rw [q4.len, g2.len, ← line_eq]; exact hc.2, ?_⟩
        exact wr_lst rh2 q2 (nfL q3) (.lst (PairedApp q4 g2)) s2 (.d .non)
      · exact s2.elim
theorem e_pop (ho : PE X o (tE X W A.e)) (hbase : attributeBase o "pop" X.env (eval o X.env) = eval o X.env) (hline : (apos.endLine == cpos.line) = true) : PE X (.Call (.Attribute o "pop" apos) [] [] cpos) (tE X W (one A popv).e) :=
  (pe_bm0 PySem.F.plainAttrs_list PySem.F.slot_list_pop PySem.F.type_list_pop mt_pop ho hbase hline).imp fun σ H Q ⟨m, p, hh, rs, rh, hs⟩ =>
    (tE.bind1 rs rh hs).mono fun x H1 ⟨m1, b, h2, _, rs1, rh2, ra, s1⟩ => by
      cases b with
      | ref n =>
        have s1 : satG X.mg X.K (Ex W σ) m1 H1 (RV X.K) (match h2[n]? with
          | some (.lst xs) => match xs[xs.length - 1]? with
            | some y => .ok y (h2.set n (.lst xs.dropLast))
            | none => .bad
          | _ => .bad) Q := s1
        split at s1
        · rename_i xs q0
          obtain ⟨a', vs2, rfl, q2, q3, q4⟩ := rv_ref rh2 ra q0
          split at s1
          · rename_i y ey
            obtain ⟨w, e1, rw1⟩ := PairedGet q4 ey
            refine ⟨.inl ⟨rfl, vs2, SqL.of q3⟩, _, vs2, w, rfl, rfl, q3, by rw [q4.len]; exact e1, ?_⟩
            exact wr_lst rh2 q2 (nfL q3) (.lst (PairedDropLast q4)) s1 (rw1.evo (rh2.wr q2 (nfL q3)))
          · exact s1.elim
        · exact s1.elim
      | _ => exact s1.elim
abbrev dgetE (A B C : Dn) : Sg → Hs → R PV := fun σ h => (A.e σ h).bind fun l h1 => if isDct h1 l = true then (B.e σ h1).bind fun u h2 => (C.e σ h2).bind fun w h3 => dget2v l u w h3 else .bad
/-- a is a dict, whatever its keys -/
def IsX (H : Hp) (a : Addr) : Prop := IsD H a ∨ ∃ xs, Rd H a (ND TheW.w a xs)
theorem isX_at {pins : List (Addr × Obj)} {σ : Sv} {H : Hp} {s : Shared} {a : Addr} (I : Inv X pins σ H s) (d : IsX H a) : s.TypeIs (.ref a) "dict" ∧ ∀ b, Value.ref a = .ref b → ∃ ob, s.heap.get? b = some ob ∧ ob.dict = none := by
  rcases d with d | ⟨xs, e⟩
  · obtain ⟨h1, h2, _⟩ := isD_at I d
    exact ⟨h1, h2⟩
  · obtain ⟨⟨z, hs, ys, rel, o, es, ep, ho, hx, hd, he, hn⟩, _, _⟩ := (show ObjOk X.prog X.w H s.heap a (ND TheW.w a xs) from e.ok I.hok)
    exact ⟨⟨o, ho, hx.1⟩, fun b q => by cases q; exact ⟨o, ho, hx.2.1⟩⟩
theorem isDct_at {K : PySem.W.Frag} {m : Mp} {H : Hp} {h : Hs} (rh : RH K m h H) {v : V} {p : PV} (r : RV K m H v p) (e : isDct h p = true) : ∃ a, v = .ref a ∧ IsX H a := by
  cases p with
  | ref n =>
    unfold isDct at e
    dsimp only at e
    cases r with
    | ref ha =>
      split at e
      all_goals first
        | (cases e; done)
        | (rename_i kvs e0
           obtain ⟨a, u, h1, h2, h3⟩ := rh.at_ n _ e0
           rw [h1] at ha; cases ha
           cases h3
           first
             | exact ⟨_, rfl, .inl (.inl ⟨_, .inl h2⟩)⟩
             | exact ⟨_, rfl, .inl (.inr ⟨_, .inl h2⟩)⟩
             | exact ⟨_, rfl, .inl (.inr ⟨_, .inr ⟨_, h2⟩⟩)⟩
             | exact ⟨_, rfl, .inr ⟨_, .inl h2⟩⟩
             | exact ⟨_, rfl, .inr ⟨_, .inr ⟨_, h2⟩⟩⟩)
  | _ => cases e
def tDGetX (K : PySem.W.Frag) (td ty tx : TE) : TE := fun σ H Q => td σ H fun x H1 => ∃ a, x = .ref a ∧ IsX H1 a ∧ ty σ H1 fun y H2 => tx σ H2 fun z H3 => ∃ o, GetX K H3 a y o ∧ Q (o.getD z) H3
theorem pe_dgetX {td ty tx : TE} {f : Expr} (hu : X.A.units + 64 < cLine) (ww : X.w = TheW.w) (ho : PE X o td) (he : PE X e ty) (hf : PE X f tx) (m : M2 X o "get" apos e f cpos) : PE X (.Call (.Attribute o "get" apos) [e, f] [] cpos) (tDGetX X.K td ty tx) := by
  refine ⟨fun pins s σ H Q I h => ?_⟩
  refine wpAny_Call_method m.base m.few m.line PySem.F.plainAttrs_dict PySem.F.slot_dict_get PySem.F.type_dict_get (thn (ho.run pins s σ H _ I h) fun u s1 ⟨x, H1, I1, rx, a, ex, d, q1⟩ => ?_)
  subst ex
  obtain rfl : u = Value.ref a := rx
  obtain ⟨t1, t2⟩ := isX_at I1 d
  refine ⟨t1, t2, ?_⟩
  rw [m.trees]
  refine Calls.callWith_builtin rfl (Calls.evalArgs_plain (Calls.spliced_cons (thn (he.run pins s1 σ H1 _ I1 q1) fun iv s2 ⟨y, H2, I2, ry, q2⟩ =>
    Calls.spliced_cons (thn (hf.run pins s2 σ H2 _ I2 q2) fun fv s3 ⟨z, H3, I3, rz, ov, g, q3⟩ => Calls.spliced_nil ?_))))
  exact x_get2 ww hu I3 g ry rz fun w' s4 I4 rw' => ⟨_, H3, I4, rw', q3⟩
theorem e_dget (hu : X.A.units + 64 < cLine) (ww : X.w = TheW.w) (ho : PE X o (tE X W A.e)) (ha : PE X a (tE X W B.e)) (hb : PE X b (tE X W C.e)) (m2 : M2 X o "get" apos a b cpos) : PE X (.Call (.Attribute o "get" apos) [a, b] [] cpos) (tE X W (dgetE A B C)) :=
  (pe_dgetX hu ww ho ha hb m2).imp fun σ H Q ⟨m, p, hh, rs, rh, hs⟩ =>
    (tE.bind1 rs rh hs).mono fun x H1 ⟨m1, a, h1, _, rs1, rh1, ra, s1⟩ => by
      obtain ⟨hl, s1⟩ := satG_if s1
      obtain ⟨ad, rfl, isd⟩ := isDct_at rh1 ra hl
      refine ⟨ad, rfl, isd, (tE.bind1 rs1 rh1 s1).mono fun y H2 ⟨m2, b, h2, ev2, rs2, rh2, rb, s2⟩ => (tE.bind1 rs2 rh2 s2).mono fun z H3 ⟨m3, c, h3, ev3, rs3, rh3, rc, s3⟩ => ?_⟩
      cases b with
      | d d =>
        have s3 : satG X.mg X.K (Ex W σ) m3 H3 (RV X.K) (match dgetv h3 a d with
          | some (some v) => .ok v h3
          | some none => .ok c h3
          | none => .bad) Q := s3
        split at s3
        · rename_i v eg
          obtain ⟨a', ov, q1, g, ro⟩ := dget_at rh3 ((ra.evo ev2).evo ev3) (rv_d (rb.evo ev3)) eg
          cases q1
          cases ro with
          | some r => exact ⟨_, g, now rh3 s3 r⟩
        · rename_i eg
          obtain ⟨a', ov, q1, g, ro⟩ := dget_at rh3 ((ra.evo ev2).evo ev3) (rv_d (rb.evo ev3)) eg
          cases q1
          cases ro with
          | none => exact ⟨_, g, now rh3 s3 rc⟩
        · exact s3.elim
      | _ => exact s3.elim
/-! ### d.setdefault(k, x), d.update(pairs), {} for nested keys -/
/-- what setdefault does, by the keys' kind -/
def SetdX (K : PySem.W.Frag) (H : Hp) (a : Addr) (y z : V) (Q : VK) : Prop :=
  (∃ kvs k, H a = some (.dK kvs) ∧ y = kV k ∧ kvs.length < sizeLine ∧ (∀ v, valV kvs k = some v → Q v H) ∧ (valV kvs k = none → Q z (upd H a (.dK (putK kvs k z))))) ∨
  (∃ kvs k b, H a = some (.dT kvs) ∧ y = .ref b ∧ H b = some (.tup (k.map kV)) ∧ kvs.length < sizeLine ∧ (∀ v, valV kvs k = some v → Q v H) ∧ (valV kvs k = none → Q z (upd H a (.dT (putK kvs k z))))) ∨
  ∃ (m : Mp) (xs : List (NestedKey × Addr × V)) (kvs : List (NestedKey × PV)) (k : NestedKey) (b : Addr), H a = some (ND TheW.w a xs) ∧ PN K m H xs kvs ∧ y = .ref b ∧ Rp m H (.ref b) k.data ∧ k.depth ≤ 8 ∧ xs.length < sizeLine ∧ (∀ v, valN xs k = some v → Q v H) ∧ (valN xs k = none → Q z (upd H a (ND TheW.w a (putN xs k b z))))
def tDSetX (K : PySem.W.Frag) (td ty tx : TE) : TE := fun σ H Q => td σ H fun x H1 => ∃ a, x = .ref a ∧ IsX H1 a ∧ ty σ H1 fun y H2 => tx σ H2 fun z H3 => SetdX K H3 a y z Q
theorem pe_dsetX {td ty tx : TE} {f : Expr} (hu : X.A.units + 64 < cLine) (ww : X.w = TheW.w) (ho : PE X o td) (he : PE X e ty) (hf : PE X f tx) (m : M2 X o "setdefault" apos e f cpos) : PE X (.Call (.Attribute o "setdefault" apos) [e, f] [] cpos) (tDSetX X.K td ty tx) := by
  refine ⟨fun pins s σ H Q I h => ?_⟩
  refine wpAny_Call_method m.base m.few m.line PySem.F.plainAttrs_dict PySem.F.slot_dict_setdefault PySem.F.type_dict_setdefault (thn (ho.run pins s σ H _ I h) fun u s1 ⟨x, H1, I1, rx, a, ex, d, q1⟩ => ?_)
  subst ex
  obtain rfl : u = Value.ref a := rx
  obtain ⟨t1, t2⟩ := isX_at I1 d
  refine ⟨t1, t2, ?_⟩
  rw [m.trees]
  refine Calls.callWith_builtin rfl (Calls.evalArgs_plain (Calls.spliced_cons (thn (he.run pins s1 σ H1 _ I1 q1) fun iv s2 ⟨y, H2, I2, ry, q2⟩ =>
    Calls.spliced_cons (thn (hf.run pins s2 σ H2 _ I2 q2) fun fv s3 ⟨z, H3, I3, rz, g⟩ => Calls.spliced_nil ?_))))
  rcases g with ⟨kvs, k, ea, rfl, hl, q3, q4⟩ | ⟨kvs, k, b, ea, rfl, eb, hl, q3, q4⟩ | ⟨m, xs, kvs, k, b, ea, rp, rfl, rb, hd, hl, q3, q4⟩
  · exact d_setd I3 ea ry rz hl (fun v hv w' s4 I4 rw' => ⟨v, _, I4, rw', q3 v hv⟩) fun hn w' s4 I4 rw' => ⟨z, _, I4, rw', q4 hn⟩
  · cases ry
    exact t_setd hu I3 ea eb hl rz (fun v hv w' s4 I4 rw' => ⟨v, _, I4, rw', q3 v hv⟩) fun hn s4 I4 => ⟨z, _, I4, rz, q4 hn⟩
  · cases ry
    exact n_setd ww hu I3 ea rp rb hd hl rz (fun v hv w' s4 I4 rw' => ⟨v, _, I4, rw', q3 v hv⟩) fun hn s4 I4 => ⟨z, _, I4, rz, q4 hn⟩
abbrev dsetE (k : Nat) (A B C : Dn) : Sg → Hs → R PV := fun σ h => (A.e σ h).bind fun l h1 => if isDct h1 l = true then (B.e σ h1).bind fun u h2 => (C.e σ h2).bind fun w h3 => dsetdv k l u w h3 else .bad
theorem e_dset (k : Nat) (hu : X.A.units + 64 < cLine) (ww : X.w = TheW.w) (ho : PE X o (tE X W A.e)) (ha : PE X a (tE X W B.e)) (hb : PE X b (tE X W C.e)) (m2 : M2 X o "setdefault" apos a b cpos) : PE X (.Call (.Attribute o "setdefault" apos) [a, b] [] cpos) (tE X W (dsetE k A B C)) :=
  (pe_dsetX hu ww ho ha hb m2).imp fun σ H Q ⟨m, p, hh, rs, rh, hs⟩ =>
    (tE.bind1 rs rh hs).mono fun x H1 ⟨m1, a, h1, _, rs1, rh1, ra, s1⟩ => by
      obtain ⟨hl, s1⟩ := satG_if s1
      obtain ⟨ad, rfl, isd⟩ := isDct_at rh1 ra hl
      refine ⟨ad, rfl, isd, (tE.bind1 rs1 rh1 s1).mono fun y H2 ⟨m2, b, h2, ev2, rs2, rh2, rb, s2⟩ => (tE.bind1 rs2 rh2 s2).mono fun z H3 ⟨m3, c, h3, ev3, rs3, rh3, rc, s3⟩ => ?_⟩
      have ra3 := (ra.evo ev2).evo ev3
      have rb3 := rb.evo ev3
      cases a with
      | ref n =>
        cases b with
        | d d =>
          have s3 : satG X.mg X.K (Ex W σ) m3 H3 (RV X.K) (match h3[n]? with
            | some o => match dputO o d c with
              | some o' => match dgetO o d with
                | some (some v) => .ok v h3
                | some none => if storeOk k n c = true then .ok c (h3.set n o') else .bad
                | none => .bad
              | none => .bad
            | none => .bad) Q := s3
          cases e0 : h3[n]? with
          | none => rw [e0] at s3; exact s3.elim
          | some ob =>
            rw [e0] at s3
            dsimp only at s3
            cases ep : dputO ob d c with
            | none => rw [ep] at s3; exact s3.elim
            | some ob' =>
              rw [ep] at s3
              dsimp only at s3
              obtain ⟨a', u, h4, h5, h6⟩ := rh3.at_ n ob e0
              cases ra3 with
              | ref hn =>
                rw [h4] at hn; cases hn
                cases ob with
                | lst _ => cases ep
                | dTl _ => cases ep
                | dNl _ => cases ep
                | dK kvs =>
                  cases h6 with
                  | dK rp =>
                    have ep : (if kvs.length < line then (keyOf d).map fun k => Ob.dK (putP kvs k c) else none) = some ob' := ep
                    split at ep
                    · rename_i hl2
                      obtain ⟨kk, e1, rfl⟩ := Option.map_eq_some_iff.mp ep
                      have ey := keyOf_at (rv_d rb3) e1
                      have s3 : satG X.mg X.K (Ex W σ) m3 H3 (RV X.K) (match (keyOf d).map (valP kvs) with
                        | some (some v) => .ok v h3
                        | some none => if storeOk k n c = true then .ok c (h3.set n (.dK (putP kvs kk c))) else .bad
                        | none => .bad) Q := s3
                      rw [e1] at s3
                      refine .inl ⟨_, kk, h5, ey, by rw [Paired.length rp, ← line_eq]; exact hl2, fun v hv => ?_, fun hv => ?_⟩
                      · rcases val_pair kk rp with ⟨z1, z2⟩ | ⟨v', x', z1, z2, z3⟩
                        · rw [z1] at hv; cases hv
                        · rw [z1] at hv; cases hv
                          have s3 : satG X.mg X.K (Ex W σ) m3 H3 (RV X.K) (match some (valP kvs kk) with
                            | some (some v) => .ok v h3
                            | some none => if storeOk k n c = true then .ok c (h3.set n (.dK (putP kvs kk c))) else .bad
                            | none => .bad) Q := s3
                          rw [z2] at s3
                          exact now rh3 s3 z3
                      · rcases val_pair kk rp with ⟨z1, z2⟩ | ⟨v', x', z1, z2, z3⟩
                        · have s3 : satG X.mg X.K (Ex W σ) m3 H3 (RV X.K) (match some (valP kvs kk) with
                            | some (some v) => .ok v h3
                            | some none => if storeOk k n c = true then .ok c (h3.set n (.dK (putP kvs kk c))) else .bad
                            | none => .bad) Q := s3
                          rw [z2] at s3
                          obtain ⟨_, s3⟩ := satG_if s3
                          exact wr_lst rh3 h4 (nfK h5) (.dK (put_pair kk rc rp)) s3 (rc.evo (rh3.wr h4 (nfK h5)))
                        · rw [z1] at hv; cases hv
                    · cases ep
                | dT kvs =>
                  cases h6 with
                  | dT rp =>
                    have ep : (if kvs.length < line then (keysOf d).map fun k => Ob.dT (putP kvs k c) else none) = some ob' := ep
                    split at ep
                    · rename_i hl2
                      obtain ⟨kk, e1, rfl⟩ := Option.map_eq_some_iff.mp ep
                      obtain ⟨b, rfl, hb, _⟩ := keysOf_at (rv_d rb3) e1
                      have s3 : satG X.mg X.K (Ex W σ) m3 H3 (RV X.K) (match (keysOf d).map (valP kvs) with
                        | some (some v) => .ok v h3
                        | some none => if storeOk k n c = true then .ok c (h3.set n (.dT (putP kvs kk c))) else .bad
                        | none => .bad) Q := s3
                      rw [e1] at s3
                      have s3 : satG X.mg X.K (Ex W σ) m3 H3 (RV X.K) (match some (valP kvs kk) with
                            | some (some v) => .ok v h3
                            | some none => if storeOk k n c = true then .ok c (h3.set n (.dT (putP kvs kk c))) else .bad
                            | none => .bad) Q := s3
                      refine .inr (.inl ⟨_, kk, b, h5, rfl, hb, by rw [Paired.length rp, ← line_eq]; exact hl2, fun v hv => ?_, fun hv => ?_⟩)
                      · rcases val_pair kk rp with ⟨z1, z2⟩ | ⟨v', x', z1, z2, z3⟩
                        · rw [z1] at hv; cases hv
                        · rw [z1] at hv; cases hv
                          rw [z2] at s3
                          exact now rh3 s3 z3
                      · rcases val_pair kk rp with ⟨z1, z2⟩ | ⟨v', x', z1, z2, z3⟩
                        · rw [z2] at s3
                          obtain ⟨_, s3⟩ := satG_if s3
                          exact wr_lst rh3 h4 (nfT h5) (.dT (put_pair kk rc rp)) s3 (rc.evo (rh3.wr h4 (nfT h5)))
                        · rw [z1] at hv; cases hv
                    · cases ep
                | dN kvs =>
                  cases h6 with
                  | dN rp =>
                    have ep : (if kvs.length < line then (keyN d).map fun k => Ob.dN (putP kvs k c) else none) = some ob' := ep
                    split at ep
                    · rename_i hl2
                      obtain ⟨kk, e1, rfl⟩ := Option.map_eq_some_iff.mp ep
                      have rd := rv_d rb3
                      obtain ⟨b, rfl⟩ := keyN_ref e1 rd
                      obtain ⟨ed, hd⟩ := keyN_at e1
                      have s3 : satG X.mg X.K (Ex W σ) m3 H3 (RV X.K) (match (keyN d).map (valP kvs) with
                        | some (some v) => .ok v h3
                        | some none => if storeOk k n c = true then .ok c (h3.set n (.dN (putP kvs kk c))) else .bad
                        | none => .bad) Q := s3
                      rw [e1] at s3
                      have s3 : satG X.mg X.K (Ex W σ) m3 H3 (RV X.K) (match some (valP kvs kk) with
                            | some (some v) => .ok v h3
                            | some none => if storeOk k n c = true then .ok c (h3.set n (.dN (putP kvs kk c))) else .bad
                            | none => .bad) Q := s3
                      have rb' : Rp m3 H3 (.ref b) kk.data := by rw [ed]; exact rd
                      refine .inr (.inr ⟨m3, _, kvs, kk, b, h5, rp, rfl, rb', hd, by rw [rp.len, ← line_eq]; exact hl2, fun v hv => ?_, fun hv => ?_⟩)
                      · rcases rp.val kk with ⟨z1, z2⟩ | ⟨v', x', z1, z2, z3⟩
                        · rw [z1] at hv; cases hv
                        · rw [z1] at hv; cases hv
                          rw [z2] at s3
                          exact now rh3 s3 z3
                      · rcases rp.val kk with ⟨z1, z2⟩ | ⟨v', x', z1, z2, z3⟩
                        · rw [z2] at s3
                          obtain ⟨_, s3⟩ := satG_if s3
                          have nf : ∀ o u, H3 ad ≠ some (.frz o u) := fun o u z => by rw [h5] at z; cases z
                          exact wr_lst rh3 h4 nf (.dN (rp.put hd rb' rc)) s3 (rc.evo (rh3.wr h4 nf))
                        · rw [z1] at hv; cases hv
                    · cases ep
        | _ => exact s3.elim
      | _ => exact s3.elim
def tDUpdX (K : PySem.W.Frag) (td ty : TE) : TE := fun σ H Q => td σ H fun x H1 => ∃ a, x = .ref a ∧ IsX H1 a ∧ ty σ H1 fun y H2 => ∃ (m : Mp) (xs zs : List (NestedKey × Addr × V)) (kvs : List (NestedKey × PV)) (l : Addr) (ps : List Addr), H2 a = some (ND TheW.w a xs) ∧ PN K m H2 xs kvs ∧ y = .ref l ∧ H2 l = some (.lst (ps.map V.ref)) ∧ PairN m H2 ps zs ∧ xs.length + zs.length ≤ sizeLine ∧ Q .non (upd H2 a (ND TheW.w a (mergeN xs zs)))
theorem pe_dupdX {td ty : TE} (hc : X.calm = true) (hu : X.A.units + 64 < cLine) (ww : X.w = TheW.w) (ho : PE X o td) (he : PE X e ty) (m : M1 X o "update" apos e cpos) : PE X (.Call (.Attribute o "update" apos) [e] [] cpos) (tDUpdX X.K td ty) := by
  refine ⟨fun pins s σ H Q I h => ?_⟩
  refine wpAny_Call_method m.base m.few m.line PySem.F.plainAttrs_dict PySem.F.slot_dict_update PySem.F.type_dict_update (thn (ho.run pins s σ H _ I h) fun u s1 ⟨x, H1, I1, rx, a, ex, d, q1⟩ => ?_)
  subst ex
  obtain rfl : u = Value.ref a := rx
  obtain ⟨t1, t2⟩ := isX_at I1 d
  refine ⟨t1, t2, ?_⟩
  rw [m.trees]
  refine Calls.callWith_builtin rfl (Calls.evalArgs_plain (Calls.spliced_cons (thn (he.run pins s1 σ H1 _ I1 q1) fun iv s2 ⟨y, H2, I2, ry, m', xs, zs, kvs, l, ps, ha, rp, ey, hl, hp, hz, q⟩ => Calls.spliced_nil ?_)))
  subst ey
  cases ry
  exact n_upd ww (I2.ok.hd hc) hu I2 ha rp (SqL.of hl) hp hz fun s' I' => ⟨.non, _, I', rfl, q⟩
theorem pairsN_at {K : PySem.W.Frag} {m : Mp} {H : Hp} : ∀ {vs : List V} {ds : List PyData} {more : List (NestedKey × PyData)}, RpA m H vs ds → pairsN ds = some more →
    ∃ (ps : List Addr) (zs : List (NestedKey × Addr × V)), vs = ps.map V.ref ∧ PairN m H ps zs ∧ PN K m H zs (more.map fun kv => (kv.1, .d kv.2))
  | _, _, _, .nil, e => by
    cases e
    exact ⟨[], [], rfl, .nil, .nil⟩
  | _, _, _, .cons (d := d) r t, e => by
    unfold pairsN at e
    split at e
    · rename_i e0; cases e0
    · rename_i k v r' e0
      injection e0 with e1 e2
      subst e1 e2
      obtain ⟨q, e3, e4⟩ := Option.bind_eq_some_iff.mp e
      obtain ⟨more', e5, rfl⟩ := Option.map_eq_some_iff.mp e4
      obtain ⟨ps, zs, rfl, h2, h3⟩ := pairsN_at t e5
      cases r with
      | tup h n ra =>
        cases ra with
        | cons r1 ra =>
          cases ra with
          | cons r2 ra =>
            cases ra
            obtain ⟨b, rfl⟩ := keyN_ref e3 r1
            obtain ⟨ed, hd⟩ := keyN_at e3
            subst ed
            exact ⟨_ :: ps, (q, b, _) :: zs, rfl, .cons ⟨h, r1, hd⟩ h2, .cons ⟨⟨rfl, hd⟩, r1, .d r2⟩ h3⟩
    · cases e
abbrev dupdE (A B : Dn) : Sg → Hs → R PV := fun σ h => (A.e σ h).bind fun l h1 => if isDct h1 l = true then (B.e σ h1).bind fun u h2 => dupdv l u h2 else .bad
theorem e_dupd (hc : X.calm = true) (hu : X.A.units + 64 < cLine) (ww : X.w = TheW.w) (ho : PE X o (tE X W A.e)) (ha : PE X a (tE X W B.e)) (m1 : M1 X o "update" apos a cpos) : PE X (.Call (.Attribute o "update" apos) [a] [] cpos) (tE X W (dupdE A B)) :=
  (pe_dupdX hc hu ww ho ha m1).imp fun σ H Q ⟨m, p, hh, rs, rh, hs⟩ =>
    (tE.bind1 rs rh hs).mono fun x H1 ⟨m1, a, h1, _, rs1, rh1, ra, s1⟩ => by
      obtain ⟨hl, s1⟩ := satG_if s1
      obtain ⟨ad, rfl, isd⟩ := isDct_at rh1 ra hl
      refine ⟨ad, rfl, isd, (tE.bind1 rs1 rh1 s1).mono fun y H2 ⟨m2, b, h2, ev2, rs2, rh2, rb, s2⟩ => ?_⟩
      have ra2 := ra.evo ev2
      cases a with
      | ref n =>
        rcases b with (_|_|_|_|ds|_|_) | _ | _ <;> first | exact s2.elim | skip
        have s2 : satG X.mg X.K (Ex W σ) m2 H2 (RV X.K) (match h2[n]?, pairsN ds with
          | some (.dN kvs), some more => if kvs.length + more.length ≤ line then .ok (.d .none) (h2.set n (.dN (mergeP kvs (more.map fun kv => (kv.1, .d kv.2))))) else .bad
          | _, _ => .bad) Q := s2
        split at s2
        · rename_i kvs more e0 e1
          obtain ⟨hl2, s2⟩ := satG_if s2
          obtain ⟨a', u, h4, h5, h6⟩ := rh2.at_ n _ e0
          cases ra2 with
          | ref hn =>
            rw [h4] at hn; cases hn
            cases h6 with
            | dN rp =>
              obtain ⟨l, vs, rfl, hL, nL, qa⟩ := rv_lst rb
              obtain ⟨ps, zs, rfl, p1, p2⟩ := pairsN_at (K := X.K) qa e1
              have nf : ∀ o u, H2 ad ≠ some (.frz o u) := fun o u z => by rw [h5] at z; cases z
              refine ⟨m2, _, zs, kvs, l, ps, h5, rp, rfl, hL, p1, ?_, wr_lst rh2 h4 nf (.dN (mergeN_PN p2 rp)) s2 (.d .non)⟩
              have e2 := p2.len
              rw [List.length_map] at e2
              rw [rp.len, e2, ← line_eq]
              exact hl2
        · exact s2.elim
      | _ => exact s2.elim
theorem e_dnN (cf : Str → List PV → Hs → R PV) (k : Nat) (ww : X.w = TheW.w) : PE X (.Dict [] [] pos) (tE X W (den cf k .dnN).e) := by
  refine ⟨fun pins s σ H Q I ⟨m, p, hh, rs, rh, hs⟩ => ?_⟩
  have hs : satG X.mg X.K (Ex W σ) m H (RV X.K) (.ok (.ref hh.length) (hh ++ [.dN []])) Q := hs
  have hq := I.hok.fresh (Nat.le_refl s.heap.objs.size)
  have big := I.big
  refine wpAny_Dict_empty ⟨.ref s.heap.objs.size, _, I.laid (a := s.heap.objs.size) (o := ND TheW.w s.heap.objs.size []) (t' := s.toks) (fun _ _ q => Heap.get?_push_of_some _ q) (Nat.le_refl _) ?_, rfl, ?_⟩
  · refine nd_new (ys := []) ww (Nat.zero_le _) (beq_eq_false_iff_ne.mpr (Nat.ne_of_gt big)) .nil (Heap.DictOfH.new _)
  · refine hs _ _ _ (Evo.alloc rh hq) (rh.alloc hq (.dN .nil)) (.ref ?_)
    rw [← rh.len]; simp
theorem e_dnew (cf : Str → List PV → Hs → R PV) (k : Nat) (t : Bool) : PE X (.Dict [] [] pos) (tE X W (den cf k (.dnew t)).e) := by
  cases t with
  | true =>
    exact pe_dnewT.imp fun σ H Q ⟨m, p, hh, rs, rh, hs⟩ q hq => by
      have hs : satG X.mg X.K (Ex W σ) m H (RV X.K) (.ok (.ref hh.length) (hh ++ [.dT []])) Q := hs
      refine hs _ _ _ (Evo.alloc rh hq) (rh.alloc hq (.dT .nil)) (.ref ?_)
      rw [← rh.len]; simp
  | false =>
    exact pe_dnewK.imp fun σ H Q ⟨m, p, hh, rs, rh, hs⟩ q hq => by
      have hs : satG X.mg X.K (Ex W σ) m H (RV X.K) (.ok (.ref hh.length) (hh ++ [.dK []])) Q := hs
      refine hs _ _ _ (Evo.alloc rh hq) (rh.alloc hq (.dK .nil)) (.ref ?_)
      rw [← rh.len]; simp
theorem e_rev {k : Nat} {p1 p2 p3 : Pos} (ha : PE X a (tE X W A.e)) : PE X (.Subscript a (.Slice none none (some (.UnaryOp .USub (.Constant (.int 1) k p1) p2)) p3) pos) (tE X W (one A revv).e) :=
  (pe_revL ha).imp fun σ H Q ⟨m, p, hh, rs, rh, hs⟩ => (tE.bind1 rs rh hs).mono fun x H1 ⟨m1, a, h1, _, rs1, rh1, ra, s1⟩ => by
    have s1 : satG X.mg X.K (Ex W σ) m1 H1 (RV X.K) (match getL h1 a with
      | some xs => mkL false xs.reverse h1
      | none => .bad) Q := s1
    cases e : getL h1 a with
    | none => rw [e] at s1; exact s1.elim
    | some xs =>
      rw [e] at s1
      obtain ⟨ad, vs, rfl, g1, g2⟩ := getL_at rh1 ra e
      exact ⟨ad, vs, rfl, SqL.of g1, fun q hq => newMk rh1 s1 (PairedRev g2) hq⟩
theorem rgD_at {m : Mp} {H : Hp} : ∀ (n : Nat) (lo : Int), RpA m H ((List.range n).map fun i => V.int (lo + (i : Nat))) (rngD lo n)
  | 0, lo => .nil
  | n + 1, lo => by
    have e : (List.range (n + 1)).map (fun i => V.int (lo + (i : Nat))) = V.int lo :: (List.range n).map fun i => V.int (lo + 1 + (i : Nat)) := by
      rw [List.range_succ_eq_map, List.map_cons, List.map_map]
      congr 1
      · simp
      · refine List.map_congr_left fun i _ => ?_
        show V.int (lo + ((i + 1 : Nat) : Int)) = _
        congr 1; omega
    rw [e]
    exact .cons (.int lo) (rgD_at n (lo + 1))
theorem rg_done {K : PySem.W.Frag} {mg : Str → Option Value} {E : Value → Hp → Prop} {m : Mp} {H : Hp} {h : Hs} {tp mt : Bool} {u v : PV} {x y : V} {Q : VK} (rh : RH K m h H) (ru : RV K m H x u) (rv : RV K m H y v) (hs : satG mg K E m H (RV K) (rngv tp mt u v h) Q) :
    ∃ i j, x = .int i ∧ y = .int j ∧ RgOk i j ∧ ∀ q, H q = none → Q (.ref q) (upd H q (if tp = true then .tup (rgV i j) else .lst (rgV i j))) := by
  rcases u with (_|_|i|_|_|_|_) | _ | _ <;> first | exact hs.elim | skip
  rcases v with (_|_|j|_|_|_|_) | _ | _ <;> first | exact hs.elim | skip
  cases rv_int ru
  cases rv_int rv
  unfold rngv at hs
  dsimp only at hs
  obtain ⟨hl, hs⟩ := satG_if hs
  have tl : (line : Int) = 16777216 := rfl
  have tl2 : line = 16777216 := rfl
  refine ⟨i, j, rfl, rfl, ⟨by omega, by omega, by omega, by omega, by omega⟩, fun q hq => ?_⟩
  cases tp with
  | true => exact newTup rh hs (rgD_at _ _) hq
  | false => exact newMk rh hs (rgD_at _ _).rvs hq
theorem e_lsR1 (cf : Str → List PV → Hs → R PV) (k : Nat) (tp mt : Bool) {x : Str} {p p2 pos2 : Pos} (hx : x = if tp = true then "tuple" else "list") (hc : X.calm = true) (hgl : Gl X x) (hml : X.mg x = none) (hg : Gl X "range") (hm : X.mg "range" = none) (ha : PE X a (tE X W A.e)) (na : starEach [a] X.env = (false, eval a X.env) :: starEach [] X.env) :
    PE X (.Call (.Name x p) [.Call (.Name "range" p2) [a] [] pos2] [] pos) (tE X W (two (den cf k (.lit (.int 0))) A (rngv tp mt)).e) := by
  subst hx
  have go : ∀ σ H Q, tE X W (two (den cf k (.lit (.int 0))) A (rngv tp mt)).e σ H Q → tE X W A.e σ H fun x H1 => ∃ n, x = .int n ∧ RgOk 0 n ∧ ∀ q, H1 q = none → Q (.ref q) (upd H1 q (if tp = true then .tup (rgV 0 n) else .lst (rgV 0 n))) := fun σ H Q ⟨m, p, hh, rs, rh, hs⟩ => by
    have hs : satG X.mg X.K (Ex W σ) m H (RV X.K) ((A.e p hh).bind fun y h2 => rngv tp mt (.d (.int 0)) y h2) Q := hs
    refine (tE.bind1 rs rh hs).mono fun x H1 ⟨m1, a, h1, _, rs1, rh1, ra, s1⟩ => ?_
    obtain ⟨i, j, e1, rfl, h2, h3⟩ := rg_done (x := .int 0) rh1 (.d (.int 0)) ra s1
    cases e1
    exact ⟨j, rfl, h2, h3⟩
  cases tp with
  | true => exact (pe_tupRg hc hgl hml (prg_1 hg hm ha na) (by rfl)).imp go
  | false => exact (pe_listRg hc hgl hml (prg_1 hg hm ha na) (by rfl)).imp go
theorem e_lsR2 (tp mt : Bool) {x : Str} {p p2 pos2 : Pos} (hx : x = if tp = true then "tuple" else "list") (hc : X.calm = true) (hgl : Gl X x) (hml : X.mg x = none) (hg : Gl X "range") (hm : X.mg "range" = none) (ha : PE X a (tE X W A.e)) (hb : PE X b (tE X W B.e)) (na : starEach [a, b] X.env = (false, eval a X.env) :: starEach [b] X.env) (nb : starEach [b] X.env = (false, eval b X.env) :: starEach [] X.env) (hp : (backTo pos2 (starEach [b] X.env)).any (·.1) = false) :
    PE X (.Call (.Name x p) [.Call (.Name "range" p2) [a, b] [] pos2] [] pos) (tE X W (two A B (rngv tp mt)).e) := by
  subst hx
  have go : ∀ σ H Q, tE X W (two A B (rngv tp mt)).e σ H Q → tE X W A.e σ H fun x H1 => tE X W B.e σ H1 fun y H2 => ∃ i j, x = .int i ∧ y = .int j ∧ RgOk i j ∧ ∀ q, H2 q = none → Q (.ref q) (upd H2 q (if tp = true then .tup (rgV i j) else .lst (rgV i j))) := fun σ H Q ⟨m, p, hh, rs, rh, hs⟩ =>
    (tE.bind1 rs rh hs).mono fun x H1 ⟨m1, a, h1, _, rs1, rh1, ra, s1⟩ => (tE.bind1 rs1 rh1 s1).mono fun y H2 ⟨m2, b, h2, e2, rs2, rh2, rb, s2⟩ => rg_done rh2 (ra.evo e2) rb s2
  cases tp with
  | true => exact (pe_tupRg hc hgl hml (prg_2 hg hm ha hb na nb hp) (by rfl)).imp go
  | false => exact (pe_listRg hc hgl hml (prg_2 hg hm ha hb na nb hp) (by rfl)).imp go
theorem zip_rp {m : Mp} {H : Hp} : ∀ {vs us : List V} {ds es : List PyData} {ts : List V}, RpA m H vs ds → RpA m H us es → Laid2 H ts (vs.zip us) → (∀ T x y, V.ref T ∈ ts → H T = some (.tup [x, y]) → T ∉ m) → RpA m H ts (zipD ds es)
  | [], _, _, _, _, .nil, _, .nil, _ => .nil
  | _ :: _, [], _, _, _, .cons _ _, .nil, .nil, _ => .nil
  | _ :: _, _ :: _, _, _, _, .cons r t, .cons r2 t2, .cons ⟨T, e, h⟩ l, hn => by
    subst e
    exact .cons (.tup h (hn T _ _ List.mem_cons_self h) (.cons r (.cons r2 .nil))) (zip_rp t t2 l fun T x y q => hn T x y (List.mem_cons_of_mem _ q))
theorem e_lz {p p2 pos2 : Pos} (hc : X.calm = true) (hgl : Gl X "list") (hml : X.mg "list" = none) (hg : Gl X "zip") (hm : X.mg "zip" = none) (ha : PE X a (tE X W A.e)) (hb : PE X b (tE X W B.e)) (na : starEach [a, b] X.env = (false, eval a X.env) :: starEach [b] X.env) (nb : starEach [b] X.env = (false, eval b X.env) :: starEach [] X.env) (hp : (backTo pos2 (starEach [b] X.env)).any (·.1) = false) :
    PE X (.Call (.Name "list" p) [.Call (.Name "zip" p2) [a, b] [] pos2] [] pos) (tE X W (two A B lzv).e) := by
  have go : ∀ σ H Q, tE X W (two A B lzv).e σ H Q → tE X W A.e σ H fun x H1 => tE X W B.e σ H1 fun y H2 => ∃ la lb xs ys, x = V.ref la ∧ y = V.ref lb ∧ H2 la = some (.tup xs) ∧ H2 lb = some (.tup ys) ∧ (xs.zip ys).length ≤ sizeLine ∧
      ∀ H' ts p, H' p = none → H2 p = none → Laid2 H' ts (xs.zip ys) → (∀ q o, H2 q = some o → H' q = some o) → (∀ T, V.ref T ∈ ts → H2 T = none) → Q (.ref p) (upd H' p (.lst ts)) := fun σ H Q ⟨m, p, hh, rs, rh, hs⟩ =>
    (tE.bind1 rs rh hs).mono fun x H1 ⟨m1, a, h1, _, rs1, rh1, ra, s1⟩ => (tE.bind1 rs1 rh1 s1).mono fun y H2 ⟨m2, b, h2, e2, rs2, rh2, rb, s2⟩ => by
      have ra := ra.evo e2
      rcases a with (_|_|_|_|_|xs|_) | _ | _ <;> first | exact s2.elim | skip
      rcases b with (_|_|_|_|_|ys|_) | _ | _ <;> first | exact s2.elim | skip
      unfold lzv at s2
      dsimp only at s2
      obtain ⟨hl, s2⟩ := satG_if s2
      obtain ⟨la, vs, rfl, ea, na, pa⟩ := rv_tup ra
      obtain ⟨lb, us, rfl, eb, nb, pb⟩ := rv_tup rb
      refine ⟨la, lb, vs, us, rfl, rfl, ea, eb, ?_, fun H' ts p hp hp2 ld ext nw => ?_⟩
      · rw [List.length_zip, pa.length, pb.length, ← List.length_zip]; exact hl
      · have ext' : ∀ q o, H2 q = some o → upd H' p (.lst ts) q = some o := fun q o e => by rw [upd_ne (ne_of_none e hp2)]; exact ext q o e
        have ev : Evo m2 H2 m2 (upd H' p (.lst ts)) := ⟨List.prefix_refl _, fun a o n e => ⟨ext' a o e, n⟩, fun a o e n => ⟨ext' a o e, n⟩, fun a o u e => ext' a _ e⟩
        refine s2 _ _ m2 ev (rh2.keep ev fun a ha => ?_) (.d (.lst upd_same (rh2.fresh hp2) (zip_rp (pa.evo ev) (pb.evo ev) (ld.ext fun q o e => by rw [upd_ne (ne_of_none e hp)]; exact e) fun T x y hT _ => rh2.fresh (nw T hT))))
        obtain ⟨o, e⟩ := rh2.tracked ha
        rw [ext' a o e, e]
  refine ⟨fun pins s σ H Q I h => ?_⟩
  refine Call_ (ld_blt I hgl hml boot_list (PyProof.Rows.callWith_type1 (args_cons (Call_ (ld_blt I hg hm boot_zip (PyProof.Rows.callWith_type1 (args_cons (thn (ha.run pins s σ H _ I (go _ _ _ h)) fun v s1 ⟨x, H1, I1, r1, q1⟩ => one_arg hb I1 q1 (fun u s2 y H2 I2 r2 q => ?_) nb) na) na hp))) (by rfl)) (by rfl)))
  obtain ⟨la, lb, xs, ys, rfl, rfl, ea, eb, hl, q⟩ := q
  cases r1
  cases r2
  obtain ⟨ia, ra, p1, _⟩ := I2.tuple (SqT.of ea)
  obtain ⟨ib, rb, p2, _⟩ := I2.tuple (SqT.of eb)
  obtain ⟨o1, ho1, _⟩ := id p1
  obtain ⟨o2, ho2, _⟩ := id p2
  refine RZ.call_zipT (show s2.heap.IsTuple la ia.toArray from p1) (show s2.heap.IsTuple lb ib.toArray from p2) fun h' hz hTI hTO h1 h2 hsz hk => args_nil ?_
  have I3 : Inv X pins σ H2 { s2 with heap := h' } := I2.kept (t' := s2.toks) hk
  have fr : ∀ e, s2.heap.objs.size ≤ e → FpOk X pins H2 e := fun e he => I2.fpOk he (I2.hok.fresh he)
  refine call_list_zip (I2.ok.hd hc) (PySem.W.ktu_apart s2.heap.objs.size la lb (Heap.lt_size ho1) (Heap.lt_size ho2)) hl I3 ea eb hz hTI hTO h1 h2 (fun e he => fr e ?_) fun s' H' ts p J hp ld ext nw hp2 => ⟨.ref p, _, J, rfl, q H' ts p hp hp2 ld ext nw⟩
  simp at he
  rcases he with z | z | z | z <;> rw [z]
  · exact Nat.le_add_right _ _
  · exact Nat.le_add_right _ _
  · exact Nat.le_refl _
  · exact Nat.le_add_right _ _
abbrev idxE (A B : Dn) : Sg → Hs → R PV := fun σ h => (A.e σ h).bind fun l h1 => if isFz l = true then (B.e σ h1).bind fun y h2 => idxv l y h2 else .bad
mutual
theorem Rp.dp {K : PySem.W.Frag} {m : Mp} {H : Hp} : ∀ {v : V} {d : PyData}, Rp m H v d → Dp K H v d
  | _, _, .non => .non
  | _, _, .bl b => .bl b
  | _, _, .int i => .int i
  | _, _, .str x => .str x
  | _, _, .lst h _ r => .lst (SqL.of h) (RpA.dp r)
  | _, _, .tup h _ r => .tup (SqT.of h) (RpA.dp r)
theorem RpA.dp {K : PySem.W.Frag} {m : Mp} {H : Hp} : ∀ {vs : List V} {ds : List PyData}, RpA m H vs ds → DpAll K H vs ds
  | _, _, .nil => .nil
  | _, _, .cons r t => .cons (Rp.dp r) (RpA.dp t)
end
theorem e_idx (hu : X.A.units + 70 < cLine) (ho : PE X o (tE X W A.e)) (he : PE X e (tE X W B.e)) (hbase : attributeBase o "index" X.env (eval o X.env) = eval o X.env)
    (hfew : ((backTo cpos (starEach [e] X.env)).all (fun x => !x.1) && (backToKw cpos (keywordEach [] X.env)).all (fun x => x.1.isSome)
      && decide (([e] : List Expr).length + ([] : List Keyword).length + (if ([] : List Keyword).isEmpty then 0 else 1) < 30)) = true)
    (hline : (apos.endLine == cpos.line) = true) (hst : starEach [e] X.env = (false, eval e X.env) :: starEach [] X.env) : PE X (.Call (.Attribute o "index" apos) [e] [] cpos) (tE X W (idxE A B)) :=
  (pe_bm PySem.F.plainAttrs_list PySem.F.slot_list_index PySem.F.type_list_index (mt_indexD (by omega)) ho (pa_cons he pa_nil hst) hbase hfew hline hst (by rfl)).imp fun σ H Q ⟨m, p, hh, rs, rh, hs⟩ =>
    (tE.bind1 rs rh hs).mono fun x H1 ⟨m1, a, h1, _, rs1, rh1, ra, s1⟩ => by
      obtain ⟨hl, s1⟩ := satG_if s1
      rcases a with (_|_|_|_|ds|_|_) | _ | _ <;> first | (cases hl; done) | skip
      obtain ⟨ad, vs, rfl, e2, _, _⟩ := rv_lst ra
      refine ⟨.inl ⟨rfl, vs, SqL.of e2⟩, (tE.bind1 rs1 rh1 s1).mono fun y H2 ⟨m2, b, h2, ev2, rs2, rh2, rb, s2⟩ => ?_⟩
      rcases b with d | _ | _ <;> first | exact s2.elim | skip
      obtain ⟨hc, s2⟩ := satG_if (show satG X.mg X.K (Ex W σ) m2 H2 (RV X.K) (if (SeqAt.shaped (.list ds) && SeqAt.shaped d) = true then R.of ((ds.findIdx? fun z => PyData.eqv z d).map fun j : Nat => Iw.int j) h2 else .bad) Q from s2)
      obtain ⟨z, e3, s3⟩ := satG_of s2
      obtain ⟨j, e4, rfl⟩ := Option.map_eq_some_iff.mp e3
      obtain ⟨hj, h5, h6⟩ := List.findIdx?_eq_some_iff_getElem.mp e4
      simp only [Bool.and_eq_true] at hc
      refine ⟨ad, y, d, ds, j, ds[j], rfl, rfl, (rv_d (ra.evo ev2)).dp, (rv_d rb).dp, hc.1, hc.2, List.getElem?_eq_getElem hj, h5, fun n z' hn hz => ?_, now rh2 s3 (.d (.int _))⟩
      obtain ⟨q1, q2⟩ := List.getElem?_eq_some_iff.mp hz
      have := h6 n hn
      rw [q2] at this
      simpa using this
end
end Iw
end

section
set_option Elab.async false
set_option linter.all false
set_option maxRecDepth 100000
/-! enumerate over a tuple (a list): the pair's own turn -/
namespace Iw
open PySem PySem.Spec PyProof.Rows L2
variable [TheW]
set_option maxHeartbeats 1000000 in
theorem meets_enum1 {v : Value} {o : Obj} {H : Heap → Prop} (B : Begins v o H) :
    Meets (Builtin.«enumerate.__new__» ⟨[.type "enumerate", v], []⟩) (fun _ R s => H s.heap ∧
      R (.ok (.ret (.ref (s.heap.push o).objs.size))) { s with heap := (s.heap.push o).push { cls := .type "enumerate", data := .fields #[.none, .bool false, .ref s.heap.objs.size, rawInt 0, .none, .none] } }) :=
  .of_wp fun prog w A R s h => by
    obtain ⟨hp, g, d, tk, os⟩ := s; obtain ⟨h1, h⟩ := h
    have hsub := sub_enumerate
    have q1 : ∀ {A' : Around} {E : Value → Shared → Prop} {Q : Value → Shared → Prop}, Q (.ref hp.objs.size) ⟨hp.push o, g, d, tk, os⟩ → wpAny (model prog w) A' (pyIter v) Q E ⟨hp, g, d, tk, os⟩ :=
      fun q => B.iter prog w _ _ ⟨hp, g, d, tk, os⟩ _ h1 q
    wp_walk using q1
    refine wpAny_stack_any fun st => wpAny_pure ?_
    split
    · rename_i c _ _ _ _ _
      cases (c == Value.type "enumerate")
      · wp_walk using q1
        exact ⟨_, rfl, h⟩
      · wp_walk using q1
        exact ⟨_, rfl, h⟩
    · wp_walk using q1
      exact ⟨_, rfl, h⟩
theorem call_enum1 {prog : Program} {w : World} {A : Around} {E : Value → Shared → Prop} {s : Shared} {v : Value} {o : Obj} {H : Heap → Prop} {Q : Value → Shared → Prop} (B : Begins v o H) (h1 : H s.heap)
    (h : ∀ h', IsEnum h' (s.heap.objs.size + 1) s.heap.objs.size 0 .none → h'.get? s.heap.objs.size = some o → h'.objs.size = s.heap.objs.size + 2 →
      (∀ b o, s.heap.get? b = some o → h'.get? b = some o) → Q (.ref (s.heap.objs.size + 1)) { s with heap := h' }) :
    wpAny (model prog w) A (call (.type "enumerate") [v]) Q E s := by
  refine callType_new F.called_enumerate (by decide) (F.typeCall_enumerate_1 _) (F.newCall_enumerate_1 _) (fun obj => F.args_object_init_2 obj _) F.entry_enumerate_new
    (meets_enum1 B) ⟨h1, ?_⟩
  have hz : (s.heap.push o).objs.size = s.heap.objs.size + 1 := Heap.size_push ..
  show _ ∧ _
  rw [hz]
  have he : IsEnum ((s.heap.push o).push { cls := .type "enumerate", data := .fields #[.none, .bool false, .ref s.heap.objs.size, rawInt 0, .none, .none] }) (s.heap.objs.size + 1) s.heap.objs.size 0 .none := by
    have := Heap.get?_push_size (s.heap.push o) (o := { cls := .type "enumerate", data := .fields #[.none, .bool false, .ref s.heap.objs.size, rawInt 0, .none, .none] }) rfl
    rw [hz] at this; exact this
  refine ⟨⟨_, he, rfl⟩, h _ he (Heap.get?_push_of_some _ (Heap.get?_push_size _ B.free)) (by rw [Heap.size_push, hz]) fun b o x => Heap.get?_push_of_some _ (Heap.get?_push_of_some _ x)⟩
theorem wpAny_pyNext_enum_endT {prog : Program} {w : World} {A : Around} {E : Value → Shared → Prop} {s : Shared} {e it a : Addr} {j : Nat} {items : Array Value} {i : Int} {old : Value} {Q : Option Value → Shared → Prop}
    (hh : A.handled = none) (he : IsEnum s.heap e it i old) (hit : s.heap.IsTupleIter it a j) (ht : s.heap.IsTuple a items) (hx : items[j]? = none)
    (hQ : ∀ h', Heap.ExtBut it s.heap h' → Q none { s with heap := h' }) : wpAny (model prog w) A (pyNext (.ref e)) Q E s := by
  have hT : s.TypeIs (.ref e) "enumerate" := ⟨_, he, rfl⟩
  unfold pyNext
  refine wpAny_bind (wpAny_attempt (wpAny_callSpecial?_slot (name := Str.ofString "__next__") hT F.slot_enumerate_next
    (wpAny_call_entry F.slot_enumerate_next hT F.entry_enumerate_next ?_ (F.args_enumerate_next_1 _))))
  show wpAny _ _ (field (.ref e) 2 >>= _) _ _ _
  refine wpAny_bind (wpAny_field he rfl (x := .ref it) rfl ?_)
  refine wpAny_bind (wpAny_nextOf_tuple_end hh hit ht hx fun h' x he' hx' => ?_)
  obtain ⟨o, ho, hc⟩ := hx'
  refine wpAny_bind (wpAny_isInstance (T := "StopIteration") (b := true) ⟨o, ho, hc⟩ isSubtype_stop ?_)
  exact wpAny_pure (hQ _ he')
/-- the tuple at a, each item in a new pair -/
def IteT (K : PySem.W.Frag) (a : Addr) : L2.It :=
  ⟨fun i H => ∃ (xs : List V) (x : V), SqT K H a xs ∧ xs[i]? = some x, fun i H v H' => ∃ T x, v = .ref T ∧ H T = none ∧ H' = upd H T (.tup [.int (i : Nat), x]) ∧ ∀ xs, SqT K H a xs → xs[i]? = some x, fun i H => ∃ xs : List V, SqT K H a xs ∧ xs.length ≤ i⟩
theorem turn_enumT {P : Program} {w : World} {K : PySem.W.Frag} {elts : List Expr} {kk : Nat} {tpos : Pos} (a e it : Addr) (hea : e ≠ a) (hai : a ≠ it) :
    Turn P w K (.Tuple elts kk tpos) (IteT K a) [e, it] e (fun i h => (∃ old, IsEnum h e it ((i : Nat) : Int) old) ∧ h.IsTupleIter it a i ∧ e ≠ it) where
  mem := by simp
  obj := fun i h st b hb => by
    obtain ⟨⟨old, he⟩, ⟨o, ho, hc, hd⟩, _⟩ := st
    have e' : b = e ∨ b = it := by simpa using hb
    rcases e' with z | z
    · rw [z]; exact ⟨_, he, fun v q => nomatch q⟩
    · rw [z]; exact ⟨o, ho, fun v q => by rw [hd] at q; cases q⟩
  keep := fun i h h' st k => let ⟨⟨old, he⟩, hi, hne⟩ := st; ⟨⟨old, k e (by simp) _ he⟩, hi.at fun o q => k it (by simp) o q, hne⟩
  item := by
    intro X hP hw hK hc i pins s σ H E I hf st hg
    subst hP hw hK
    obtain ⟨⟨old, he⟩, hit, hne⟩ := st
    obtain ⟨xs, x, hq, hx⟩ := hg
    obtain ⟨its, rv, p, hz⟩ := I.tuple hq
    obtain ⟨u, hu, ru⟩ := rv.get hx
    have hel : e < s.heap.objs.size := Heap.lt_size he
    have hil : it < s.heap.objs.size := by obtain ⟨_, q, _⟩ := hit; exact Heap.lt_size q
    have hil2 : i < its.length := (List.getElem?_eq_some_iff.mp hu).1
    have D : Draws X.prog X.w X.A.in1 it [it, a] its.toArray.size (fun i v => its.toArray[i]? = some v) (fun i h => h.IsTupleIter it a i ∧ h.IsTuple a its.toArray) := Draws.tuple (A := X.A.in1) (show X.A.handled = none from I.ok.hd hc) it a hai its.toArray
    have hst0 : (fun i h => Heap.IsTupleIter h it a i ∧ Heap.IsTuple h a its.toArray) i s.heap := ⟨hit, p⟩
    refine wpAny_pyNext_enum_itemD D he hst0 (by simpa using hil2) hne (by simp [hne, hea]) fun y h' tk hy ho hst' hT hsz hk => ?_
    have hy : its.toArray[i]? = some y := hy
    have : y = u := by
      have z : its[i]? = some y := by simpa using hy
      rw [hu] at z; exact (Option.some.inj z).symm
    subst this
    have hit' : h'.IsTupleIter it a (i + 1) := hst'.1
    refine ⟨_, rfl, wpAny_letOwnedTupleGo_enum (s := { s with heap := h', toks := tk + 1 }) ho fun h'' he' sb => ?_⟩
    have hT2 : h''.get? s.heap.objs.size = some { cls := .type "tuple", data := .seq #[.int i tk, y] } := (sb.2 _ (Nat.ne_of_gt hel)).trans hT
    have new : ObjOk X.prog X.w (upd H s.heap.objs.size (.tup [.int (i : Nat), x])) h'' s.heap.objs.size (.tup [.int (i : Nat), x]) :=
      ⟨by show 2 ≤ sizeLine; decide, [.int i tk, y], .cons ⟨_, rfl⟩ (.cons ru .nil), ⟨_, hT2, rfl, _, rfl⟩⟩
    have I1 : Inv X pins σ (upd H s.heap.objs.size (.tup [.int (i : Nat), x])) { s with heap := h'', toks := tk + 1 } :=
      I.turnedNew (ch := [e, it]) (fun b ob hb q => (sb.2 b (fun z => hb (by simp [z]))).trans (hk b ob (fun z => hb (by simp [z])) (fun z => hb (by simp [z])) q)) hf (Nat.le_refl _) new
    refine ⟨.ref s.heap.objs.size, _, I1, rfl, ⟨_, x, rfl, I.hok.fresh (Nat.le_refl _), rfl, fun ys hy => by rw [I.tuple_inj hy hq]; exact hx⟩, ⟨⟨y, ?_⟩, hit'.at fun o q => (sb.2 it (Ne.symm hne)).trans q, hne⟩, fun b hb => ?_⟩
    · have e1 : ((i + 1 : Nat) : Int) = (i : Int) + 1 := by omega
      rw [e1]; exact he'
    · have hb' : b < s.heap.objs.size := by
        have e' : b = e ∨ b = it := by simpa using hb
        rcases e' with z | z
        · rw [z]; exact hel
        · rw [z]; exact hil
      rw [upd_ne (Nat.ne_of_lt hb')]
      exact (hf b hb).1
  done := by
    intro X hP hw hK hc i pins s σ H E I hf st hg
    subst hP hw hK
    obtain ⟨⟨old, he⟩, hit, hne⟩ := st
    obtain ⟨xs, hq, hx⟩ := hg
    obtain ⟨its, rv, p, hz⟩ := I.tuple hq
    obtain ⟨f0, f1, f2, f3, f4, f5⟩ := hf it (by simp)
    have hl := rv.length
    refine wpAny_pyNext_enum_endT (I.ok.hd hc) he hit p (by simp; omega) fun h' eb => ⟨rfl, I.turned (t' := s.toks) (fun b o hb q => eb b o hb q) f0 f1 f3 f4 f5⟩
  self := fun A i s Q E st h => let ⟨⟨_, he⟩, _⟩ := st; wpAny_pyIter_enum he h
def iEnumA (K : PySem.W.Frag) (ta : TA) : TI := fun σ H R => ta σ H fun vs H1 => ∃ a xs, vs = [.ref a] ∧ ((SqL K H1 a xs ∧ R (Ite K a) H1) ∨ (SqT K H1 a xs ∧ R (IteT K a) H1))
theorem pi_enumA {X : Cx} {e : Expr} {ta : TA} {p pos tpos : Pos} {elts : List Expr} {kk : Nat} (hg : Gl X "enumerate") (hm : X.mg "enumerate" = none) (ha : PA X [e] ta) (hs : starEach [e] X.env = [(false, eval e X.env)] := by rfl) :
    PI X (.Tuple elts kk tpos) (.Call (.Name "enumerate" p) [e] [] pos) (iEnumA X.K ta) := by
  refine ⟨fun pins s σ H R I h => ?_⟩
  refine Call_ (ld_blt I hg hm boot_enumerate (PyProof.Rows.callWith_type1 (thn (ha.run pos pins s σ H _ I h) fun us s1 ⟨vs, H1, I1, r1, q1⟩ => ?_) hs rfl))
  obtain ⟨a, xs, ex, q⟩ := q1
  subst ex
  cases r1 with
  | cons r rr =>
    cases rr
    cases r
    have fp : ∀ b ∈ [s1.heap.objs.size + 1, s1.heap.objs.size], FpOk X pins H1 b := fun b hb => by
      have e' : b = s1.heap.objs.size + 1 ∨ b = s1.heap.objs.size := by simpa using hb
      have hle : s1.heap.objs.size ≤ b := by
        rcases e' with z | z
        · rw [z]; exact Nat.le_add_right _ _
        · rw [z]; exact Nat.le_refl _
      exact I1.fpOk hle (I1.hok.fresh hle)
    rcases q with ⟨hq, q⟩ | ⟨hq, q⟩
    · obtain ⟨its, rv, p', hz⟩ := I1.list hq
      refine call_enumerate_list p'.isList fun h' he hit hsz hk => wpAny_pyIter_enum he ?_
      have I2 : Inv X pins σ H1 { s1 with heap := h' } := I1.kept (t' := s1.toks) hk
      exact ⟨s1.heap.objs.size + 1, [s1.heap.objs.size + 1, s1.heap.objs.size], _, _, H1, rfl, I2, turn_enum a (s1.heap.objs.size + 1) s1.heap.objs.size, ⟨⟨.none, he⟩, hit, Nat.succ_ne_self _⟩, fp, q⟩
    · obtain ⟨its, rv, p', hz⟩ := I1.tuple hq
      have al : a < s1.heap.objs.size := p'.lt
      refine call_enum1 (begins_tuple a its.toArray) (show s1.heap.IsTuple a its.toArray from p') fun h' he hit hsz hk => wpAny_pyIter_enum he ?_
      have I2 : Inv X pins σ H1 { s1 with heap := h' } := I1.kept (t' := s1.toks) hk
      exact ⟨s1.heap.objs.size + 1, [s1.heap.objs.size + 1, s1.heap.objs.size], _, _, H1, rfl, I2, turn_enumT a (s1.heap.objs.size + 1) s1.heap.objs.size (Nat.ne_of_gt (Nat.lt_succ_of_lt al)) (Nat.ne_of_lt al), ⟨⟨.none, he⟩, ⟨_, hit, rfl, rfl⟩, Nat.succ_ne_self _⟩, fp, q⟩
theorem walk_enumT {K : PySem.W.Frag} {a : Addr} {xs : List V} : Walk (IteT K a) xs.length (fun H => SqT K H a xs) (YPair (fun i => some (.int (i : Nat))) (fun i => xs[i]?)) := by
  refine ⟨fun i _ hi q => ⟨xs, xs[i], q, by simp [hi]⟩, fun _ q => ⟨xs, q, Nat.le_refl _⟩, fun i H v H' _ q y => ?_⟩
  obtain ⟨T, x, h1, h2, h3, h4⟩ := y
  exact ⟨T, .int (i : Nat), x, h1, h2, h3, rfl, h4 xs q⟩
end Iw
end

section
set_option Elab.async false
set_option linter.all false
set_option maxRecDepth 100000
/-! what is walked -/
namespace Iw
open PySem PySem.Spec PyProof.Rows L2
variable [TheW]
/-- J gives just xs, from here on -/
structure Serves (K : PySem.W.Frag) (m : Mp) (H : Hp) (J : L2.It) (xs : List PV) : Prop where
  goes : ∀ i m' H', Evo m H m' H' → i < xs.length → J.go i H'
  stops : ∀ m' H', Evo m H m' H' → J.stop xs.length H'
  yields : ∀ i m' H' h' v H'', Evo m H m' H' → RH K m' h' H' → J.yld i H' v H'' → i < xs.length → ∃ x, xs[i]? = some x ∧ Evo m' H' m' H'' ∧ RH K m' h' H'' ∧ RV K m' H'' v x
def itRel (K : PySem.W.Frag) (m : Mp) (H : Hp) (J : L2.It) : Iw.It → Prop
  | .fx xs => Serves K m H J xs
  | .lv n => ∃ a, m.own[n]? = some a ∧ J = Itl K a
  | .ld n => ∃ a o vs, m.own[n]? = some a ∧ H a = some (.frz o (.dT vs)) ∧ J = Itkt a o vs
section
variable {K : PySem.W.Frag} {m : Mp} {H : Hp} {h : Hs}
theorem Serves.list {a : Addr} {vs : List V} {ds : List PyData} (ha : H a = some (.lst vs)) (n : a ∉ m) (r : RpA m H vs ds) : Serves K m H (Itl K a) (ds.map .d) := by
  have hl : (ds.map PV.d).length = vs.length := by rw [List.length_map, r.length]
  refine ⟨fun i m' H' e hi => ⟨vs, vs[i]'(by omega), SqL.of (e.kp _ _ ha n).1, by simp⟩, fun m' H' e => ⟨vs, SqL.of (e.kp _ _ ha n).1, by omega⟩, fun i m' H' h' v H'' e rh y hi => ?_⟩
  obtain ⟨rfl, y⟩ := y
  have e1 := y vs (SqL.of (e.kp _ _ ha n).1)
  have hd : ds[i]? = some (ds[i]'(by simpa using hi)) := by simp
  obtain ⟨w, e2, rw1⟩ := (r.evo e).get hd
  rw [e1] at e2; cases e2
  exact ⟨_, by rw [List.getElem?_map, hd]; rfl, .refl, rh, .d rw1⟩
theorem Serves.tup {a : Addr} {vs : List V} {ds : List PyData} (ha : H a = some (.tup vs)) (n : a ∉ m) (r : RpA m H vs ds) : Serves K m H (Itt K a) (ds.map .d) := by
  have hl : (ds.map PV.d).length = vs.length := by rw [List.length_map, r.length]
  refine ⟨fun i m' H' e hi => ⟨vs, vs[i]'(by omega), SqT.of (e.kp _ _ ha n).1, by simp⟩, fun m' H' e => ⟨vs, SqT.of (e.kp _ _ ha n).1, by omega⟩, fun i m' H' h' v H'' e rh y hi => ?_⟩
  obtain ⟨rfl, y⟩ := y
  have e1 := y vs (SqT.of (e.kp _ _ ha n).1)
  have hd : ds[i]? = some (ds[i]'(by simpa using hi)) := by simp
  obtain ⟨w, e2, rw1⟩ := (r.evo e).get hd
  rw [e1] at e2; cases e2
  exact ⟨_, by rw [List.getElem?_map, hd]; rfl, .refl, rh, .d rw1⟩
theorem Serves.scr {a : Addr} {ns : List Int} (sc : Scr K m H a (ns.map V.int)) : Serves K m H (Itl K a) (ns.map Iw.int) := by
  refine ⟨fun i m' H' e hi => ⟨_, .int (ns[i]'(by simpa using hi)), (sc.evo e).sq, by simp [List.getElem?_eq_getElem (show i < ns.length by simpa using hi)]⟩, fun m' H' e => ⟨_, (sc.evo e).sq, by simp⟩, fun i m' H' h' v H'' e rh y hi => ?_⟩
  obtain ⟨rfl, y⟩ := y
  have e1 := y _ (sc.evo e).sq
  have hi : i < ns.length := by simpa using hi
  rw [List.getElem?_map, List.getElem?_eq_getElem hi] at e1
  cases e1
  exact ⟨.d (.int ns[i]), by rw [List.getElem?_map, List.getElem?_eq_getElem hi]; rfl, .refl, rh, .d (.int _)⟩
theorem rngL_len : ∀ (n : Nat) (lo : Int), (rngL lo n).length = n
  | 0, _ => rfl
  | n + 1, lo => congrArg (· + 1) (rngL_len n (lo + 1))
theorem rngL_get : ∀ (n : Nat) (lo : Int) (i : Nat), i < n → (rngL lo n)[i]? = some (Iw.int (lo + i))
  | 0, _, _, h => absurd h (Nat.not_lt_zero _)
  | n + 1, lo, 0, _ => by simp [rngL]
  | n + 1, lo, i + 1, h => by
    show (rngL (lo + 1) n)[i]? = _
    rw [rngL_get n (lo + 1) i (by omega), show lo + 1 + (i : Int) = lo + ((i + 1 : Nat) : Int) by omega]
theorem Serves.rng (lo : Int) (n : Nat) : Serves K m H (Itr lo n) (rngL lo n) :=
  ⟨fun i m' H' e hi => by rw [rngL_len] at hi; exact hi, fun m' H' e => by rw [rngL_len]; exact Nat.le_refl n, fun i m' H' h' v H'' e rh y hi => by
    rw [rngL_len] at hi
    obtain ⟨rfl, rfl⟩ := y
    exact ⟨_, rngL_get n lo i hi, .refl, rh, .d (.int _)⟩⟩
theorem pairs_len : ∀ xs ys : List PyData, (pairs xs ys).length = min xs.length ys.length
  | [], _ => by simp [pairs]
  | _ :: _, [] => by simp [pairs]
  | x :: xs, y :: ys => by simp only [pairs, List.length_cons, pairs_len xs ys]; omega
theorem pairs_get : ∀ (xs ys : List PyData) (i : Nat) (x y : PyData), xs[i]? = some x → ys[i]? = some y → (pairs xs ys)[i]? = some (.d (.tuple [x, y]))
  | [], _, _, _, _, e, _ => by simp at e
  | _ :: _, [], _, _, _, _, e => by simp at e
  | a :: xs, b :: ys, 0, x, y, e1, e2 => by
    simp at e1 e2
    subst e1 e2
    rfl
  | a :: xs, b :: ys, i + 1, x, y, e1, e2 => by
    show (pairs xs ys)[i]? = _
    exact pairs_get xs ys i x y (by simpa using e1) (by simpa using e2)
theorem new_pair {m' : Mp} {H' : Hp} {h' : Hs} {T : Addr} {x y : V} {dx dy : PyData} (rh : RH K m' h' H') (hT : H' T = none) (rx : Rp m' H' x dx) (ry : Rp m' H' y dy) : Evo m' H' m' (upd H' T (.tup [x, y])) ∧ RH K m' h' (upd H' T (.tup [x, y])) ∧ RV K m' (upd H' T (.tup [x, y])) (.ref T) (.d (.tuple [dx, dy])) := by
  have ev : Evo m' H' m' (upd H' T (.tup [x, y])) := Evo.new rh hT
  exact ⟨ev, rh.new hT, .d (.tup upd_same (rh.fresh hT) (.cons (rx.evo ev) (.cons (ry.evo ev) .nil)))⟩
theorem Serves.zipL {a b : Addr} {xs ys : List V} {ds es : List PyData} (ha : H a = some (.lst xs)) (na : a ∉ m) (ra : RpA m H xs ds) (hb : H b = some (.lst ys)) (nb : b ∉ m) (rb : RpA m H ys es) : Serves K m H (Itz K a b) (pairs ds es) := by
  have l1 := ra.length
  have l2 := rb.length
  refine ⟨fun i m' H' e hi => ?_, fun m' H' e => ?_, fun i m' H' h' v H'' e rh y hi => ?_⟩
  · rw [pairs_len] at hi
    exact ⟨xs, ys, xs[i]'(by omega), ys[i]'(by omega), SqL.of (e.kp _ _ ha na).1, SqL.of (e.kp _ _ hb nb).1, by simp, by simp⟩
  · rw [pairs_len]
    exact ⟨xs, ys, SqL.of (e.kp _ _ ha na).1, SqL.of (e.kp _ _ hb nb).1, by omega⟩
  · rw [pairs_len] at hi
    obtain ⟨T, x, z, rfl, h2, rfl, h4, h5⟩ := y
    have e4 := h4 xs (SqL.of (e.kp _ _ ha na).1)
    have e5 := h5 ys (SqL.of (e.kp _ _ hb nb).1)
    have hd1 : ds[i]? = some (ds[i]'(by omega)) := by simp
    have hd2 : es[i]? = some (es[i]'(by omega)) := by simp
    obtain ⟨w1, q1, r1⟩ := (ra.evo e).get hd1
    obtain ⟨w2, q2, r2⟩ := (rb.evo e).get hd2
    rw [e4] at q1; cases q1
    rw [e5] at q2; cases q2
    exact ⟨_, pairs_get ds es i _ _ hd1 hd2, new_pair rh h2 r1 r2⟩
theorem Serves.zipT {a b : Addr} {xs ys : List V} {ds es : List PyData} (ha : H a = some (.tup xs)) (na : a ∉ m) (ra : RpA m H xs ds) (hb : H b = some (.tup ys)) (nb : b ∉ m) (rb : RpA m H ys es) : Serves K m H (RZ.ItzT K a b) (pairs ds es) := by
  have l1 := ra.length
  have l2 := rb.length
  refine ⟨fun i m' H' e hi => ?_, fun m' H' e => ?_, fun i m' H' h' v H'' e rh y hi => ?_⟩
  · rw [pairs_len] at hi
    exact ⟨xs, ys, xs[i]'(by omega), ys[i]'(by omega), SqT.of (e.kp _ _ ha na).1, SqT.of (e.kp _ _ hb nb).1, by simp, by simp⟩
  · rw [pairs_len]
    exact ⟨xs, ys, SqT.of (e.kp _ _ ha na).1, SqT.of (e.kp _ _ hb nb).1, by omega⟩
  · rw [pairs_len] at hi
    obtain ⟨T, x, z, rfl, h2, rfl, h4, h5⟩ := y
    have e4 := h4 xs (SqT.of (e.kp _ _ ha na).1)
    have e5 := h5 ys (SqT.of (e.kp _ _ hb nb).1)
    have hd1 : ds[i]? = some (ds[i]'(by omega)) := by simp
    have hd2 : es[i]? = some (es[i]'(by omega)) := by simp
    obtain ⟨w1, q1, r1⟩ := (ra.evo e).get hd1
    obtain ⟨w2, q2, r2⟩ := (rb.evo e).get hd2
    rw [e4] at q1; cases q1
    rw [e5] at q2; cases q2
    exact ⟨_, pairs_get ds es i _ _ hd1 hd2, new_pair rh h2 r1 r2⟩
theorem enums_len : ∀ (xs : List PyData) (n : Nat), (enums n xs).length = xs.length
  | [], _ => rfl
  | _ :: xs, n => congrArg (· + 1) (enums_len xs (n + 1))
theorem enums_get : ∀ (xs : List PyData) (n i : Nat) (x : PyData), xs[i]? = some x → (enums n xs)[i]? = some (.d (.tuple [.int ((n + i : Nat) : Int), x]))
  | [], _, _, _, e => by simp at e
  | a :: xs, n, 0, x, e => by simp at e; subst e; rfl
  | a :: xs, n, i + 1, x, e => by
    show (enums (n + 1) xs)[i]? = _
    rw [enums_get xs (n + 1) i x (by simpa using e), show n + 1 + i = n + (i + 1) by omega]
theorem Serves.enL {a : Addr} {xs : List V} {ds : List PyData} (ha : H a = some (.lst xs)) (na : a ∉ m) (ra : RpA m H xs ds) : Serves K m H (Ite K a) (enums 0 ds) := by
  have l1 := ra.length
  refine ⟨fun i m' H' e hi => ?_, fun m' H' e => ?_, fun i m' H' h' v H'' e rh y hi => ?_⟩
  · rw [enums_len] at hi
    exact ⟨xs, xs[i]'(by omega), SqL.of (e.kp _ _ ha na).1, by simp⟩
  · rw [enums_len]
    exact ⟨xs, SqL.of (e.kp _ _ ha na).1, by omega⟩
  · rw [enums_len] at hi
    obtain ⟨T, x, rfl, h2, rfl, h4⟩ := y
    have e4 := h4 xs (SqL.of (e.kp _ _ ha na).1)
    have hd1 : ds[i]? = some (ds[i]'(by omega)) := by simp
    obtain ⟨w1, q1, r1⟩ := (ra.evo e).get hd1
    rw [e4] at q1; cases q1
    refine ⟨_, enums_get ds 0 i _ hd1, ?_⟩
    rw [Nat.zero_add]
    exact new_pair rh h2 (.int _) r1
theorem Serves.enT {a : Addr} {xs : List V} {ds : List PyData} (ha : H a = some (.tup xs)) (na : a ∉ m) (ra : RpA m H xs ds) : Serves K m H (IteT K a) (enums 0 ds) := by
  have l1 := ra.length
  refine ⟨fun i m' H' e hi => ?_, fun m' H' e => ?_, fun i m' H' h' v H'' e rh y hi => ?_⟩
  · rw [enums_len] at hi
    exact ⟨xs, xs[i]'(by omega), SqT.of (e.kp _ _ ha na).1, by simp⟩
  · rw [enums_len]
    exact ⟨xs, SqT.of (e.kp _ _ ha na).1, by omega⟩
  · rw [enums_len] at hi
    obtain ⟨T, x, rfl, h2, rfl, h4⟩ := y
    have e4 := h4 xs (SqT.of (e.kp _ _ ha na).1)
    have hd1 : ds[i]? = some (ds[i]'(by omega)) := by simp
    obtain ⟨w1, q1, r1⟩ := (ra.evo e).get hd1
    rw [e4] at q1; cases q1
    refine ⟨_, enums_get ds 0 i _ hd1, ?_⟩
    rw [Nat.zero_add]
    exact new_pair rh h2 (.int _) r1
/-! ### a locked dict's rows -/
theorem keys_rp (ks : List Key) : RpA m H (ks.map kV) (ks.map keyD) := by
  induction ks with
  | nil => exact .nil
  | cons k ks ih =>
    refine .cons ?_ ih
    cases k with
    | inl i => exact .int i
    | inr x => exact .str x
abbrev Rows (K : PySem.W.Frag) (m : Mp) (H : Hp) : List (V × V) → List (PyData × PV) → Prop := Paired fun (w : V × V) (r : PyData × PV) => Rp m H w.1 r.1 ∧ RV K m H w.2 r.2
theorem rows_at (rh : RH K m h H) {n : Nat} {ob : Ob} {rs : List (PyData × PV)} (e : h[n]? = some ob) (er : rowsO ob = some rs) : ∃ a od, m.own[n]? = some a ∧ ∀ G : HO → List (V × V) → Prop, (∀ u ws, H a = some (.frz od u) → Rows K m H ws rs → G u ws) → DW H a od G := by
  obtain ⟨a, w, h1, h2, h3⟩ := rh.at_ n _ e
  cases h3 with
  | lst _ => cases er
  | dK _ => cases er
  | dT _ => cases er
  | dN _ => cases er
  | dTl r =>
    rename_i od vs kvs
    have er : some (kvs.map fun kv => (PyData.tuple (kv.1.map keyD), kv.2)) = some rs := er
    cases er
    refine ⟨a, od, h1, fun G g => .inl ⟨_, h2, fun bs pb => g _ _ h2 ?_⟩⟩
    clear h2 e g er
    induction r generalizing bs with
    | nil => cases pb; exact .nil
    | @cons p q ps qs hq t ih =>
      cases pb with
      | cons hb tb =>
        refine .cons ⟨?_, hq.2⟩ (ih _ tb)
        show Rp m H (V.ref _) (PyData.tuple (q.1.map keyD))
        rw [← hq.1]
        exact .tup hb (rh.tup hb) (keys_rp _)
  | dNl r =>
    rename_i od vs kvs
    have er : some (kvs.map fun kv => (kv.1.data, kv.2)) = some rs := er
    cases er
    refine ⟨a, od, h1, fun G g => .inr ⟨_, h2, g _ _ h2 ?_⟩⟩
    clear h2 e g er
    induction r with
    | nil => exact .nil
    | @cons p q ps qs hq t ih =>
      refine .cons ⟨?_, hq.2.2⟩ ih
      show Rp m H (V.ref _) q.1.data
      rw [← hq.1.1]
      exact hq.2.1
theorem rowsV_get {kd : Nat} : ∀ {rs : List (PyData × PV)} {xs : List PV}, rowsV kd rs = some xs → xs.length = rs.length ∧ ∀ (i : Nat) (r : PyData × PV), rs[i]? = some r → ∃ x, xs[i]? = some x ∧ rowV kd r = some x
  | [], _, e => by cases e; exact ⟨rfl, fun i r e => by simp at e⟩
  | r :: rs, xs, e => by
    obtain ⟨v, e1, e2⟩ := Option.bind_eq_some_iff.mp (show (rowV kd r).bind (fun v => (rowsV kd rs).map (v :: ·)) = some xs from e)
    obtain ⟨xs', e3, rfl⟩ := Option.map_eq_some_iff.mp e2
    obtain ⟨h1, h2⟩ := rowsV_get e3
    refine ⟨congrArg (· + 1) h1, fun i r' e => ?_⟩
    cases i with
    | zero =>
      have e : r = r' := Option.some.inj e
      subst e
      exact ⟨v, rfl, e1⟩
    | succ i => exact h2 i r' (by simpa using e)
theorem Rows.evo {ws : List (V × V)} {rs : List (PyData × PV)} {m' : Mp} {H' : Hp} (r : Rows K m H ws rs) (e : Evo m H m' H') : Rows K m' H' ws rs := Paired.mono (fun _ _ z => ⟨z.1.evo e, z.2.evo e⟩) r
theorem row_at {ws : List (V × V)} {rs : List (PyData × PV)} {xs : List PV} {kd i : Nat} (r : Rows K m H ws rs) (e : rowsV kd rs = some xs) (hi : i < xs.length) : ∃ w p x, ws[i]? = some w ∧ xs[i]? = some x ∧ rowV kd p = some x ∧ Rp m H w.1 p.1 ∧ RV K m H w.2 p.2 := by
  obtain ⟨h1, h2⟩ := rowsV_get e
  have hr : rs[i]? = some (rs[i]'(by omega)) := by simp
  obtain ⟨x, e1, e2⟩ := h2 i _ hr
  obtain ⟨w, e3, h3, h4⟩ := PairedGet r hr
  exact ⟨w, _, x, e3, e1, e2, h3, h4⟩
theorem serves_w0 {d : Addr} {od : Obj} {u : HO} {ws : List (V × V)} {rs : List (PyData × PV)} {xs : List PV} (hd : H d = some (.frz od u)) (r : Rows K m H ws rs) (e : rowsV 0 rs = some xs) : Serves K m H (ItW0 d od u ws) xs := by
  have hl : xs.length = ws.length := by rw [(rowsV_get e).1, Paired.length r]
  refine ⟨fun i m' H' ev hi => ⟨ev.fz _ _ _ hd, by omega⟩, fun m' H' ev => ⟨ev.fz _ _ _ hd, by omega⟩, fun i m' H' h' v H'' ev rh y hi => ?_⟩
  obtain ⟨rfl, v', y⟩ := y
  obtain ⟨w, p, x, e1, e2, e3, h3, h4⟩ := row_at (r.evo ev) e hi
  rw [y] at e1; cases e1
  cases e3
  exact ⟨_, e2, .refl, rh, .d h3⟩
theorem serves_w1 {d : Addr} {od : Obj} {u : HO} {ws : List (V × V)} {rs : List (PyData × PV)} {xs : List PV} (hd : H d = some (.frz od u)) (r : Rows K m H ws rs) (e : rowsV 1 rs = some xs) : Serves K m H (ItW1 d od u ws) xs := by
  have hl : xs.length = ws.length := by rw [(rowsV_get e).1, Paired.length r]
  refine ⟨fun i m' H' ev hi => ⟨ev.fz _ _ _ hd, by omega⟩, fun m' H' ev => ⟨ev.fz _ _ _ hd, by omega⟩, fun i m' H' h' v H'' ev rh y hi => ?_⟩
  obtain ⟨rfl, v', y⟩ := y
  obtain ⟨w, p, x, e1, e2, e3, h3, h4⟩ := row_at (r.evo ev) e hi
  rw [y] at e1; cases e1
  cases e3
  exact ⟨_, e2, .refl, rh, h4⟩
theorem serves_w2 {d : Addr} {od : Obj} {u : HO} {ws : List (V × V)} {rs : List (PyData × PV)} {xs : List PV} (hd : H d = some (.frz od u)) (r : Rows K m H ws rs) (e : rowsV 2 rs = some xs) : Serves K m H (ItW2 d od u ws) xs := by
  have hl : xs.length = ws.length := by rw [(rowsV_get e).1, Paired.length r]
  refine ⟨fun i m' H' ev hi => ⟨ev.fz _ _ _ hd, by omega⟩, fun m' H' ev => ⟨ev.fz _ _ _ hd, by omega⟩, fun i m' H' h' v H'' ev rh y hi => ?_⟩
  obtain ⟨T, k, v', y, rfl, hT, rfl⟩ := y
  obtain ⟨w, ⟨pd, pv⟩, x, e1, e2, e3, h3, h4⟩ := row_at (r.evo ev) e hi
  rw [y] at e1; cases e1
  cases pv with
  | d x' =>
    cases e3
    exact ⟨_, e2, new_pair rh hT h3 (rv_d h4)⟩
  | ref n =>
    cases e3
    have ev2 : Evo m' H' m' (upd H' T (.tup [k, v'])) := Evo.new rh hT
    cases h4 with
    | ref hn => exact ⟨_, e2, ev2, rh.new hT, .pr upd_same (rh.fresh hT) (h3.evo ev2) (ev2.at hn)⟩
  | scr _ => cases e3
  | pr _ _ => cases e3
end
def tI (X : Cx) (W : WX) (f : Sg → Hs → R Iw.It) : TI := fun σ H Q => ∃ m p h, RS X.K m H σ p ∧ RH X.K m h H ∧ satG X.mg X.K (Ex W σ) m H (itRel X.K) (f p h) Q
theorem _root_.L2.PI.imp {X : Cx} {tg e : Expr} {t t' : TI} (h : PI X tg e t) (i : ∀ σ H Q, t' σ H Q → t σ H Q) : PI X tg e t' := ⟨fun pins s σ H Q I q => h.run pins s σ H Q I (i _ _ _ q)⟩
section
variable {X : Cx} {W : WX} {a b c : Expr} {es : List Expr} {A B C : Dn} {pos p tpos : Pos} {tg : Expr}
def iSeq (K : PySem.W.Frag) (tl : TE) : TI := fun σ H R => tl σ H fun x H1 => ∃ a, x = .ref a ∧ (((∃ xs, SqL K H1 a xs) ∧ R (Itl K a) H1) ∨ ((∃ xs, SqT K H1 a xs) ∧ R (Itt K a) H1) ∨ (∃ o kvs, H1 a = some (.frz o (.dT kvs)) ∧ R (Itkt a o kvs) H1) ∨ ∃ od, DW H1 a od fun u ws => R (ItW0 a od u ws) H1)
theorem pi_seq {l : Expr} {tl : TE} (ww : X.w = TheW.w) (hl : PE X l tl) : PI X tg l (iSeq X.K tl) := by
  refine ⟨fun pins s σ H R I h => ?_⟩
  refine thn (hl.run pins s σ H _ I h) fun v s1 ⟨x, H1, I1, r1, q1⟩ => ?_
  obtain ⟨a, e, q1⟩ := q1
  subst e
  cases r1
  have fp : ∀ b ∈ [s1.heap.objs.size], FpOk X pins H1 b := fun b hb => by
    have e : b = s1.heap.objs.size := by simpa using hb
    subst e
    exact I1.fpOk (Nat.le_refl _) (I1.hok.fresh (Nat.le_refl _))
  rcases q1 with ⟨⟨xs, hq⟩, q⟩ | ⟨⟨xs, hq⟩, q⟩ | ⟨o, kvs, hd, q⟩ | ⟨od, q⟩
  · obtain ⟨its, rv, p, hz⟩ := I1.list hq
    refine wpAny_pyIter_list p.isList ?_
    exact ⟨s1.heap.objs.size, [s1.heap.objs.size], _, _, H1, rfl, I1.kept (t' := s1.toks) fun b o e => Heap.get?_push_of_some _ e, turn_list a _, ⟨_, Heap.get?_push_size _ rfl, rfl, rfl⟩, fp, q⟩
  · obtain ⟨its, rv, p, hz⟩ := I1.tuple hq
    refine wpAny_pyIter_tuple (show s1.heap.IsTuple a its.toArray from p) ?_
    exact ⟨s1.heap.objs.size, [s1.heap.objs.size], _, _, H1, rfl, I1.kept (t' := s1.toks) fun b o e => Heap.get?_push_of_some _ e, turn_tuple a _, ⟨_, Heap.get?_push_size _ rfl, rfl, rfl⟩, fp, q⟩
  · obtain ⟨hs, hgd, hx, es, ep, hdt, hsz, ent⟩ := I1.frzT hd
    refine iter_keys hs hgd hx hdt (pi_one (tk := s1.toks) I1 _ (turn_keysT _ hdt) ⟨_, Heap.get?_push_size _ rfl, rfl, ?_⟩ q)
    rw [hsz] <;> rfl
  · obtain ⟨u0, ws, l, q⟩ := dw_of ww I1 q
    exact pie_w0 I1 l q
theorem i_val (ww : X.w = TheW.w) (ha : PE X a (tE X W A.e)) : PI X tg a (tI X W fun σ h => (A.e σ h).bind itVal) :=
  (pi_seq ww ha).imp fun σ H Q ⟨m, p, hh, rs, rh, hs⟩ => (tE.bind1 rs rh hs).mono fun x H1 ⟨m1, a, h1, _, rs1, rh1, ra, s1⟩ => by
    cases a with
    | d dx =>
      cases dx with
      | list ds =>
        obtain ⟨a, vs, rfl, ha, na, qa⟩ := rv_lst ra
        exact ⟨a, rfl, .inl ⟨⟨vs, SqL.of ha⟩, now (b := Itl X.K a) rh1 s1 (Serves.list ha na qa)⟩⟩
      | tuple ds =>
        obtain ⟨a, vs, rfl, ha, na, qa⟩ := rv_tup ra
        exact ⟨a, rfl, .inr (.inl ⟨⟨vs, SqT.of ha⟩, now (b := Itt X.K a) rh1 s1 (Serves.tup ha na qa)⟩)⟩
      | _ => exact s1.elim
    | scr ns =>
      cases ra with
      | scr sc => exact ⟨_, rfl, .inl ⟨⟨_, sc.sq⟩, now (b := Itl X.K _) rh1 s1 (Serves.scr sc)⟩⟩
    | pr _ _ => exact s1.elim
    | ref n =>
      cases ra with
      | ref ha =>
        have s1 : satG X.mg X.K (Ex W σ) m1 H1 (itRel X.K) (if lstAt h1 (.ref n) = true then .ok (.lv n) h1 else if lckAt h1 n = true then .ok (.ld n) h1 else match h1[n]? with
          | some (.dNl kvs) => .ok (.fx (kvs.map fun kv => .d kv.1.data)) h1
          | _ => .bad) Q := s1
        split at s1
        · rename_i hc
          obtain ⟨n', a', xs, vs, q0, q1, q2, q3, q4, q5⟩ := lst_at rh1 (.ref ha) hc
          cases q0; cases q1
          exact ⟨_, rfl, .inl ⟨⟨vs, SqL.of q4⟩, now (b := Itl X.K _) rh1 s1 ⟨_, q3, rfl⟩⟩⟩
        · split at s1
          · rename_i hc
            unfold lckAt at hc
            split at hc
            · rename_i kvs e0
              obtain ⟨a', u, h2, h3, h4⟩ := rh1.at_ n _ e0
              rw [h2] at ha; cases ha
              cases h4 with
              | dTl q => exact ⟨_, rfl, .inr (.inr (.inl ⟨_, _, h3, now (b := Itkt _ _ _) rh1 s1 ⟨_, _, _, h2, h3, rfl⟩⟩))⟩
            · cases hc
          · split at s1
            · rename_i kvs e0
              obtain ⟨a', od, h2, h3⟩ := rows_at rh1 e0 (rs := kvs.map fun kv => (kv.1.data, kv.2)) rfl
              rw [h2] at ha; cases ha
              refine ⟨_, rfl, .inr (.inr (.inr ⟨od, h3 _ fun u ws hd r => now (b := ItW0 _ od u ws) rh1 s1 (serves_w0 hd r ?_)⟩))⟩
              clear s1 e0 h3 r
              induction kvs with
              | nil => rfl
              | cons kv kvs ih =>
                show ((rowsV 0 (kvs.map fun kv => (kv.1.data, kv.2))).map _) = _
                rw [ih]
                rfl
            · exact s1.elim
/-- d.values(), d.items() of a locked dict -/
theorem itDk_at {kd : Nat} {m1 : Mp} {H1 : Hp} {h1 : Hs} {a : PV} {x : V} {E : Value → Hp → Prop} {Q : L2.It → Hp → Prop} (rh1 : RH X.K m1 h1 H1) (ra : RV X.K m1 H1 x a) (s1 : satG X.mg X.K E m1 H1 (itRel X.K) (itDk kd a h1) Q) : ∃ ad od rs xs, x = .ref ad ∧ rowsV kd rs = some xs ∧ satG X.mg X.K E m1 H1 (itRel X.K) (.ok (.fx xs) h1) Q ∧ ∀ G : HO → List (V × V) → Prop, (∀ u ws, H1 ad = some (.frz od u) → Rows X.K m1 H1 ws rs → G u ws) → DW H1 ad od G := by
  cases a with
  | ref n =>
    have s1 : satG X.mg X.K E m1 H1 (itRel X.K) (match (h1[n]?).bind rowsO with
      | some rs => R.of ((rowsV kd rs).map Iw.It.fx) h1
      | none => .bad) Q := s1
    split at s1
    · rename_i rs e
      obtain ⟨ob, e0, e1⟩ := Option.bind_eq_some_iff.mp e
      obtain ⟨z, e2, s2⟩ := satG_of s1
      obtain ⟨xs, e3, rfl⟩ := Option.map_eq_some_iff.mp e2
      obtain ⟨ad, od, h2, h3⟩ := rows_at rh1 e0 e1
      cases ra with
      | ref hn =>
        rw [h2] at hn; cases hn
        exact ⟨ad, od, rs, xs, rfl, e3, s2, h3⟩
    · exact s1.elim
  | _ => exact s1.elim
variable {apos cpos : Pos} in
theorem i_dk1 (ww : X.w = TheW.w) (ha : PE X a (tE X W A.e)) (hbase : attributeBase a "values" X.env (eval a X.env) = eval a X.env) (hline : (apos.endLine == cpos.line) = true) : PI X tg (.Call (.Attribute a "values" apos) [] [] cpos) (tI X W fun σ h => (A.e σ h).bind (itDk 1)) :=
  (pi_w1 ww ha hbase hline).imp fun σ H Q ⟨m, p, hh, rs, rh, hs⟩ => (tE.bind1 rs rh hs).mono fun x H1 ⟨m1, a, h1, _, rs1, rh1, ra, s1⟩ => by
    obtain ⟨ad, od, rs, xs, rfl, e, s2, g⟩ := itDk_at rh1 ra s1
    exact ⟨ad, od, rfl, g _ fun u ws hd r => now (b := ItW1 ad od u ws) rh1 s2 (serves_w1 hd r e)⟩
variable {apos cpos : Pos} in
theorem i_dk2 {elts : List Expr} {kk : Nat} {tpos : Pos} (ww : X.w = TheW.w) (ha : PE X a (tE X W A.e)) (hbase : attributeBase a "items" X.env (eval a X.env) = eval a X.env) (hline : (apos.endLine == cpos.line) = true) : PI X (.Tuple elts kk tpos) (.Call (.Attribute a "items" apos) [] [] cpos) (tI X W fun σ h => (A.e σ h).bind (itDk 2)) :=
  (pi_w2 ww ha hbase hline).imp fun σ H Q ⟨m, p, hh, rs, rh, hs⟩ => (tE.bind1 rs rh hs).mono fun x H1 ⟨m1, a, h1, _, rs1, rh1, ra, s1⟩ => by
    obtain ⟨ad, od, rs, xs, rfl, e, s2, g⟩ := itDk_at rh1 ra s1
    exact ⟨ad, od, rfl, g _ fun u ws hd r => now (b := ItW2 ad od u ws) rh1 s2 (serves_w2 hd r e)⟩
theorem i_r1 (hg : Gl X "range") (hm : X.mg "range" = none) (ha : PE X a (tE X W A.e)) (hs : starEach [a] X.env = [(false, eval a X.env)]) : PI X tg (.Call (.Name "range" p) [a] [] pos) (tI X W fun σ h => (A.e σ h).bind itR1) :=
  (pi_range1 hg hm (pa_cons ha pa_nil hs) hs).imp fun σ H Q ⟨m, p, hh, rs, rh, hs⟩ => (tE.bind1 rs rh hs).mono fun x H1 ⟨m1, a, h1, _, rs1, rh1, ra, s1⟩ => by
    rcases a with (_|_|j|_|_|_|_) | _ | _ <;> first | exact s1.elim | skip
    cases rv_int ra
    obtain ⟨hl, s1⟩ := satG_if (show satG X.mg X.K (Ex W σ) m1 H1 (itRel X.K) (if -line ≤ j ∧ j ≤ line then .ok (.fx (rngL 0 j.toNat)) h1 else .bad) Q from s1)
    have : (line : Int) = 16777216 := rfl
    exact ⟨j, rfl, by omega, by omega, now (b := Itr 0 j.toNat) rh1 s1 (Serves.rng 0 j.toNat)⟩
theorem i_r2 (hg : Gl X "range") (hm : X.mg "range" = none) (ha : PE X a (tE X W A.e)) (hb : PE X b (tE X W B.e)) (hs : starEach [a, b] X.env = [(false, eval a X.env), (false, eval b X.env)]) (hs2 : starEach [b] X.env = [(false, eval b X.env)]) :
    PI X tg (.Call (.Name "range" p) [a, b] [] pos) (tI X W fun σ h => (A.e σ h).bind fun u h1 => (B.e σ h1).bind fun v h2 => itR2 u v h2) :=
  (pi_range2 hg hm (pa_cons ha (pa_cons hb pa_nil hs2) (by rw [hs, hs2])) hs hs2).imp fun σ H Q ⟨m, p, hh, rs, rh, hs⟩ => (tE.bind1 rs rh hs).mono fun x H1 ⟨m1, a, h1, _, rs1, rh1, ra, s1⟩ => (tE.bind1 rs1 rh1 s1).mono fun y H2 ⟨m2, b, h2, _, rs2, rh2, rb, s2⟩ => by
    rcases a with (_|_|i|_|_|_|_) | _ | _ <;> first | exact s2.elim | skip
    rcases b with (_|_|j|_|_|_|_) | _ | _ <;> first | exact s2.elim | skip
    cases rv_int ra
    cases rv_int rb
    obtain ⟨hl, s2⟩ := satG_if (show satG X.mg X.K (Ex W σ) m2 H2 (itRel X.K) (if -line ≤ i ∧ i ≤ line ∧ -line ≤ j ∧ j ≤ line then .ok (.fx (rngL i (j - i).toNat)) h2 else .bad) Q from s2)
    have : (line : Int) = 16777216 := rfl
    exact ⟨i, j, rfl, ⟨by omega, by omega, by omega, by omega⟩, now (b := Itr i (j - i).toNat) rh2 s2 (Serves.rng i (j - i).toNat)⟩
theorem i_zip {elts : List Expr} {kk : Nat} (hg : Gl X "zip") (hm : X.mg "zip" = none) (ha : PE X a (tE X W A.e)) (hb : PE X b (tE X W B.e)) (hs : starEach [a, b] X.env = (false, eval a X.env) :: starEach [b] X.env) (hs2 : starEach [b] X.env = (false, eval b X.env) :: starEach [] X.env) (hpl : (backTo pos (starEach [b] X.env)).any (·.1) = false) :
    PI X (.Tuple elts kk tpos) (.Call (.Name "zip" p) [a, b] [] pos) (tI X W fun σ h => (A.e σ h).bind fun u h1 => (B.e σ h1).bind fun v h2 => itZip u v h2) :=
  (RZ.pi_zipA hg hm (pa_cons ha (pa_cons hb pa_nil hs2) hs) hs hpl).imp fun σ H Q ⟨m, p, hh, rs, rh, hs⟩ => (tE.bind1 rs rh hs).mono fun x H1 ⟨m1, a, h1, _, rs1, rh1, ra, s1⟩ => (tE.bind1 rs1 rh1 s1).mono fun y H2 ⟨m2, b, h2, e2, rs2, rh2, rb, s2⟩ => by
    have ra := ra.evo e2
    rcases a with (_|_|_|_|ds|ds|_) | _ | _ <;> first | exact s2.elim | skip
    · rcases b with (_|_|_|_|es|es|_) | _ | _ <;> first | exact s2.elim | skip
      obtain ⟨p, vs, rfl, ha, na, qa⟩ := rv_lst ra
      obtain ⟨q, ws, rfl, hb, nb, qb⟩ := rv_lst rb
      exact ⟨p, q, vs, ws, rfl, .inl ⟨SqL.of ha, SqL.of hb, now (b := Itz X.K p q) rh2 s2 (Serves.zipL ha na qa hb nb qb)⟩⟩
    · rcases b with (_|_|_|_|es|es|_) | _ | _ <;> first | exact s2.elim | skip
      obtain ⟨p, vs, rfl, ha, na, qa⟩ := rv_tup ra
      obtain ⟨q, ws, rfl, hb, nb, qb⟩ := rv_tup rb
      exact ⟨p, q, vs, ws, rfl, .inr ⟨SqT.of ha, SqT.of hb, now (b := RZ.ItzT X.K p q) rh2 s2 (Serves.zipT ha na qa hb nb qb)⟩⟩
theorem i_enu {elts : List Expr} {kk : Nat} (hg : Gl X "enumerate") (hm : X.mg "enumerate" = none) (ha : PE X a (tE X W A.e)) (hs : starEach [a] X.env = [(false, eval a X.env)]) :
    PI X (.Tuple elts kk tpos) (.Call (.Name "enumerate" p) [a] [] pos) (tI X W fun σ h => (A.e σ h).bind itEnu) :=
  (pi_enumA hg hm (pa_cons ha pa_nil hs) hs).imp fun σ H Q ⟨m, p, hh, rs, rh, hs⟩ => (tE.bind1 rs rh hs).mono fun x H1 ⟨m1, a, h1, _, rs1, rh1, ra, s1⟩ => by
    rcases a with (_|_|_|_|ds|ds|_) | _ | _ <;> first | exact s1.elim | skip
    · obtain ⟨p, vs, rfl, ha, na, qa⟩ := rv_lst ra
      exact ⟨p, vs, rfl, .inl ⟨SqL.of ha, now (b := Ite X.K p) rh1 s1 (Serves.enL ha na qa)⟩⟩
    · obtain ⟨p, vs, rfl, ha, na, qa⟩ := rv_tup ra
      exact ⟨p, vs, rfl, .inr ⟨SqT.of ha, now (b := IteT X.K p) rh1 s1 (Serves.enT ha na qa)⟩⟩
end
end Iw
end

section
set_option Elab.async false
set_option linter.all false
set_option maxRecDepth 100000
/-! targets, comprehensions -/
namespace Iw
open PySem PySem.Spec PyProof.Rows L2
variable [TheW]
/-- the slots that a target writes -/
def tgs : Tg → List Nat
  | .nm i => [i]
  | .nil => []
  | .cons a b => tgs a ++ tgs b
def tG (X : Cx) (t : Tg) : TG := fun v σ H Q => ∃ m p h pv p', RS X.K m H σ p ∧ RH X.K m h H ∧ RV X.K m H v pv ∧ asg t pv p = some p' ∧
  ∀ σ2 H2 m2, Evo m H m2 H2 → RS X.K m2 H2 σ2 p' → RH X.K m2 h H2 → (∀ vs : List Nat, (∀ i ∈ tgs t, i ∈ vs) → L2.wipe σ2 vs = L2.wipe σ vs) → Q σ2 H2
def Tg.len : Tg → Nat
  | .cons _ b => b.len + 1
  | _ => 0
def tGs (X : Cx) (t : Tg) : TGs := fun vs σ H Q => ∃ m p h qs p', RS X.K m H σ p ∧ RH X.K m h H ∧ RVs X.K m H vs qs ∧ asgs t qs p = some p' ∧ ∀ σ2 H2 m2, Evo m H m2 H2 → RS X.K m2 H2 σ2 p' → RH X.K m2 h H2 → (∀ vs, (∀ i ∈ tgs t, i ∈ vs) → L2.wipe σ2 vs = L2.wipe σ vs) → Q σ2 H2
theorem _root_.L2.PG.imp {X : Cx} {e : Expr} {t t' : TG} (h : PG X e t) (i : ∀ v σ H Q, t' v σ H Q → t v σ H Q) : PG X e t' := ⟨fun pins s σ H v u Q I r q => h.run pins s σ H v u Q I r (i _ _ _ _ q)⟩
theorem _root_.L2.PGs.imp {X : Cx} {e : List Expr} {t t' : TGs} (h : PGs X e t) (i : ∀ v σ H Q, t' v σ H Q → t v σ H Q) : PGs X e t' := ⟨fun pins s σ H v u Q I r q => h.run pins s σ H v u Q I r (i _ _ _ _ q)⟩
theorem wipe_set {i : Nat} {x : Option V} (σ : Sv) : ∀ {vs : List Nat}, i ∈ vs → L2.wipe (σ.set i x) vs = L2.wipe σ vs
  | v :: vs, h => by
    show (L2.wipe (σ.set i x) vs).set v none = (L2.wipe σ vs).set v none
    by_cases e : i ∈ vs
    · rw [wipe_set σ e]
    · have hv : i = v := (List.mem_cons.mp h).resolve_right e
      subst hv
      have go : ∀ {vs : List Nat}, i ∉ vs → L2.wipe (σ.set i x) vs = (L2.wipe σ vs).set i x := fun {vs} e => by
        induction vs with
        | nil => rfl
        | cons w vs ih =>
          have h1 : i ≠ w := fun z => e (by simp [z])
          have h2 : i ∉ vs := fun z => e (by simp [z])
          show (L2.wipe (σ.set i x) vs).set w none = ((L2.wipe σ vs).set w none).set i x
          rw [ih h2, List.set_comm _ _ h1]
      rw [go e, List.set_set]
section
variable {X : Cx} {pos : Pos}
theorem g_nm {i : Nat} {x : Str} (hN : X.N.Nodup) (hi : X.N[i]? = some x) (hx : Loc X.env.scope x) (hf : X.fn x = true ∨ X.env.scope.names.lookup x = some .local) : PG X (.Name x pos) (tG X (.nm i)) :=
  (pg_name hN hi hx hf).imp fun v σ H Q ⟨m, p, h, pv, p', rs, rh, rv, ea, q⟩ => by
    cases ea
    exact q _ _ m .refl (rs.set rv) rh fun vs hv => wipe_set σ (hv i (by simp [tgs]))
theorem g_nil : PGs X [] (tGs X .nil) := pgs_nil.imp fun v σ H Q ⟨m, p, h, ds, p', rs, rh, rv, ea, q⟩ => by
  cases rv with
  | nil =>
    cases ea
    exact ⟨rfl, q _ _ m .refl rs rh fun _ _ => rfl⟩
  | cons _ _ => cases ea
theorem g_cons {e : Expr} {es : List Expr} {a b : Tg} (ha : PG X e (tG X a)) (hb : PGs X es (tGs X b)) (hs : (assignEach (e :: es) X.env).map (·.2) = assign e X.env :: (assignEach es X.env).map (·.2)) : PGs X (e :: es) (tGs X (.cons a b)) :=
  (pgs_cons ha hb hs).imp fun v σ H Q ⟨m, p, h, ds, p', rs, rh, rv, ea, q⟩ => by
    cases rv with
    | nil => cases ea
    | @cons v1 d1 vs ds r t =>
      obtain ⟨p1, e1, e2⟩ := Option.bind_eq_some_iff.mp (show (asg a d1 p).bind (asgs b ds) = some p' from ea)
      refine ⟨v1, vs, rfl, m, p, h, d1, p1, rs, rh, r, e1, fun σ2 H2 m2 ev rs2 rh2 hw => ?_⟩
      refine ⟨m2, p1, h, ds, p', rs2, rh2, RVs.evo t ev, e2, fun σ3 H3 m3 ev3 rs3 rh3 hw3 => q _ _ m3 (ev.trans ev3) rs3 rh3 fun vs hv => ?_⟩
      rw [hw3 vs fun i hi => hv i (by simp [tgs, hi]), hw vs fun i hi => hv i (by simp [tgs, hi])]
/-- what a chain of targets takes: a tuple, a pair -/
def Splits (t : Tg) (n : Nat) : Prop := ∀ v p p', asg t v p = some p' → ∃ qs : List PV, qs.length = n ∧ asgs t qs p = some p' ∧ ((∃ ds, v = .d (.tuple ds) ∧ qs = ds.map .d) ∨ ∃ x k, v = .pr x k ∧ qs = [.d x, .ref k])
theorem g_tup {es : List Expr} {k : Nat} {t : Tg} (hc : X.calm = true) (ht : PGs X es (tGs X t)) (hl : Splits t es.length) (hn : (assignEach es X.env).length = es.length) (hst : (assignEach es X.env).findIdx? (·.1) = none) : PG X (.Tuple es k pos) (tG X t) :=
  (pg_tup hc ht hn hst).imp fun v σ H Q ⟨m, p, h, pv, p', rs, rh, rv, ea, q⟩ => by
    obtain ⟨qs, e, eq, hq⟩ := hl _ _ _ ea
    rcases hq with ⟨ds, rfl, rfl⟩ | ⟨x, n, rfl, rfl⟩
    · obtain ⟨a, vs, rfl, h1, h2, h3⟩ := rv_tup rv
      exact ⟨a, vs, rfl, SqT.of h1, by rw [h3.length, ← e, List.length_map], m, p, h, _, p', rs, rh, h3.rvs, eq, q⟩
    · cases rv with
      | pr h1 h2 h3 h4 => exact ⟨_, _, rfl, SqT.of h1, e, m, p, h, _, p', rs, rh, .cons (.d h3) (.cons (.ref h4) .nil), eq, q⟩
end
/-! ### comprehensions -/
section
variable {K : PySem.W.Frag} {mg : Str → Option Value} {E E' : Value → Hp → Prop} {α β γ δ ε : Type}
theorem satN {m1 m2 : Mp} {H1 H2 : Hp} {rel2 : Mp → Hp → δ → γ → Prop} {rel : Mp → Hp → β → α → Prop} {A : R α} {f : α → Hs → R ε} {F : ε → Hs → R γ} {Q : δ → Hp → Prop} (hs : satG mg K E m1 H1 rel2 ((noExc (A.bind f)).bind F) Q) :
    satG mg K E' m2 H2 rel A (fun b H3 => ∃ m3 a h3, Evo m2 H2 m3 H3 ∧ RH K m3 h3 H3 ∧ rel m3 H3 b a ∧ satG mg K E m1 H1 rel2 ((noExc (f a h3)).bind F) Q) := by
  cases A with
  | ok a h' => exact fun b H' m' e q z => ⟨m', a, h', e, q, z, hs⟩
  | exc c h' => exact hs.elim
  | bad => exact hs.elim
theorem noExc_ok {A : R α} {f : α → Hs → γ} {g : α → Hs → Hs} {F : γ → Hs → R ε} : (noExc (A.bind fun a h => .ok (f a h) (g a h))).bind F = (noExc A).bind fun a h => F (f a h) (g a h) := by cases A <;> rfl
end
/-- where a comprehension stands between its turns -/
def cNext (X : Cx) (E : Value → Hp → Prop) (m1 : Mp) (H1 : Hp) (D : Addr) (mt : Bool) (Q : VK) (rest : Hs → R (List PV)) (H : Hp) : Prop :=
  ∃ m h acc accP, Evo m1 H1 m H ∧ RH X.K m h H ∧ D ∈ m.hid ∧ H D = some (.lst acc) ∧ RVs X.K m H acc accP ∧ satG X.mg X.K E m1 H1 (RV X.K) ((noExc (rest h)).bind fun ys h2 => lstOf mt (accP ++ ys) h2) Q
theorem lstOf_len {X : Cx} {E : Value → Hp → Prop} {m1 : Mp} {H1 : Hp} {mt : Bool} {Q : VK} {r : R (List PV)} {xs : List PV} (hs : satG X.mg X.K E m1 H1 (RV X.K) ((noExc r).bind fun ys h2 => lstOf mt (xs ++ ys) h2) Q) : xs.length ≤ line := by
  cases r with
  | ok ys h =>
    have hs : satG X.mg X.K E m1 H1 (RV X.K) (if (xs ++ ys).length ≤ line then mkL mt (xs ++ ys) h else .bad) Q := hs
    obtain ⟨hl, _⟩ := satG_if hs
    rw [List.length_append] at hl
    omega
  | exc _ _ => exact hs.elim
  | bad => exact hs.elim
theorem cNext_done {X : Cx} {E : Value → Hp → Prop} {m1 : Mp} {H1 H : Hp} {D : Addr} {mt : Bool} {Q : VK} {rest : Hs → R (List PV)} (hD : H1 D = none) (hr : ∀ h, rest h = .ok [] h) (c : cNext X E m1 H1 D mt Q rest H) : Q (.ref D) H := by
  obtain ⟨m, h, acc, accP, ev, rh, hd, hH, rv, hs⟩ := c
  rw [hr] at hs
  have hs : satG X.mg X.K E m1 H1 (RV X.K) (if (accP ++ []).length ≤ line then mkL mt (accP ++ []) h else .bad) Q := hs
  rw [List.append_nil] at hs
  obtain ⟨_, hs⟩ := satG_if hs
  have no := (rh.hd D hd).1
  cases mt with
  | true =>
    have hs : satG X.mg X.K E m1 H1 (RV X.K) (.ok (.ref h.length) (h ++ [.lst accP])) Q := hs
    refine hs _ _ _ (ev.reveal hD) (rh.reveal hd hH (.lst rv)) (.ref ?_)
    show (m.own ++ [D])[h.length]? = _
    rw [List.getElem?_append_right (by rw [rh.len]; exact Nat.le_refl _), rh.len]
    simp
  | false =>
    have hs : satG X.mg X.K E m1 H1 (RV X.K) (R.of ((datas accP).map fun ds => .d (.list ds)) h) Q := hs
    cases e : datas accP with
    | none => rw [e] at hs; exact hs.elim
    | some ds =>
      rw [e] at hs
      exact hs _ _ _ (ev.unhide hD) rh.unhide (.d (.lst hH (not_unhide no) ((rv.rpa e).less less_unhide)))
theorem comp_turn {X : Cx} {W' : WX} {E : Value → Hp → Prop} {m1 : Mp} {H1 : Hp} {D : Addr} {mt : Bool} {Q : VK} {t : Tg} {C : Sg → Hs → R Bool} {L : Sg → Hs → R PV} {σ : Sv} {p : Sg} {own : List Nat} {x : V} {xv : PV} {rest : Hs → R (List PV)} {m : Mp} {h : Hs} {acc : List V} {accP : List PV} {H : Hp}
    (hD : H1 D = none) (ht : ∀ i ∈ tgs t, i ∈ own) (ev : Evo m1 H1 m H) (rs : RS X.K m H σ p) (rh : RH X.K m h H) (hd : D ∈ m.hid) (hH : H D = some (.lst acc)) (rv : RVs X.K m H acc accP) (rx : RV X.K m H x xv)
    (hs : satG X.mg X.K E m1 H1 (RV X.K) ((noExc ((compSt own t C L p xv h).bind fun o h1 => (rest h1).bind fun ys h2 => .ok (match o with | some y => y :: ys | none => ys) h2)).bind fun ys h2 => lstOf mt (accP ++ ys) h2) Q) :
    tG X t x (L2.wipe σ own) H fun σ2 H2 => L2.wipe σ2 own = L2.wipe σ own ∧ tT X W' C σ2 H2 fun b H3 =>
      if b = true then tE X W' L σ2 H3 fun y H4 => ∃ acc, H4 D = some (.lst acc) ∧ acc.length < sizeLine ∧ cNext X E m1 H1 D mt Q rest (upd H4 D (.lst (acc ++ [y]))) else cNext X E m1 H1 D mt Q rest H3 := by
  unfold compSt at hs
  cases ea : asg t xv (wipe p own) with
  | none => rw [ea] at hs; exact hs.elim
  | some p1 =>
    rw [ea] at hs
    refine ⟨m, wipe p own, h, xv, p1, rs.wipe own, rh, rx, ea, fun σ2 H2 m2 ev2 rs2 rh2 hw => ⟨?_, ?_⟩⟩
    · rw [hw own ht]
      have idem : ∀ (vs : List Nat) (σ : Sv), L2.wipe (L2.wipe σ vs) vs = L2.wipe σ vs := fun vs => by
        have sub : ∀ (vs ws : List Nat) (σ : Sv), (∀ i ∈ vs, i ∈ ws) → L2.wipe (L2.wipe σ vs) ws = L2.wipe σ ws := fun vs ws => by
          induction vs with
          | nil => intro σ _; rfl
          | cons v vs ih =>
            intro σ hv
            show L2.wipe ((L2.wipe σ vs).set v none) ws = _
            rw [wipe_set _ (hv v (by simp)), ih σ fun i hi => hv i (by simp [hi])]
        exact fun σ => sub vs vs σ fun _ h => h
      exact idem own σ
    · dsimp only at hs
      rw [R.bind_assoc] at hs
      refine ⟨m2, p1, h, rs2, rh2, (satN (rel := same) hs).mono fun b H3 ⟨m3, b', h3, ev3, rh3, eb, s3⟩ => ?_⟩
      have eb : b = b' := eb
      subst eb
      have ev03 := ev.trans (ev2.trans ev3)
      have e23 := ev2.trans ev3
      obtain ⟨hH3, hd3⟩ := e23.hd D _ hd hH
      cases b with
      | false =>
        refine iteF ?_
        have s3 : satG X.mg X.K E m1 H1 (RV X.K) ((noExc ((rest h3).bind fun ys h2 => .ok ys h2)).bind fun ys h2 => lstOf mt (accP ++ ys) h2) Q := s3
        rw [noExc_ok] at s3
        exact ⟨m3, h3, acc, accP, ev03, rh3, hd3, hH3, rv.evo e23, s3⟩
      | true =>
        refine iteT ?_
        have s3 : satG X.mg X.K E m1 H1 (RV X.K) ((noExc (((L p1 h3).bind fun y h4 => R.ok (some y) h4).bind fun o h1 => (rest h1).bind fun ys h2 => .ok (match o with | some y => y :: ys | none => ys) h2)).bind fun ys h2 => lstOf mt (accP ++ ys) h2) Q := s3
        rw [R.bind_assoc] at s3
        refine ⟨m3, p1, h3, rs2.evo ev3, rh3, (satN (rel := RV X.K) s3).mono fun y H4 ⟨m4, yv, h4, ev4, rh4, ry, s4⟩ => ?_⟩
        have s4 : satG X.mg X.K E m1 H1 (RV X.K) ((noExc ((rest h4).bind fun ys h2 => .ok (yv :: ys) h2)).bind fun ys h2 => lstOf mt (accP ++ ys) h2) Q := s4
        rw [noExc_ok] at s4
        have es : (fun (ys : List PV) (h2 : Hs) => lstOf mt (accP ++ yv :: ys) h2) = fun ys h2 => lstOf mt ((accP ++ [yv]) ++ ys) h2 := by
          funext ys h2; rw [List.append_assoc]; rfl
        rw [es] at s4
        have ll := lstOf_len s4
        obtain ⟨hH4, hd4⟩ := ev4.hd D _ hd3 hH3
        have rv4 := (rv.evo e23).evo ev4
        refine ⟨acc, hH4, ?_, m4, h4, acc ++ [y], accP ++ [yv], (ev03.trans ev4).upH hD, rh4.upH hd4, hd4, upd_same, RVs.upH (.inr hd4) (PairedApp rv4 (.cons ry .nil)), s4⟩
        rw [rv4.len, ← line_eq]
        rw [List.length_append] at ll
        exact ll
theorem keysR {m : Mp} {H : Hp} : ∀ ks : List Key, RpA m H (ks.map kV) (ks.map keyD)
  | [] => .nil
  | .inl i :: ks => .cons (.int i) (keysR ks)
  | .inr x :: ks => .cons (.str x) (keysR ks)
theorem rv_key {K : PySem.W.Frag} {m : Mp} {H : Hp} {h : Hs} (rh : RH K m h H) {a : Addr} {ks : List Key} (e : H a = some (.tup (ks.map kV))) : RV K m H (.ref a) (.d (.tuple (ks.map keyD))) := .d (.tup e (rh.tup e) (keysR ks))
theorem getL_ref {h : Hs} {n : Nat} {xs : List PV} (e : getL h (.ref n) = some xs) : h[n]? = some (.lst xs) := by
  have e : (match h[n]? with
    | some (.lst xs) => some xs
    | _ => none) = some xs := e
  split at e
  · rename_i ys e0; cases e; exact e0
  · cases e
theorem drop_get {α : Type} {xs : List α} {i : Nat} {x : α} (h : xs[i]? = some x) : xs.drop i = x :: xs.drop (i + 1) := by
  obtain ⟨hi, e⟩ := List.getElem?_eq_some_iff.mp h
  rw [List.drop_eq_getElem_cons hi, e]
abbrev compE (mt : Bool) (own : List Nat) (t : Tg) (I : Sg → Hs → R Iw.It) (C : Sg → Hs → R Bool) (L : Sg → Hs → R PV) : Sg → Hs → R PV := fun σ h => (I σ h).bind fun J h1 => (compGo (compSt own t C L σ) J h1).bind (lstOf mt)
theorem comp_read {X : Cx} {W W' : WX} {mt : Bool} {own : List Nat} {t : Tg} {I : Sg → Hs → R Iw.It} {C : Sg → Hs → R Bool} {L : Sg → Hs → R PV} (ht : ∀ i ∈ tgs t, i ∈ own) {σ : Sv} {H : Hp} {Q : VK} (h : tE X W (compE mt own t I C L) σ H Q) : tLc (tI X W I) (tG X t) (tT X W' C) (tE X W' L) own σ H Q := by
  obtain ⟨m, p, hh, rs, rh, hs⟩ := h
  refine ⟨m, p, hh, rs, rh, (satG.bind (rel := itRel X.K) hs).mono fun J H1 ⟨m1, J', h1, ev, rh1, rj, s1⟩ D hD => ?_⟩
  have rs1 := rs.evo ev
  obtain ⟨rhD, evD⟩ := rh1.hide (ws := []) hD
  have memD : D ∈ (m1.hide D).hid := List.mem_cons_self
  cases J' with
  | fx xs =>
    have rj : Serves X.K m1 H1 J xs := rj
    have s1 : satG X.mg X.K (Ex W σ) m1 H1 (RV X.K) ((noExc (compF (compSt own t C L p) (xs.drop 0) h1)).bind fun ys h2 => lstOf mt ([] ++ ys) h2) Q := s1
    refine ⟨fun i n H' => n = xs.length - i ∧ i ≤ xs.length ∧ cNext X (Ex W σ) m1 H1 D mt Q (compF (compSt own t C L p) (xs.drop i)) H', ⟨xs.length, by simp, Nat.zero_le _, m1.hide D, h1, [], [], evD, rhD, memD, upd_same, .nil, s1⟩, ?_⟩
    rintro i n H' ⟨rfl, hi, c⟩
    by_cases hlt : i < xs.length
    · refine .inr ⟨?_, cNext X (Ex W σ) m1 H1 D mt Q (compF (compSt own t C L p) (xs.drop (i + 1))), fun H2 c2 => ⟨xs.length - (i + 1), by omega, rfl, hlt, c2⟩, fun x H2 y => ?_⟩
      · obtain ⟨m', h', acc, accP, ev1, _⟩ := c
        exact rj.goes i m' H' ev1 hlt
      · obtain ⟨m', h', acc, accP, ev1, rh', hd, hH, rv, s2⟩ := c
        obtain ⟨xv, ex, ev2, rh2, rx⟩ := rj.yields i m' H' h' x H2 ev1 rh' y hlt
        obtain ⟨hH2, hd2⟩ := ev2.hd D _ hd hH
        rw [drop_get ex] at s2
        exact comp_turn (W' := W') hD ht (ev1.trans ev2) (rs1.evo (ev1.trans ev2)) rh2 hd2 hH2 (rv.evo ev2) rx s2
    · have e : i = xs.length := by omega
      subst e
      refine .inl ⟨?_, ?_⟩
      · obtain ⟨m', h', acc, accP, ev1, _⟩ := c
        exact rj.stops m' H' ev1
      · exact cNext_done hD (fun h => by rw [List.drop_length]; rfl) c
  | lv n =>
    obtain ⟨a, ha, rfl⟩ := rj
    have s1 : satG X.mg X.K (Ex W σ) m1 H1 (RV X.K) ((noExc (compV (compSt own t C L p) n big 0 h1)).bind fun ys h2 => lstOf mt ([] ++ ys) h2) Q := s1
    refine ⟨fun i f H' => cNext X (Ex W σ) m1 H1 D mt Q (compV (compSt own t C L p) n f i) H', ⟨big, m1.hide D, h1, [], [], evD, rhD, memD, upd_same, .nil, s1⟩, ?_⟩
    intro i f H' c
    cases f with
    | zero =>
      obtain ⟨m', h', acc, accP, ev1, rh', hd, hH, rv, s2⟩ := c
      exact s2.elim
    | succ f =>
      obtain ⟨m', h', acc, accP, ev1, rh', hd, hH, rv, s2⟩ := c
      have ha' := ev1.at ha
      unfold compV at s2
      split at s2
      · exact s2.elim
      · rename_i xs eg
        have q0 := getL_ref eg
        obtain ⟨a2, vs, q1, q2, q3, q4⟩ := rv_ref rh' (.ref ha') q0
        cases q1
        split at s2
        · rename_i en
          have hl : xs.length ≤ i := by simpa using en
          exact .inl ⟨⟨vs, SqL.of q3, by rw [q4.len]; exact hl⟩, cNext_done hD (fun h => rfl) (rest := fun h => .ok [] h) ⟨m', h', acc, accP, ev1, rh', hd, hH, rv, s2⟩⟩
        · rename_i xv ex
          obtain ⟨w, e1, rw1⟩ := PairedGet q4 ex
          refine .inr ⟨⟨vs, w, SqL.of q3, e1⟩, cNext X (Ex W σ) m1 H1 D mt Q (compV (compSt own t C L p) n f (i + 1)), fun H2 c2 => ⟨f, Nat.lt_succ_self f, c2⟩, fun x H2 y => ?_⟩
          obtain ⟨rfl, y⟩ := y
          have e2 := y vs (SqL.of q3)
          rw [e1] at e2; cases e2
          exact comp_turn (W' := W') hD ht ev1 (rs1.evo ev1) rh' hd hH rv rw1 s2
  | ld n =>
    obtain ⟨a, od, vs, ha, hf, rfl⟩ := rj
    have s1 : satG X.mg X.K (Ex W σ) m1 H1 (RV X.K) ((noExc (compL (compSt own t C L p) n big 0 h1)).bind fun ys h2 => lstOf mt ([] ++ ys) h2) Q := s1
    refine ⟨fun i f H' => cNext X (Ex W σ) m1 H1 D mt Q (compL (compSt own t C L p) n f i) H', ⟨big, m1.hide D, h1, [], [], evD, rhD, memD, upd_same, .nil, s1⟩, ?_⟩
    intro i f H' c
    cases f with
    | zero =>
      obtain ⟨m', h', acc, accP, ev1, rh', hd, hH, rv, s2⟩ := c
      exact s2.elim
    | succ f =>
      obtain ⟨m', h', acc, accP, ev1, rh', hd, hH, rv, s2⟩ := c
      have ha' := ev1.at ha
      have hf' := ev1.fz _ _ _ hf
      unfold compL at s2
      split at s2
      · rename_i kvs e0
        obtain ⟨a2, w, q1, q2, q3⟩ := rh'.at_ n _ e0
        rw [ha'] at q1; cases q1
        rw [hf'] at q2; cases q2
        cases q3 with
        | dTl q4 =>
          have ql := Paired.length q4
          split at s2
          · rename_i en
            have hl : kvs.length ≤ i := by simpa using en
            exact .inl ⟨⟨hf', by omega⟩, cNext_done hD (fun h => rfl) (rest := fun h => .ok [] h) ⟨m', h', acc, accP, ev1, rh', hd, hH, rv, s2⟩⟩
          · rename_i kv ek
            obtain ⟨kv2, e1, hk, hrv⟩ := PairedGet q4 ek
            have hi : i < vs.length := (List.getElem?_eq_some_iff.mp e1).1
            refine .inr ⟨⟨hf', hi⟩, cNext X (Ex W σ) m1 H1 D mt Q (compL (compSt own t C L p) n f (i + 1)), fun H2 c2 => ⟨f, Nat.lt_succ_self f, c2⟩, fun x H2 y => ?_⟩
            obtain ⟨rfl, k', v', qa, e2, rfl, hq⟩ := y
            rw [e1] at e2; cases e2
            exact comp_turn (W' := W') hD ht ev1 (rs1.evo ev1) rh' hd hH rv (by rw [← hk]; exact rv_key rh' hq) s2
      · exact s2.elim
end Iw
end

section
set_option Elab.async false
set_option linter.all false
set_option maxRecDepth 100000
/-! dict([(k, v) for ..]): keys that are tuples, values that may be objects of the run's own store -/
namespace Iw
open PySem PySem.Spec PyProof.Rows L2
variable [TheW]
theorem prs_at {K : PySem.W.Frag} {m : Mp} {H : Hp} : ∀ {vs : List V} {xs : List PV} {kvs : List (List L2.Key × PV)}, RVs K m H vs xs → prsT xs = some kvs →
    ∃ (ps : List Addr) (ws : List (Addr × List L2.Key × V)), vs = ps.map V.ref ∧ PairT H ps ws ∧ Paired (fun p q => p.1 = q.1 ∧ RV K m H p.2 q.2) (ws.map (·.2)) kvs
  | _, _, _, .nil, e => by
    cases e
    exact ⟨[], [], rfl, .nil, .nil⟩
  | _, _, _, .cons (a := v) (b := x) r t, e => by
    unfold prsT at e
    split at e
    · rename_i e0; cases e0
    · rename_i d n r' e0
      injection e0 with e1 e2
      subst e1 e2
      obtain ⟨q, e3, e4⟩ := Option.bind_eq_some_iff.mp e
      obtain ⟨kvs', e5, rfl⟩ := Option.map_eq_some_iff.mp e4
      obtain ⟨ps, ws, rfl, h2, h3⟩ := prs_at t e5
      cases r with
      | pr h1 h4 h5 h6 =>
        obtain ⟨b, rfl, hb, _⟩ := keysOf_at h5 e3
        exact ⟨_ :: ps, (b, q, _) :: ws, rfl, .cons ⟨h1, hb⟩ h2, .cons ⟨rfl, .ref h6⟩ h3⟩
    · rename_i d y r' e0
      injection e0 with e1 e2
      subst e1 e2
      obtain ⟨q, e3, e4⟩ := Option.bind_eq_some_iff.mp e
      obtain ⟨kvs', e5, rfl⟩ := Option.map_eq_some_iff.mp e4
      obtain ⟨ps, ws, rfl, h2, h3⟩ := prs_at t e5
      cases rv_d r with
      | tup h n ra =>
        cases ra with
        | cons r1 ra =>
          cases ra with
          | cons r2 ra =>
            cases ra
            obtain ⟨b, rfl, hb, _⟩ := keysOf_at r1 e3
            exact ⟨_ :: ps, (b, q, _) :: ws, rfl, .cons ⟨h, hb⟩ h2, .cons ⟨rfl, .d r2⟩ h3⟩
    · cases e
theorem mergeT_pair {P : V → PV → Prop} {ws : List (List L2.Key × V)} {xs : List (List L2.Key × PV)} (t : Paired (fun p q => p.1 = q.1 ∧ P p.2 q.2) ws xs) : ∀ {vs : List (List L2.Key × V)} {ys : List (List L2.Key × PV)}, Paired (fun p q => p.1 = q.1 ∧ P p.2 q.2) vs ys → Paired (fun p q => p.1 = q.1 ∧ P p.2 q.2) (mergeT vs ws) (mergeP ys xs) := by
  induction t with
  | nil => intro vs ys r; exact r
  | @cons a b as bs h t ih =>
    intro vs ys r
    obtain ⟨k, v⟩ := a
    obtain ⟨k', x⟩ := b
    obtain ⟨e, q⟩ := h
    have e : k = k' := e
    subst e
    exact ih (put_pair k q r)
/-- what a dict's making asks of a list -/
def rDP (Q : VK) : VK := fun x H => ∃ (a : Addr) (ps : List Addr) (kvs : List (Addr × List L2.Key × V)), x = .ref a ∧ H a = some (.lst (ps.map V.ref)) ∧ PairT H ps kvs ∧ ∀ p, H p = none → Q (.ref p) (upd H p (.dT (mergeT [] (kvs.map (·.2)))))
/-- where the making stands between its turns -/
def dNext (X : Cx) (E : Value → Hp → Prop) (m1 : Mp) (H1 : Hp) (D : Addr) (Q : VK) (rest : Hs → R (List PV)) (H : Hp) : Prop :=
  ∃ m h acc accP, Evo m1 H1 m H ∧ RH X.K m h H ∧ D ∈ m.hid ∧ H D = some (.lst acc) ∧ RVs X.K m H acc accP ∧ satG X.mg X.K E m1 H1 (RV X.K) ((noExc (rest h)).bind fun ys h2 => dictT (accP ++ ys) h2) Q
theorem dictT_len {X : Cx} {E : Value → Hp → Prop} {m1 : Mp} {H1 : Hp} {Q : VK} {r : R (List PV)} {xs : List PV} (hs : satG X.mg X.K E m1 H1 (RV X.K) ((noExc r).bind fun ys h2 => dictT (xs ++ ys) h2) Q) : xs.length ≤ line := by
  cases r with
  | ok ys h =>
    have hs : satG X.mg X.K E m1 H1 (RV X.K) (dictT (xs ++ ys) h) Q := hs
    unfold dictT at hs
    obtain ⟨hl, _⟩ := satG_if hs
    rw [List.length_append] at hl
    omega
  | exc _ _ => exact hs.elim
  | bad => exact hs.elim
theorem dNext_done {X : Cx} {E : Value → Hp → Prop} {m1 : Mp} {H1 H : Hp} {D : Addr} {Q : VK} {rest : Hs → R (List PV)} (hD : H1 D = none) (hr : ∀ h, rest h = .ok [] h) (c : dNext X E m1 H1 D Q rest H) : rDP Q (.ref D) H := by
  obtain ⟨m, h, acc, accP, ev, rh, hd, hH, rv, hs⟩ := c
  rw [hr] at hs
  have hs : satG X.mg X.K E m1 H1 (RV X.K) (dictT (accP ++ []) h) Q := hs
  rw [List.append_nil] at hs
  unfold dictT at hs
  obtain ⟨_, hs⟩ := satG_if hs
  cases e : prsT accP with
  | none => rw [e] at hs; exact hs.elim
  | some kvs =>
    rw [e] at hs
    obtain ⟨ps, ws, rfl, h2, h3⟩ := prs_at rv e
    refine ⟨D, ps, ws, rfl, hH, h2, fun p hp => ?_⟩
    have rh2 := rh.unhide (D := D)
    have h3 : Paired (fun (p : List L2.Key × V) (q : List L2.Key × PV) => p.1 = q.1 ∧ RV X.K (m.unhide D) H p.2 q.2) (ws.map (·.2)) kvs := Paired.mono (fun _ _ z => ⟨z.1, z.2.less less_unhide kept_unhide⟩) h3
    refine hs _ _ _ ((ev.unhide hD).trans (Evo.alloc rh2 hp)) (rh2.alloc hp (.dT (mergeT_pair h3 .nil))) (.ref ?_)
    rw [← rh2.len]; simp
theorem dict_turn {X : Cx} {W' : WX} {E : Value → Hp → Prop} {m1 : Mp} {H1 : Hp} {D : Addr} {Q : VK} {t : Tg} {C : Sg → Hs → R Bool} {L : Sg → Hs → R PV} {σ : Sv} {p : Sg} {own : List Nat} {x : V} {xv : PV} {rest : Hs → R (List PV)} {m : Mp} {h : Hs} {acc : List V} {accP : List PV} {H : Hp}
    (hD : H1 D = none) (ht : ∀ i ∈ tgs t, i ∈ own) (ev : Evo m1 H1 m H) (rs : RS X.K m H σ p) (rh : RH X.K m h H) (hd : D ∈ m.hid) (hH : H D = some (.lst acc)) (rv : RVs X.K m H acc accP) (rx : RV X.K m H x xv)
    (hs : satG X.mg X.K E m1 H1 (RV X.K) ((noExc ((compSt own t C L p xv h).bind fun o h1 => (rest h1).bind fun ys h2 => .ok (match o with | some y => y :: ys | none => ys) h2)).bind fun ys h2 => dictT (accP ++ ys) h2) Q) :
    tG X t x (L2.wipe σ own) H fun σ2 H2 => L2.wipe σ2 own = L2.wipe σ own ∧ tT X W' C σ2 H2 fun b H3 =>
      if b = true then tE X W' L σ2 H3 fun y H4 => ∃ acc, H4 D = some (.lst acc) ∧ acc.length < sizeLine ∧ dNext X E m1 H1 D Q rest (upd H4 D (.lst (acc ++ [y]))) else dNext X E m1 H1 D Q rest H3 := by
  unfold compSt at hs
  cases ea : asg t xv (wipe p own) with
  | none => rw [ea] at hs; exact hs.elim
  | some p1 =>
    rw [ea] at hs
    refine ⟨m, wipe p own, h, xv, p1, rs.wipe own, rh, rx, ea, fun σ2 H2 m2 ev2 rs2 rh2 hw => ⟨?_, ?_⟩⟩
    · rw [hw own ht]
      have idem : ∀ (vs : List Nat) (σ : Sv), L2.wipe (L2.wipe σ vs) vs = L2.wipe σ vs := fun vs => by
        have sub : ∀ (vs ws : List Nat) (σ : Sv), (∀ i ∈ vs, i ∈ ws) → L2.wipe (L2.wipe σ vs) ws = L2.wipe σ ws := fun vs ws => by
          induction vs with
          | nil => intro σ _; rfl
          | cons v vs ih =>
            intro σ hv
            show L2.wipe ((L2.wipe σ vs).set v none) ws = _
            rw [wipe_set _ (hv v (by simp)), ih σ fun i hi => hv i (by simp [hi])]
        exact fun σ => sub vs vs σ fun _ h => h
      exact idem own σ
    · dsimp only at hs
      rw [R.bind_assoc] at hs
      refine ⟨m2, p1, h, rs2, rh2, (satN (rel := same) hs).mono fun b H3 ⟨m3, b', h3, ev3, rh3, eb, s3⟩ => ?_⟩
      have eb : b = b' := eb
      subst eb
      have ev03 := ev.trans (ev2.trans ev3)
      have e23 := ev2.trans ev3
      obtain ⟨hH3, hd3⟩ := e23.hd D _ hd hH
      cases b with
      | false =>
        refine iteF ?_
        have s3 : satG X.mg X.K E m1 H1 (RV X.K) ((noExc ((rest h3).bind fun ys h2 => .ok ys h2)).bind fun ys h2 => dictT (accP ++ ys) h2) Q := s3
        rw [noExc_ok] at s3
        exact ⟨m3, h3, acc, accP, ev03, rh3, hd3, hH3, rv.evo e23, s3⟩
      | true =>
        refine iteT ?_
        have s3 : satG X.mg X.K E m1 H1 (RV X.K) ((noExc (((L p1 h3).bind fun y h4 => R.ok (some y) h4).bind fun o h1 => (rest h1).bind fun ys h2 => .ok (match o with | some y => y :: ys | none => ys) h2)).bind fun ys h2 => dictT (accP ++ ys) h2) Q := s3
        rw [R.bind_assoc] at s3
        refine ⟨m3, p1, h3, rs2.evo ev3, rh3, (satN (rel := RV X.K) s3).mono fun y H4 ⟨m4, yv, h4, ev4, rh4, ry, s4⟩ => ?_⟩
        have s4 : satG X.mg X.K E m1 H1 (RV X.K) ((noExc ((rest h4).bind fun ys h2 => .ok (yv :: ys) h2)).bind fun ys h2 => dictT (accP ++ ys) h2) Q := s4
        rw [noExc_ok] at s4
        have es : (fun (ys : List PV) (h2 : Hs) => dictT (accP ++ yv :: ys) h2) = fun ys h2 => dictT ((accP ++ [yv]) ++ ys) h2 := by
          funext ys h2; rw [List.append_assoc]; rfl
        rw [es] at s4
        have ll := dictT_len s4
        obtain ⟨hH4, hd4⟩ := ev4.hd D _ hd3 hH3
        have rv4 := (rv.evo e23).evo ev4
        refine ⟨acc, hH4, ?_, m4, h4, acc ++ [y], accP ++ [yv], (ev03.trans ev4).upH hD, rh4.upH hd4, hd4, upd_same, RVs.upH (.inr hd4) (PairedApp rv4 (.cons ry .nil)), s4⟩
        rw [rv4.len, ← line_eq]
        rw [List.length_append] at ll
        exact ll
abbrev dcpE (own : List Nat) (t : Tg) (I : Sg → Hs → R Iw.It) (C : Sg → Hs → R Bool) (L : Sg → Hs → R PV) : Sg → Hs → R PV := fun σ h => (I σ h).bind fun J h1 => (compGo (compSt own t C L σ) J h1).bind dictT
theorem dict_read {X : Cx} {W W' : WX} {own : List Nat} {t : Tg} {I : Sg → Hs → R Iw.It} {C : Sg → Hs → R Bool} {L : Sg → Hs → R PV} (ht : ∀ i ∈ tgs t, i ∈ own) {σ : Sv} {H : Hp} {Q : VK} (h : tE X W (dcpE own t I C L) σ H Q) : tLc (tI X W I) (tG X t) (tT X W' C) (tE X W' L) own σ H (rDP Q) := by
  obtain ⟨m, p, hh, rs, rh, hs⟩ := h
  refine ⟨m, p, hh, rs, rh, (satG.bind (rel := itRel X.K) hs).mono fun J H1 ⟨m1, J', h1, ev, rh1, rj, s1⟩ D hD => ?_⟩
  have rs1 := rs.evo ev
  obtain ⟨rhD, evD⟩ := rh1.hide (ws := []) hD
  have memD : D ∈ (m1.hide D).hid := List.mem_cons_self
  cases J' with
  | fx xs =>
    have rj : Serves X.K m1 H1 J xs := rj
    have s1 : satG X.mg X.K (Ex W σ) m1 H1 (RV X.K) ((noExc (compF (compSt own t C L p) (xs.drop 0) h1)).bind fun ys h2 => dictT ([] ++ ys) h2) Q := s1
    refine ⟨fun i n H' => n = xs.length - i ∧ i ≤ xs.length ∧ dNext X (Ex W σ) m1 H1 D Q (compF (compSt own t C L p) (xs.drop i)) H', ⟨xs.length, by simp, Nat.zero_le _, m1.hide D, h1, [], [], evD, rhD, memD, upd_same, .nil, s1⟩, ?_⟩
    rintro i n H' ⟨rfl, hi, c⟩
    by_cases hlt : i < xs.length
    · refine .inr ⟨?_, dNext X (Ex W σ) m1 H1 D Q (compF (compSt own t C L p) (xs.drop (i + 1))), fun H2 c2 => ⟨xs.length - (i + 1), by omega, rfl, hlt, c2⟩, fun x H2 y => ?_⟩
      · obtain ⟨m', h', acc, accP, ev1, _⟩ := c
        exact rj.goes i m' H' ev1 hlt
      · obtain ⟨m', h', acc, accP, ev1, rh', hd, hH, rv, s2⟩ := c
        obtain ⟨xv, ex, ev2, rh2, rx⟩ := rj.yields i m' H' h' x H2 ev1 rh' y hlt
        obtain ⟨hH2, hd2⟩ := ev2.hd D _ hd hH
        rw [drop_get ex] at s2
        exact dict_turn (W' := W') hD ht (ev1.trans ev2) (rs1.evo (ev1.trans ev2)) rh2 hd2 hH2 (rv.evo ev2) rx s2
    · have e : i = xs.length := by omega
      subst e
      refine .inl ⟨?_, ?_⟩
      · obtain ⟨m', h', acc, accP, ev1, _⟩ := c
        exact rj.stops m' H' ev1
      · exact dNext_done hD (fun h => by rw [List.drop_length]; rfl) c
  | lv n =>
    obtain ⟨a, ha, rfl⟩ := rj
    have s1 : satG X.mg X.K (Ex W σ) m1 H1 (RV X.K) ((noExc (compV (compSt own t C L p) n big 0 h1)).bind fun ys h2 => dictT ([] ++ ys) h2) Q := s1
    refine ⟨fun i f H' => dNext X (Ex W σ) m1 H1 D Q (compV (compSt own t C L p) n f i) H', ⟨big, m1.hide D, h1, [], [], evD, rhD, memD, upd_same, .nil, s1⟩, ?_⟩
    intro i f H' c
    cases f with
    | zero =>
      obtain ⟨m', h', acc, accP, ev1, rh', hd, hH, rv, s2⟩ := c
      exact s2.elim
    | succ f =>
      obtain ⟨m', h', acc, accP, ev1, rh', hd, hH, rv, s2⟩ := c
      have ha' := ev1.at ha
      unfold compV at s2
      split at s2
      · exact s2.elim
      · rename_i xs eg
        have q0 := getL_ref eg
        obtain ⟨a2, vs, q1, q2, q3, q4⟩ := rv_ref rh' (.ref ha') q0
        cases q1
        split at s2
        · rename_i en
          have hl : xs.length ≤ i := by simpa using en
          exact .inl ⟨⟨vs, SqL.of q3, by rw [q4.len]; exact hl⟩, dNext_done hD (fun h => rfl) (rest := fun h => .ok [] h) ⟨m', h', acc, accP, ev1, rh', hd, hH, rv, s2⟩⟩
        · rename_i xv ex
          obtain ⟨w, e1, rw1⟩ := PairedGet q4 ex
          refine .inr ⟨⟨vs, w, SqL.of q3, e1⟩, dNext X (Ex W σ) m1 H1 D Q (compV (compSt own t C L p) n f (i + 1)), fun H2 c2 => ⟨f, Nat.lt_succ_self f, c2⟩, fun x H2 y => ?_⟩
          obtain ⟨rfl, y⟩ := y
          have e2 := y vs (SqL.of q3)
          rw [e1] at e2; cases e2
          exact dict_turn (W' := W') hD ht ev1 (rs1.evo ev1) rh' hd hH rv rw1 s2
  | ld n =>
    obtain ⟨a, od, vs, ha, hf, rfl⟩ := rj
    have s1 : satG X.mg X.K (Ex W σ) m1 H1 (RV X.K) ((noExc (compL (compSt own t C L p) n big 0 h1)).bind fun ys h2 => dictT ([] ++ ys) h2) Q := s1
    refine ⟨fun i f H' => dNext X (Ex W σ) m1 H1 D Q (compL (compSt own t C L p) n f i) H', ⟨big, m1.hide D, h1, [], [], evD, rhD, memD, upd_same, .nil, s1⟩, ?_⟩
    intro i f H' c
    cases f with
    | zero =>
      obtain ⟨m', h', acc, accP, ev1, rh', hd, hH, rv, s2⟩ := c
      exact s2.elim
    | succ f =>
      obtain ⟨m', h', acc, accP, ev1, rh', hd, hH, rv, s2⟩ := c
      have ha' := ev1.at ha
      have hf' := ev1.fz _ _ _ hf
      unfold compL at s2
      split at s2
      · rename_i kvs e0
        obtain ⟨a2, w, q1, q2, q3⟩ := rh'.at_ n _ e0
        rw [ha'] at q1; cases q1
        rw [hf'] at q2; cases q2
        cases q3 with
        | dTl q4 =>
          have ql := Paired.length q4
          split at s2
          · rename_i en
            have hl : kvs.length ≤ i := by simpa using en
            exact .inl ⟨⟨hf', by omega⟩, dNext_done hD (fun h => rfl) (rest := fun h => .ok [] h) ⟨m', h', acc, accP, ev1, rh', hd, hH, rv, s2⟩⟩
          · rename_i kv ek
            obtain ⟨kv2, e1, hk, hrv⟩ := PairedGet q4 ek
            have hi : i < vs.length := (List.getElem?_eq_some_iff.mp e1).1
            refine .inr ⟨⟨hf', hi⟩, dNext X (Ex W σ) m1 H1 D Q (compL (compSt own t C L p) n f (i + 1)), fun H2 c2 => ⟨f, Nat.lt_succ_self f, c2⟩, fun x H2 y => ?_⟩
            obtain ⟨rfl, k', v', qa, e2, rfl, hq⟩ := y
            rw [e1] at e2; cases e2
            exact dict_turn (W' := W') hD ht ev1 (rs1.evo ev1) rh' hd hH rv (by rw [← hk]; exact rv_key rh' hq) s2
      · exact s2.elim
section
variable {X : Cx} {W : WX} {a b : Expr} {A B : Sg → Hs → R PV}
theorem e_pair {x1} {pos : Pos} (ha : PE X a (tE X W A)) (hb : PE X b (tE X W B)) (na : starEach [a, b] X.env = (false, eval a X.env) :: starEach [b] X.env) (nb : starEach [b] X.env = (false, eval b X.env) :: starEach [] X.env) : PE X (.Tuple [a, b] x1 pos) (tE X W (pairE A B)) :=
  (pe_tup (pa_cons ha (pa_cons hb pa_nil nb) na)).imp fun σ H Q ⟨m, p, hh, rs, rh, hs⟩ =>
    (tE.bind1 rs rh hs).mono fun x H1 ⟨m1, xa, h1, _, rs1, rh1, ra, s1⟩ => (tE.bind1 rs1 rh1 s1).mono fun y H2 ⟨m2, yb, h2, e2, rs2, rh2, rb, s2⟩ => by
      refine ⟨by show 2 ≤ sizeLine; decide, fun p hp => ?_⟩
      have ra := ra.evo e2
      unfold pairv at s2
      split at s2
      · cases rb with
        | ref hn => exact s2 _ _ m2 (Evo.new rh2 hp) (rh2.new hp) (.pr upd_same (rh2.fresh hp) ((rv_d ra).evo (Evo.new rh2 hp)) hn)
      · exact newTup rh2 s2 (.cons (rv_d ra) (.cons (rv_d rb) .nil)) hp
      · exact s2.elim
theorem e_dcp {x : Str} {p pos : Pos} {e : Expr} {own : List Nat} {t : Tg} {I : Sg → Hs → R Iw.It} {C : Sg → Hs → R Bool} {L : Sg → Hs → R PV} {W' : WX} (hx : x = "dict") (hc : X.calm = true) (hu : X.A.units + 64 < cLine) (hg : Gl X x) (hm : X.mg x = none) (ht : ∀ i ∈ tgs t, i ∈ own)
    (he : PE X e (tLc (tI X W I) (tG X t) (tT X W' C) (tE X W' L) own)) (na : starEach [e] X.env = (false, eval e X.env) :: starEach [] X.env) : PE X (.Call (.Name x p) [e] [] pos) (tE X W (dcpE own t I C L)) := by
  subst hx
  refine ⟨fun pins s σ H Q J h => ?_⟩
  refine Call_ (ld_blt J hg hm boot_dict (PyProof.Rows.callWith_type1 (one_arg he J (dict_read (W' := W') ht h) (fun v s2 x H2 I2 r q => ?_) na) na))
  exact call_dictPT hc hu pins s2 σ H2 [x] [v] Q I2 (.cons r .nil) (by
    obtain ⟨a, ps, kvs, rfl, q1, q2, q3⟩ := q
    exact ⟨a, ps, kvs, rfl, q1, q2, q3⟩)
end
end Iw
end

section
set_option Elab.async false
set_option linter.all false
set_option maxRecDepth 100000
/-! dicts written out, asked whether they are empty, popped; how many are equal -/
namespace Iw
open PySem PySem.Spec PyProof.Rows L2
variable [TheW]
section
variable {X : Cx} {W : WX} {a b o e : Expr} {A B : Dn} {pos apos cpos : Pos}
/-! ### list.count -/
def rCntL (X : Cx) (x : V) (xs : List V) (H : Hp) (Q : VK) : Prop := ∃ (a : Addr) (y : V) (d : PyData) (ds : List PyData), x = V.ref a ∧ xs = [y] ∧ Dp X.K H (V.ref a) (.list ds) ∧ Dp X.K H y d ∧
  PyData.plainAll ds = true ∧ d.plain = true ∧ d.depth ≤ 60 ∧ Q (.int ((ds.countP fun z => PyData.eqv z d : Nat) : Int)) H
theorem mt_cntL (hu : X.A.units + 70 < cLine) : MtR X "list.count" (rCntL X) := by
  intro pins s σ H x xs v us Q I rx rxs h
  obtain ⟨a, y, d, ds, rfl, rfl, hl, hy, pd, pe, dd, q⟩ := h
  cases rx
  cases rxs with
  | cons ry rt =>
    rename_i uy ut
    cases rt
    obtain ⟨bs, r1⟩ := Dp.reads I d y uy hy ry
    cases hl with
    | lst hs ha =>
      obtain ⟨its, rv, pl, hlen⟩ := I.list hs
      obtain ⟨as, h4⟩ := Dp.readsAll I ds _ its ha rv
      have il : s.heap.IsList a its.toArray := pl.isList
      refine SeqAt.count_list_data il (show ReadsAll s.heap its.toArray.toList ds as from h4) r1 pd pe (by have := Nat.min_le_right (PyData.depthAll ds) d.depth; omega) ?_
      exact ⟨.int _, H, I.tok _, ⟨_, rfl⟩, q⟩
abbrev cntE (A B : Dn) : Sg → Hs → R PV := fun σ h => (A.e σ h).bind fun l h1 => if isFz l = true then (B.e σ h1).bind fun y h2 => cntv l y h2 else .bad
theorem e_cnt (hu : X.A.units + 70 < cLine) (ho : PE X o (tE X W A.e)) (he : PE X e (tE X W B.e)) (hbase : attributeBase o "count" X.env (eval o X.env) = eval o X.env)
    (hfew : ((backTo cpos (starEach [e] X.env)).all (fun x => !x.1) && (backToKw cpos (keywordEach [] X.env)).all (fun x => x.1.isSome)
      && decide (([e] : List Expr).length + ([] : List Keyword).length + (if ([] : List Keyword).isEmpty then 0 else 1) < 30)) = true)
    (hline : (apos.endLine == cpos.line) = true) (hst : starEach [e] X.env = (false, eval e X.env) :: starEach [] X.env) : PE X (.Call (.Attribute o "count" apos) [e] [] cpos) (tE X W (cntE A B)) :=
  (pe_bm PySem.F.plainAttrs_list PySem.F.slot_list_count PySem.F.type_list_count (mt_cntL hu) ho (pa_cons he pa_nil hst) hbase hfew hline hst (by rfl)).imp fun σ H Q ⟨m, p, hh, rs, rh, hs⟩ =>
    (tE.bind1 rs rh hs).mono fun x H1 ⟨m1, a, h1, _, rs1, rh1, ra, s1⟩ => by
      obtain ⟨hl, s1⟩ := satG_if s1
      rcases a with (_|_|_|_|ds|_|_) | _ | _ <;> first | (cases hl; done) | skip
      obtain ⟨ad, vs, rfl, e2, _, _⟩ := rv_lst ra
      refine ⟨.inl ⟨rfl, vs, SqL.of e2⟩, (tE.bind1 rs1 rh1 s1).mono fun y H2 ⟨m2, b, h2, ev2, rs2, rh2, rb, s2⟩ => ?_⟩
      rcases b with d | _ | _ <;> first | exact s2.elim | skip
      obtain ⟨hc, s2⟩ := satG_if (show satG X.mg X.K (Ex W σ) m2 H2 (RV X.K) (if (PyData.plainAll ds && (d.plain && decide (d.depth ≤ deep))) = true then .ok (Iw.int (ds.countP fun z => PyData.eqv z d : Nat)) h2 else .bad) Q from s2)
      simp only [Bool.and_eq_true, decide_eq_true_eq] at hc
      exact ⟨ad, y, d, ds, rfl, rfl, (rv_d (ra.evo ev2)).dp, (rv_d rb).dp, hc.1, hc.2.1, hc.2.2, now rh2 s2 (.d (.int _))⟩
/-! ### d.pop(k) -/
theorem isDK_at {h : Hs} {v : PV} (e : isDK h v = true) : ∃ n kvs, v = .ref n ∧ h[n]? = some (.dK kvs) := by
  unfold isDK at e
  split at e
  · split at e
    · exact ⟨_, _, rfl, by assumption⟩
    · cases e
  · cases e
theorem drop_pair {κ : Type} [DecidableEq κ] {P : V → PV → Prop} (k : κ) {vs : List (κ × V)} {xs : List (κ × PV)} (r : Paired (fun p q => p.1 = q.1 ∧ P p.2 q.2) vs xs) : Paired (fun p q => p.1 = q.1 ∧ P p.2 q.2) (dropK vs k) (xs.filter fun kv => decide (kv.1 ≠ k)) := by
  unfold dropK
  induction r with
  | nil => exact .nil
  | @cons p q ps qs h t ih =>
    by_cases e : p.1 = k
    · rw [List.filter_cons_of_neg (by simp [e]), List.filter_cons_of_neg (by simp [← h.1, e])]
      exact ih
    · rw [List.filter_cons_of_pos (by simp [e]), List.filter_cons_of_pos (by simp [← h.1, e])]
      exact .cons h ih
abbrev dpopE (A B : Dn) : Sg → Hs → R PV := fun σ h => (A.e σ h).bind fun l h1 => if isDK h1 l = true then (B.e σ h1).bind fun u h2 => dpopv l u h2 else .bad
theorem e_dpop (ho : PE X o (tE X W A.e)) (he : PE X e (tE X W B.e)) (m1 : M1 X o "pop" apos e cpos) : PE X (.Call (.Attribute o "pop" apos) [e] [] cpos) (tE X W (dpopE A B)) :=
  (pe_dpop1 ho he m1).imp fun σ H Q ⟨m, p, hh, rs, rh, hs⟩ =>
    (tE.bind1 rs rh hs).mono fun x H1 ⟨m1, a, h1, _, rs1, rh1, ra, s1⟩ => by
      obtain ⟨hl, s1⟩ := satG_if s1
      obtain ⟨n, kv0, rfl, e0⟩ := isDK_at hl
      obtain ⟨ad, u, h4, h5, h6⟩ := rh1.at_ n _ e0
      cases ra with
      | ref hn =>
        rw [h4] at hn; cases hn
        cases h6 with
        | dK rp =>
          refine ⟨ad, rfl, .inl ⟨_, .inl h5⟩, (tE.bind1 rs1 rh1 s1).mono fun y H2 ⟨m2, b, h2, ev2, rs2, rh2, rb, s2⟩ => ?_⟩
          cases b with
          | d d =>
            cases e1 : h2[n]? with
            | none => rw [dpopv] at s2; rw [e1] at s2; exact s2.elim
            | some ob =>
              cases ob with
              | dK kvs =>
                cases e2 : keyOf d with
                | none => rw [dpopv] at s2; rw [e1] at s2; dsimp only at s2; rw [e2] at s2; exact s2.elim
                | some q =>
                  cases e3 : valP kvs q with
                  | none => rw [dpopv] at s2; rw [e1] at s2; dsimp only at s2; rw [e2] at s2; dsimp only at s2; rw [e3] at s2; exact s2.elim
                  | some pv =>
                    have ed : dpopv (.ref n) (.d d) h2 = .ok pv (h2.set n (.dK (kvs.filter fun kv => decide (kv.1 ≠ q)))) := by
                      rw [dpopv]; rw [e1]; dsimp only; rw [e2]; dsimp only; rw [e3]
                    rw [ed] at s2
                    obtain ⟨a', u', k4, k5, k6⟩ := rh2.at_ n _ e1
                    have ea : a' = ad := by
                      have := ev2.at h4
                      rw [k4] at this
                      exact Option.some.inj this
                    subst ea
                    cases k6 with
                    | dK rp2 =>
                      rcases val_pair q rp2 with ⟨z1, z2⟩ | ⟨v', x', z1, z2, z3⟩
                      · rw [z2] at e3; cases e3
                      · rw [z2] at e3; cases e3
                        exact ⟨_, q, v', k5, keyOf_at (rv_d rb) e2, z1, wr_lst rh2 k4 (nfK k5) (.dK (drop_pair q rp2)) s2 (z3.evo (rh2.wr k4 (nfK k5)))⟩
              | _ => (rw [dpopv] at s2; rw [e1] at s2; exact s2.elim)
          | _ => exact s2.elim
/-! ### {k: v} -/
theorem hideU {K : PySem.W.Frag} {m : Mp} {H : Hp} {D : Addr} {u : HO} (nu : ∀ xs, u ≠ .tup xs) {h : Hs} (r : RH K m h H) (hp : H D = none) : RH K (m.hide D) h (upd H D u) ∧ Evo m H (m.hide D) (upd H D u) := by
  have ne : ∀ {a o}, H a = some o → a ≠ D := fun e => ne_of_none e hp
  have ev : Evo m H (m.hide D) (upd H D u) := ⟨List.prefix_refl _, fun a o n e => ⟨by rw [upd_ne (ne e)]; exact e, List.mem_cons_of_mem _ n⟩, fun a o e n => ⟨by rw [upd_ne (ne e)]; exact e, fun z => by
    rcases z with z | z
    · exact n (.inl z)
    · rcases List.mem_cons.mp z with z | z
      · exact ne e z
      · exact n (.inr z)⟩, fun a o u e => by rw [upd_ne (ne e)]; exact e⟩
  refine ⟨⟨r.len, r.nd, fun a ha => ?_, fun n o e => ?_⟩, ev⟩
  · rcases List.mem_cons.mp ha with z | ha
    · subst z
      refine ⟨fun z => ?_, u, upd_same, nu⟩
      obtain ⟨o, e⟩ := r.tracked (.inl z)
      rw [hp] at e; cases e
    · obtain ⟨h1, o, h2⟩ := r.hd a ha
      exact ⟨h1, o, by rw [upd_ne (ne h2.1)]; exact h2⟩
  · obtain ⟨a, w, e1, e2, e3⟩ := r.at_ n o e
    exact ⟨a, w, e1, by rw [upd_ne (ne e2)]; exact e2, e3.evo ev⟩
theorem upU {K : PySem.W.Frag} {m : Mp} {H : Hp} {D : Addr} {u : HO} (nu : ∀ xs, u ≠ .tup xs) {h : Hs} (r : RH K m h H) (hD : D ∈ m.hid) : RH K m h (upd H D u) := by
  refine ⟨r.len, r.nd, fun a ha => ?_, fun n o e => ?_⟩
  · obtain ⟨h1, o, h2⟩ := r.hd a ha
    refine ⟨h1, ?_⟩
    by_cases z : a = D
    · subst z; exact ⟨u, upd_same, nu⟩
    · exact ⟨o, by rw [upd_ne z]; exact h2⟩
  · obtain ⟨a, w, e1, e2, e3⟩ := r.at_ n o e
    refine ⟨a, w, e1, ?_, e3.upH (.inr hD)⟩
    rw [upd_ne (fun z => (r.hd D hD).1 (by rw [← z]; exact List.mem_of_getElem? e1))]
    exact e2
/-- the new dict stands empty while the pair is made -/
def tD1 (ta tb : TE) : TE := fun σ H Q => ∀ p, H p = none → ta σ (upd H p (.dK [])) fun x H1 => tb σ H1 fun y H2 => H2 p = some (.dK []) ∧
  ((∃ q, x = kV q ∧ Q (.ref p) (upd H2 p (.dK [(q, y)]))) ∨ ∃ (b : Addr) (k : NestedKey) (m : Mp), x = .ref b ∧ Rp m H2 (.ref b) k.data ∧ k.depth ≤ 8 ∧ Q (.ref p) (upd H2 p (ND TheW.w p [(k, b, y)])))
theorem pe_d1 {ta tb : TE} (hu : X.A.units + 64 < cLine) (ww : X.w = TheW.w) (ha : PE X a ta) (hb : PE X b tb) : PE X (.Dict [some a] [b] pos) (tD1 ta tb) := by
  refine ⟨fun pins s σ H Q I q => ?_⟩
  have hn := I.hok.fresh (Nat.le_refl s.heap.objs.size)
  have I1 := I.laid (a := s.heap.objs.size) (o := .dK []) (h' := s.heap.push { cls := .type "dict", data := .dict #[] }) (t' := s.toks) (fun _ _ q => Heap.get?_push_of_some _ q) (Nat.le_refl _) (dk_empty s.heap I.big)
  refine wpAny_Dict_any rfl rfl (by simp) (show 1 ≤ 15 by decide) (pairTrees_cons_walk (thn (ha.run pins _ σ _ _ I1 (q _ hn)) fun u s1 ⟨x, H1, I1, rx, q1⟩ => thn (hb.run pins s1 σ H1 _ I1 q1) fun r s2 ⟨y, H2, I2, ry, e, q2⟩ => pairTrees_nil_walk ?_))
  unfold storeAll
  rw [List.forIn_cons]
  rcases q2 with ⟨k, rfl, q2⟩ | ⟨bk, k, m, rfl, rp, hd, q2⟩
  · refine wpAny_bind (wpAny_bind (d_dictSet I2 e (by rw [sizeLine_eq]; exact Nat.succ_pos _) rx ry fun s3 I3 => wpAny_pure ?_))
    show wpAny _ _ (forIn ([] : List (Value × Value)) _ _) _ _ _
    rw [List.forIn_nil]
    exact wpAny_pure ⟨.ref s.heap.objs.size, _, I3, rfl, q2⟩
  · cases rx
    obtain ⟨_, hsys, va, rva, da⟩ := dk_of I2.hok e
    cases rva
    have dd : s2.heap.DictOfH (nestedKind X.prog X.w) s.heap.objs.size [] := by
      obtain ⟨o, es, ep, h1, h2, h3, _, h5, _⟩ := da
      have e0 : es = #[] := by
        have hl := h5.length
        cases es with
        | mk l =>
          have hl : l.length = 0 := by simpa using hl
          rw [List.length_eq_zero_iff.mp hl]
      subst e0
      exact ⟨o, #[], ep, h1, h2, h3, rfl, fun x hx => by simp at hx, .nil⟩
    refine wpAny_bind (wpAny_bind (wpAny_dictSet_heap (knd := nestedKind X.prog X.w) (hsz := Nat.zero_le _) (show X.A.units + 8 < cLine by omega) ⟨nested_at I2.hok k rp rfl, hd⟩ dd fun h' dd' sb => wpAny_pure ?_))
    show wpAny _ _ (forIn ([] : List (Value × Value)) _ _) _ _ _
    rw [List.forIn_nil]
    have he : ∃ q, h'.get? s.heap.objs.size = some q := let ⟨q, _, _, hq, _⟩ := dd'; ⟨q, hq⟩
    exact wpAny_pure ⟨.ref s.heap.objs.size, _, d_write I2 (by rw [e]; exact True.intro) sb he (nd_new (xs := [(k, bk, y)]) ww (by rw [sizeLine_eq]; exact Nat.succ_pos _) hsys (EN.put .nil k ry) dd'), rfl, q2⟩
theorem e_d1 (hu : X.A.units + 64 < cLine) (ww : X.w = TheW.w) (ha : PE X a (tE X W A.e)) (hb : PE X b (tE X W B.e)) : PE X (.Dict [some a] [b] pos) (tE X W (d1E A B)) :=
  (pe_d1 hu ww ha hb).imp fun σ H Q ⟨m, p, hh, rs, rh, hs⟩ D hD => by
    obtain ⟨rhD, evD⟩ := hideU (u := .dK []) (fun _ z => nomatch z) rh hD
    have memD : D ∈ (m.hide D).hid := List.mem_cons_self
    refine ⟨m.hide D, p, hh, rs.evo evD, rhD, (satN (rel := RV X.K) hs).mono fun x H1 ⟨m1, xv, h1, ev1, rh1, rx, s1⟩ => ?_⟩
    refine ⟨m1, p, h1, (rs.evo evD).evo ev1, rh1, (satN (rel := RV X.K) s1).mono fun y H2 ⟨m2, yv, h2, ev2, rh2, ry, s2⟩ => ?_⟩
    have s2 : satG X.mg X.K (Ex W σ) m H (RV X.K) (d1v xv yv h2) Q := s2
    have ev := ev1.trans ev2
    obtain ⟨hD2, hd2⟩ := ev.hd D _ memD upd_same
    refine ⟨hD2, ?_⟩
    have rx2 := rx.evo ev2
    cases xv with
    | d d =>
      have s2 : satG X.mg X.K (Ex W σ) m H (RV X.K) (if isV yv = true then (match keyOf d with
        | some q => .ok (.ref h2.length) (h2 ++ [.dK [(q, yv)]])
        | none => match keyN d with
          | some q => .ok (.ref h2.length) (h2 ++ [.dN [(q, yv)]])
          | none => .bad) else .bad) Q := s2
      obtain ⟨_, s2⟩ := satG_if s2
      have fin : ∀ (u : HO) (ob : Ob), (∀ xs, u ≠ .tup xs) → RO X.K m2 (upd H2 D u) D u ob → satG X.mg X.K (Ex W σ) m H (RV X.K) (.ok (.ref h2.length) (h2 ++ [ob])) Q → Q (.ref D) (upd H2 D u) := fun u ob nu ro s => by
        refine s _ _ ((m2.unhide D).add D) (((evD.trans ev).upH hD).reveal hD) ((upU nu rh2 hd2).reveal hd2 upd_same ro) (.ref ?_)
        show (m2.own ++ [D])[h2.length]? = _
        rw [List.getElem?_append_right (by rw [rh2.len]; exact Nat.le_refl _), rh2.len]
        simp
      cases e1 : keyOf d with
      | some q =>
        rw [e1] at s2
        exact .inl ⟨q, keyOf_at (rv_d rx) e1, fin _ _ (fun _ z => nomatch z) (.dK (.cons ⟨rfl, ry.upH (.inr hd2)⟩ .nil)) s2⟩
      | none =>
        rw [e1] at s2
        dsimp only at s2
        cases e2 : keyN d with
        | none => rw [e2] at s2; exact s2.elim
        | some q =>
          rw [e2] at s2
          obtain ⟨b, rfl⟩ := keyN_ref e2 (rv_d rx2)
          obtain ⟨e3, e4⟩ := keyN_at e2
          have rp : Rp m2 H2 (.ref b) q.data := by rw [e3]; exact rv_d rx2
          exact .inr ⟨b, q, m2, rfl, rp, e4, fin _ _ (fun _ z => nomatch z) (.dN (.cons ⟨⟨rfl, e4⟩, rp.upH (.inr hd2), ry.upH (.inr hd2)⟩ .nil)) s2⟩
    | _ => exact s2.elim
end
end Iw
end

section
set_option Elab.async false
set_option linter.all false
set_option maxRecDepth 100000
/-! statements -/
namespace Iw
open PySem PySem.Spec PyProof.Rows L2
variable [TheW]
/-- no exception is wished -/
abbrev Wf : WX := fun _ _ _ _ => False
def finS (K : PySem.W.Frag) (D : Ends) : Fl → Mp → Sv → Hp → Prop
  | .nx, _, σ, H => D.nx σ H
  | .bk, _, σ, H => D.bk σ H
  | .ct, _, σ, H => D.ct σ H
  | .rt pv, m, _, H => ∀ v, RV K m H v pv → D.rt v H
/-- a statement's end: whatever stands for the slots and the store -/
def satS (K : PySem.W.Frag) (D : Ends) (m : Mp) (H : Hp) (h' : Hs) (fl : Fl) (p' : Sg) : Prop := ∀ σ' H' m', Evo m H m' H' → RH K m' h' H' → RS K m' H' σ' p' → finS K D fl m' σ' H'
def satR (K : PySem.W.Frag) (D : Ends) (m : Mp) (H : Hp) : R (Fl × Sg) → Prop
  | .ok (fl, p') h' => satS K D m H h' fl p'
  | .exc _ _ => False
  | .bad => False
def tSt (X : Cx) (f : Sg → Hs → R (Fl × Sg)) : TS := fun D σ H => ∃ m p h, RS X.K m H σ p ∧ RH X.K m h H ∧ satR X.K D m H (f p h)
theorem _root_.L2.PS.imp {X : Cx} {st : Stmt} {t t' : TS} (h : PS X st t) (i : ∀ D σ H, t' D σ H → t D σ H) : PS X st t' := ⟨fun pins s σ H D I q => h.run pins s σ H D I (i _ _ _ q)⟩
theorem _root_.L2.PSs.imp {X : Cx} {st : List Stmt} {t t' : TS} (h : PSs X st t) (i : ∀ D σ H, t' D σ H → t D σ H) : PSs X st t' := ⟨fun pins s σ H D I q => h.run pins s σ H D I (i _ _ _ q)⟩
section
variable {K : PySem.W.Frag} {D : Ends} {m m' : Mp} {H H' : Hp}
theorem satR.evo {r : R (Fl × Sg)} (h : satR K D m H r) (e : Evo m H m' H') : satR K D m' H' r := by
  cases r with
  | ok p h' =>
    obtain ⟨fl, p'⟩ := p
    exact fun σ2 H2 m2 e2 q z => h σ2 H2 m2 (e.trans e2) q z
  | exc _ _ => exact h
  | bad => exact h
/-- the first part of a bind, in a statement -/
theorem satR.bind {mg : Str → Option Value} {E : Value → Hp → Prop} {α β : Type} {rel : Mp → Hp → β → α → Prop} {A : R α} {f : α → Hs → R (Fl × Sg)} (hs : satR K D m H (A.bind f)) :
    satG mg K E m H rel A (fun b H1 => ∃ m1 a h1, Evo m H m1 H1 ∧ RH K m1 h1 H1 ∧ rel m1 H1 b a ∧ satR K D m1 H1 (f a h1)) := by
  cases A with
  | ok a h' => exact fun b H' m' e q z => ⟨m', a, h', e, q, z, satR.evo hs e⟩
  | exc c h' => exact hs.elim
  | bad => exact hs.elim
end
section
variable {X : Cx} {W : WX} {a b c o i e : Expr} {es : List Expr} {A B C : Dn} {pos pos' : Pos} {st : Stmt} {rest : List Stmt} {F G : Sg → Hs → R (Fl × Sg)} {D : Ends} {σ : Sv} {H : Hp}
/-- an expression's value in a statement -/
theorem tE_st {f : PV → Hs → R (Fl × Sg)} {m : Mp} {p : Sg} {h : Hs} {E : Sg → Hs → R PV} (rs : RS X.K m H σ p) (rh : RH X.K m h H) (hs : satR X.K D m H ((E p h).bind f)) :
    tE X Wf E σ H fun x H1 => ∃ m1 a h1, Evo m H m1 H1 ∧ RS X.K m1 H1 σ p ∧ RH X.K m1 h1 H1 ∧ RV X.K m1 H1 x a ∧ satR X.K D m1 H1 (f a h1) :=
  ⟨m, p, h, rs, rh, (satR.bind (rel := RV X.K) hs).mono fun b H1 ⟨m1, a, h1, ev, rh1, ra, s1⟩ => ⟨m1, a, h1, ev, rs.evo ev, rh1, ra, s1⟩⟩
theorem tA_st {f : List PV → Hs → R (Fl × Sg)} {m : Mp} {p : Sg} {h : Hs} {E : Sg → Hs → R (List PV)} (rs : RS X.K m H σ p) (rh : RH X.K m h H) (hs : satR X.K D m H ((E p h).bind f)) :
    tA X Wf E σ H fun x H1 => ∃ m1 a h1, Evo m H m1 H1 ∧ RS X.K m1 H1 σ p ∧ RH X.K m1 h1 H1 ∧ RVs X.K m1 H1 x a ∧ satR X.K D m1 H1 (f a h1) :=
  ⟨m, p, h, rs, rh, (satR.bind (rel := RVs X.K) hs).mono fun b H1 ⟨m1, a, h1, ev, rh1, ra, s1⟩ => ⟨m1, a, h1, ev, rs.evo ev, rh1, ra, s1⟩⟩
theorem tT_st {f : Bool → Hs → R (Fl × Sg)} {m : Mp} {p : Sg} {h : Hs} {E : Sg → Hs → R Bool} (rs : RS X.K m H σ p) (rh : RH X.K m h H) (hs : satR X.K D m H ((E p h).bind f)) :
    tT X Wf E σ H fun x H1 => ∃ m1 h1, Evo m H m1 H1 ∧ RS X.K m1 H1 σ p ∧ RH X.K m1 h1 H1 ∧ satR X.K D m1 H1 (f x h1) :=
  ⟨m, p, h, rs, rh, (satR.bind (rel := same) hs).mono fun b H1 ⟨m1, a, h1, ev, rh1, ra, s1⟩ => by
    have ra : b = a := ra
    subst ra
    exact ⟨m1, h1, ev, rs.evo ev, rh1, s1⟩⟩
theorem tI_st {f : Iw.It → Hs → R (Fl × Sg)} {m : Mp} {p : Sg} {h : Hs} {E : Sg → Hs → R Iw.It} (rs : RS X.K m H σ p) (rh : RH X.K m h H) (hs : satR X.K D m H ((E p h).bind f)) :
    tI X Wf E σ H fun x H1 => ∃ m1 a h1, Evo m H m1 H1 ∧ RS X.K m1 H1 σ p ∧ RH X.K m1 h1 H1 ∧ itRel X.K m1 H1 x a ∧ satR X.K D m1 H1 (f a h1) :=
  ⟨m, p, h, rs, rh, (satR.bind (rel := itRel X.K) hs).mono fun b H1 ⟨m1, a, h1, ev, rh1, ra, s1⟩ => ⟨m1, a, h1, ev, rs.evo ev, rh1, ra, s1⟩⟩
/-- what an end in the next slots is worth -/
theorem satR.nx {m : Mp} {p p' : Sg} {h : Hs} (hs : satR X.K D m H (.ok (.nx, p') h)) {σ' : Sv} (rs : RS X.K m H σ' p') (rh : RH X.K m h H) : D.nx σ' H := hs σ' H m .refl rh rs
theorem ss_nil : PSs X [] (tSt X fun σ h => .ok (.nx, σ) h) := pss_nil.imp fun D σ H ⟨m, p, h, rs, rh, hs⟩ => satR.nx (p := p) hs rs rh
abbrev seqS (F G : Sg → Hs → R (Fl × Sg)) : Sg → Hs → R (Fl × Sg) := fun σ h => (F σ h).bind fun p h1 => match p.1 with
    | .nx => G p.2 h1
    | f => .ok (f, p.2) h1
theorem ss_cons (h1 : PS X st (tSt X F)) (h2 : PSs X rest (tSt X G)) : PSs X (st :: rest) (tSt X (seqS F G)) :=
  (pss_cons h1 h2).imp fun D σ H ⟨m, p, h, rs, rh, hs⟩ => by
    refine ⟨m, p, h, rs, rh, ?_⟩
    unfold seqS at hs
    cases e : F p h with
    | ok q h' =>
      obtain ⟨fl, p'⟩ := q
      rw [e] at hs
      cases fl with
      | nx => exact fun σ' H' m' ev rh' rs' => ⟨m', p', h', rs', rh', satR.evo (show satR X.K D m H (G p' h') from hs) ev⟩
      | rt v => exact hs
      | bk => exact hs
      | ct => exact hs
    | exc _ _ => rw [e] at hs; exact hs.elim
    | bad => rw [e] at hs; exact hs.elim
theorem ss_never : PSs X rest (tSt X fun _ _ => .bad) := pss_never.imp fun D σ H ⟨m, p, h, rs, rh, hs⟩ => hs
theorem s_never : PS X st (tSt X fun _ _ => .bad) := ps_never.imp fun D σ H ⟨m, p, h, rs, rh, hs⟩ => hs
theorem s_pass : PS X (.Pass pos) (tSt X fun σ h => .ok (.nx, σ) h) := ps_pass.imp fun D σ H ⟨m, p, h, rs, rh, hs⟩ => satR.nx (p := p) hs rs rh
theorem s_brk : PS X (.Break pos) (tSt X fun σ h => .ok (.bk, σ) h) := ps_break.imp fun D σ H ⟨m, p, h, rs, rh, hs⟩ => hs σ H m .refl rh rs
theorem s_cont : PS X (.Continue pos) (tSt X fun σ h => .ok (.ct, σ) h) := ps_continue.imp fun D σ H ⟨m, p, h, rs, rh, hs⟩ => hs σ H m .refl rh rs
theorem s_ex (he : PE X e (tE X Wf A.e)) (hs : swapsWith e none pos.line X.env = pure false) : PS X (.Expr e pos) (tSt X fun σ h => (A.e σ h).bind fun _ h1 => .ok (.nx, σ) h1) :=
  (ps_expr he hs).imp fun D σ H ⟨m, p, h, rs, rh, hs⟩ => (tE_st rs rh hs).mono fun x H1 ⟨m1, a, h1, _, rs1, rh1, ra, s1⟩ => satR.nx (p := p) s1 rs1 rh1
theorem s_ret (he : PE X e (tE X Wf A.e)) : PS X (.Return (some e) pos) (tSt X fun σ h => (A.e σ h).bind fun v h1 => .ok (.rt v, σ) h1) :=
  (ps_ret he).imp fun D σ H ⟨m, p, h, rs, rh, hs⟩ => (tE_st rs rh hs).mono fun x H1 ⟨m1, a, h1, _, rs1, rh1, ra, s1⟩ => s1 σ H1 m1 .refl rh1 rs1 x ra
theorem s_if {ss tt : List Stmt} (hc : PT X c (tT X Wf (tOf C.e))) (ha : PSs X ss (tSt X F)) (hb : PSs X tt (tSt X G)) : PS X (.If c ss tt pos) (tSt X fun σ h => (tOf C.e σ h).bind fun t h1 => match t with
    | true => F σ h1
    | false => G σ h1) :=
  (ps_if hc ha hb).imp fun D σ H ⟨m, p, h, rs, rh, hs⟩ => (tT_st rs rh hs).mono fun x H1 ⟨m1, h1, _, rs1, rh1, s1⟩ => by
    cases x with
    | true => exact iteT ⟨m1, p, h1, rs1, rh1, s1⟩
    | false => exact iteF ⟨m1, p, h1, rs1, rh1, s1⟩
abbrev asgS (t : Tg) (A : Sg → Hs → R PV) : Sg → Hs → R (Fl × Sg) := fun σ h => (A σ h).bind fun v h1 => R.of ((asg t v σ).map fun σ1 => (.nx, σ1)) h1
theorem asg_in {t : Tg} {m1 : Mp} {a : PV} {h1 : Hs} {p : Sg} {x : V} {H1 : Hp} (rs1 : RS X.K m1 H1 σ p) (rh1 : RH X.K m1 h1 H1) (ra : RV X.K m1 H1 x a) (s1 : satR X.K D m1 H1 (R.of ((asg t a p).map fun σ1 => (Fl.nx, σ1)) h1)) : tG X t x σ H1 D.nx := by
  cases e : asg t a p with
  | none => rw [e] at s1; exact s1.elim
  | some p1 =>
    rw [e] at s1
    exact ⟨m1, p, h1, a, p1, rs1, rh1, ra, e, fun σ2 H2 m2 ev2 rs2 rh2 _ => s1 σ2 H2 m2 ev2 rh2 rs2⟩
theorem s_asg {t : Tg} {tg : Expr} (he : PE X e (tE X Wf A.e)) (hg : PG X tg (tG X t)) (hs : swapsWithSole [tg] e pos.line X.env = pure false) (hw : swappedStores [tg] e X.env = pure none) (h1 : (assignEach [tg] X.env).map (·.2) = [assign tg X.env]) : PS X (.Assign [tg] e pos) (tSt X (asgS t A.e)) :=
  (ps_asg he hg hs hw h1).imp fun D σ H ⟨m, p, h, rs, rh, hs⟩ => (tE_st rs rh hs).mono fun x H1 ⟨m1, a, h1, _, rs1, rh1, ra, s1⟩ => asg_in rs1 rh1 ra s1
theorem s_set {j : Nat} {x : Str} (hN : X.N.Nodup) (hi : X.N[j]? = some x) (hx : Loc X.env.scope x) (he : PE X e (tE X Wf A.e)) (hs : swapsWith e (some (.Name x pos')) pos.line X.env = pure false) (hf : X.fn x = true ∨ X.env.scope.names.lookup x = some .local) : PS X (.Assign [.Name x pos'] e pos) (tSt X (asgS (.nm j) A.e)) :=
  (ps_set hN hi hx he hs hf).imp fun D σ H ⟨m, p, h, rs, rh, hs⟩ => (tE_st rs rh hs).mono fun x H1 ⟨m1, a, h1, _, rs1, rh1, ra, s1⟩ => by
    have s1 : satR X.K D m1 H1 (.ok (.nx, p.set j (some a)) h1) := s1
    exact satR.nx (p := p) s1 (rs1.set ra) rh1
/-! ### a, b, .. = x, y, .. -/
def setV (σ : Sv) : List Nat → List V → Sv
  | i :: is, v :: vs => setV (σ.set i (some v)) is vs
  | _, _ => σ
theorem setAll_at {K : PySem.W.Frag} {m : Mp} {H : Hp} : ∀ {is : List Nat} {vs : List V} {ps : List PV} {σ : Sv} {p p' : Sg}, RS K m H σ p → RVs K m H vs ps → setAll p is ps = some p' → vs.length = is.length ∧ RS K m H (setV σ is vs) p'
  | [], _, _, _, _, _, rs, .nil, e => by cases e; exact ⟨rfl, rs⟩
  | [], _, _, _, _, _, rs, .cons _ _, e => by cases e
  | _ :: _, _, _, _, _, _, rs, .nil, e => by cases e
  | i :: is, v :: vs, x :: ps, σ, p, p', rs, .cons r t, e => by
    obtain ⟨h1, h2⟩ := setAll_at (is := is) (rs.set (i := i) r) t e
    exact ⟨by simp [h1], h2⟩
def gNs (is : List Nat) : TGs := fun vs σ H Q => vs.length = is.length ∧ Q (setV σ is vs) H
theorem gs_nil : PGs X [] (gNs []) := pgs_nil.imp fun v σ H Q ⟨h1, h2⟩ => by
  cases v with
  | nil => exact ⟨rfl, h2⟩
  | cons _ _ => cases h1
theorem gs_cons {x : Str} {j : Nat} {is : List Nat} (hN : X.N.Nodup) (hi : X.N[j]? = some x) (hx : Loc X.env.scope x) (hf : X.fn x = true ∨ X.env.scope.names.lookup x = some .local) (hr : PGs X es (gNs is)) : PGs X (.Name x pos' :: es) (gNs (j :: is)) :=
  (pgs_cons (pg_name hN hi hx hf) hr).imp fun v σ H Q ⟨h1, h2⟩ => by
    cases v with
    | nil => cases h1
    | cons v vs => exact ⟨v, vs, rfl, by simpa using h1, h2⟩
abbrev parS (is : List Nat) (A : Sg → Hs → R (List PV)) : Sg → Hs → R (Fl × Sg) := fun σ h => (A σ h).bind fun vs h1 => R.of ((setAll σ is vs).map fun σ1 => (.nx, σ1)) h1
theorem par_in {is : List Nat} {m1 : Mp} {a : List PV} {h1 : Hs} {p : Sg} {x : List V} {H1 : Hp} (rs1 : RS X.K m1 H1 σ p) (rh1 : RH X.K m1 h1 H1) (ra : RVs X.K m1 H1 x a) (s1 : satR X.K D m1 H1 (R.of ((setAll p is a).map fun σ1 => (Fl.nx, σ1)) h1)) : x.length = is.length ∧ D.nx (setV σ is x) H1 := by
  cases e : setAll p is a with
  | none => rw [e] at s1; exact s1.elim
  | some p1 =>
    rw [e] at s1
    obtain ⟨h1, h2⟩ := setAll_at rs1 ra e
    exact ⟨h1, s1 _ H1 m1 .refl rh1 h2⟩
theorem ps_parN {ts : List Expr} {n : Nat} {ta : TA} {g : TGs} {pt : Pos} {kt k2 : Nat} {pt2 : Pos} (hc : X.calm = true) (hn : n ≤ sizeLine) (ha : PA X es ta) (hg : PGs X ts g) (hts : (assignEach ts X.env).length = n) (hst : (assignEach ts X.env).findIdx? (·.1) = none)
    (hs : swapsWithSole [.Tuple ts kt pt] (.Tuple es k2 pt2) pos.line X.env = pure false) (hw : swappedStores [.Tuple ts kt pt] (.Tuple es k2 pt2) X.env = pure none) :
    PS X (.Assign [.Tuple ts kt pt] (.Tuple es k2 pt2) pos) (fun D σ H => ta σ H fun vs H1 => vs.length = n ∧ g vs σ H1 D.nx) := by
  refine ⟨fun pins s σ H D I h => ?_⟩
  refine wpAny_Assign_stores (Tuple_ (thn (ha.run _ pins s σ H _ I h) fun us s1 ⟨vs, H1, I1, r1, hl, q1⟩ => ?_)) hs hw
  have l1 := r1.length
  refine wpAny_newObj_type ?_ (by show us.toArray.size ≤ sizeLine; rw [List.size_toArray]; omega)
  have I2 : Inv X pins σ H1 { s1 with heap := s1.heap.push { cls := .type "tuple", data := .seq us.toArray } } := I1.kept (t' := s1.toks) fun b o e => Heap.get?_push_of_some _ e
  show wpAny _ _ (assignAll _ [assign (.Tuple ts kt pt) X.env]) _ _ _
  have go : wpAny (model X.prog X.w) X.A (assign (.Tuple ts kt pt) X.env (.ref s1.heap.objs.size)) (fun _ => SP X pins D .next) X.xe { s1 with heap := s1.heap.push { cls := .type "tuple", data := .seq us.toArray } } := by
    refine assign_Tuple_tuple (items := us.toArray) (I.ok.hd hc) (IsTup.new s1.heap _) (by rw [hts, List.size_toArray]; omega) hst fun h' hx => ?_
    have I3 : Inv X pins σ H1 { s1 with heap := h' } := I2.kept (t' := s1.toks) fun b o e => hx b o (Nat.ne_of_lt (Heap.lt_size e)) e
    exact thn (hg.run pins _ σ H1 vs _ _ I3 (by simpa using r1) q1) fun _ s2 q => q
  exact go
theorem s_parN {ts : List Expr} {is : List Nat} {pt : Pos} {kt k2 : Nat} {pt2 : Pos} {A : Sg → Hs → R (List PV)} (hc : X.calm = true) (hn : is.length ≤ sizeLine) (ha : PA X es (tA X Wf A)) (hg : PGs X ts (gNs is)) (hts : (assignEach ts X.env).length = is.length) (hst : (assignEach ts X.env).findIdx? (·.1) = none)
    (hs : swapsWithSole [.Tuple ts kt pt] (.Tuple es k2 pt2) pos.line X.env = pure false) (hw : swappedStores [.Tuple ts kt pt] (.Tuple es k2 pt2) X.env = pure none) :
    PS X (.Assign [.Tuple ts kt pt] (.Tuple es k2 pt2) pos) (tSt X (parS is A)) :=
  (ps_parN hc hn ha hg hts hst hs hw).imp fun D σ H ⟨m, p, h, rs, rh, hs⟩ => (tA_st rs rh hs).mono fun x H1 ⟨m1, a, h1, _, rs1, rh1, ra, s1⟩ => by
    obtain ⟨q1, q2⟩ := par_in rs1 rh1 ra s1
    exact ⟨q1, q1, q2⟩
abbrev parTS (t : Tg) (A : Sg → Hs → R (List PV)) : Sg → Hs → R (Fl × Sg) := fun σ h => (A σ h).bind fun vs h1 => R.of ((asgs t vs σ).map fun σ1 => (.nx, σ1)) h1
theorem asgs_len : ∀ {t : Tg} {vs : List PV} {p p' : Sg}, asgs t vs p = some p' → vs.length = t.len
  | .nil, [], _, _, _ => rfl
  | .nil, _ :: _, _, _, e => by cases e
  | .nm _, [], _, _, e => by cases e
  | .nm _, _ :: _, _, _, e => by cases e
  | .cons _ _, [], _, _, e => by cases e
  | .cons a b, v :: vs, p, p', e => by
    obtain ⟨p1, _, e2⟩ := Option.bind_eq_some_iff.mp (show (asg a v p).bind (asgs b vs) = some p' from e)
    exact congrArg (· + 1) (asgs_len e2)
theorem s_parT {ts : List Expr} {t : Tg} {pt : Pos} {kt k2 : Nat} {pt2 : Pos} {A : Sg → Hs → R (List PV)} (hc : X.calm = true) (hn : ts.length ≤ sizeLine) (ha : PA X es (tA X Wf A)) (hg : PGs X ts (tGs X t)) (hl : t.len = ts.length) (hts : (assignEach ts X.env).length = ts.length) (hst : (assignEach ts X.env).findIdx? (·.1) = none)
    (hs : swapsWithSole [.Tuple ts kt pt] (.Tuple es k2 pt2) pos.line X.env = pure false) (hw : swappedStores [.Tuple ts kt pt] (.Tuple es k2 pt2) X.env = pure none) :
    PS X (.Assign [.Tuple ts kt pt] (.Tuple es k2 pt2) pos) (tSt X (parTS t A)) :=
  (ps_parN hc hn ha hg hts hst hs hw).imp fun D σ H ⟨m, p, h, rs, rh, hs⟩ => (tA_st rs rh hs).mono fun x H1 ⟨m1, a, h1, _, rs1, rh1, ra, s1⟩ => by
    cases e : asgs t a p with
    | none => rw [e] at s1; exact s1.elim
    | some p1 =>
      rw [e] at s1
      exact ⟨by rw [ra.len, asgs_len e, hl], m1, p, h1, a, p1, rs1, rh1, ra, e, fun σ2 H2 m2 ev2 rs2 rh2 _ => s1 σ2 H2 m2 ev2 rh2 rs2⟩
theorem s_par2 {k l : Nat} {x y : Str} {px py pt : Pos} {kt k2 pt2} {A : Sg → Hs → R (List PV)} (hc : X.calm = true) (hN : X.N.Nodup) (hi : X.N[k]? = some x) (hj : X.N[l]? = some y) (hij : k ≠ l)
    (hx : X.env.scope.names.lookup x = some .local) (hy : X.env.scope.names.lookup y = some .local) (ha : PA X [a, b] (tA X Wf A))
    (hw : swappedStores [.Tuple [.Name x px, .Name y py] kt pt] (.Tuple [a, b] k2 pt2) X.env = pure (some [x, y]))
    (hs : swapsWithSole [.Tuple [.Name x px, .Name y py] kt pt] (.Tuple [a, b] k2 pt2) pos.line X.env = pure false) :
    PS X (.Assign [.Tuple [.Name x px, .Name y py] kt pt] (.Tuple [a, b] k2 pt2) pos) (tSt X (parS [k, l] A)) :=
  (ps_par hc hN hi hj hij hx hy ha hw hs).imp fun D σ H ⟨m, p, h, rs, rh, hs⟩ => (tA_st rs rh hs).mono fun x H1 ⟨m1, a, h1, _, rs1, rh1, ra, s1⟩ => by
    obtain ⟨q1, q2⟩ := par_in rs1 rh1 ra s1
    match x, q1, q2 with
    | [v, w], _, q2 => exact ⟨v, w, rfl, q2⟩
theorem s_par3 {k l n : Nat} {x y z : Str} {px py pz pt : Pos} {kt k2 pt2} {A : Sg → Hs → R (List PV)} (hc : X.calm = true) (hN : X.N.Nodup) (hi : X.N[k]? = some x) (hj : X.N[l]? = some y) (hl : X.N[n]? = some z) (hij : k ≠ l) (hil : k ≠ n) (hjl : l ≠ n)
    (hx : X.env.scope.names.lookup x = some .local) (hy : X.env.scope.names.lookup y = some .local) (hz : X.env.scope.names.lookup z = some .local) (ha : PA X [a, b, c] (tA X Wf A))
    (hw : swappedStores [.Tuple [.Name x px, .Name y py, .Name z pz] kt pt] (.Tuple [a, b, c] k2 pt2) X.env = pure (some [x, y, z]))
    (hs : swapsWithSole [.Tuple [.Name x px, .Name y py, .Name z pz] kt pt] (.Tuple [a, b, c] k2 pt2) pos.line X.env = pure false) :
    PS X (.Assign [.Tuple [.Name x px, .Name y py, .Name z pz] kt pt] (.Tuple [a, b, c] k2 pt2) pos) (tSt X (parS [k, l, n] A)) :=
  (ps_par3 hc hN hi hj hl hij hil hjl hx hy hz ha hw hs).imp fun D σ H ⟨m, p, h, rs, rh, hs⟩ => (tA_st rs rh hs).mono fun x H1 ⟨m1, a, h1, _, rs1, rh1, ra, s1⟩ => by
    obtain ⟨q1, q2⟩ := par_in rs1 rh1 ra s1
    match x, q1, q2 with
    | [u, v, w], _, q2 => exact ⟨u, v, w, rfl, q2⟩
end
end Iw
end

section
set_option Elab.async false
set_option linter.all false
set_option maxRecDepth 100000
namespace Iw
open PySem PySem.Spec PyProof.Rows L2
variable [TheW]
section
variable {X : Cx} {a b c o i e : Expr} {es : List Expr} {A B C : Dn} {pos pos' : Pos} {st : Stmt} {rest : List Stmt} {F G : Sg → Hs → R (Fl × Sg)} {D : Ends} {σ : Sv} {H : Hp}
def rSetI (X : Cx) (k : Nat) : TSet := fun o i v H Q => ∃ m h po pi pz h', RH X.K m h H ∧ RV X.K m H o po ∧ RV X.K m H i pi ∧ RV X.K m H v pz ∧ setv k po pi pz h = .ok () h' ∧ ∀ H', Evo m H m H' → RH X.K m h' H' → Q H'
theorem setv_inv {k : Nat} {po pi pz : PV} {h h' : Hs} (e : setv k po pi pz h = .ok () h') : ∃ n d, po = .ref n ∧ pi = .d d ∧
    ((∃ xs j l, h[n]? = some (.lst xs) ∧ d = .int j ∧ ixN xs.length j = some l ∧ h' = h.set n (.lst (xs.set l pz))) ∨ ∃ ob ob', h[n]? = some ob ∧ dputO ob d pz = some ob' ∧ h' = h.set n ob') := by
  unfold setv at e
  cases po with
  | ref n =>
    cases pi with
    | d d =>
      refine ⟨n, d, rfl, rfl, ?_⟩
      dsimp only at e
      cases e0 : h[n]? with
      | none => rw [e0] at e; cases e
      | some ob =>
        rw [e0] at e
        cases ob with
        | lst xs =>
          dsimp only at e
          cases d with
          | int j =>
            dsimp only at e
            cases el : ixN xs.length j with
            | none => rw [el] at e; cases e
            | some l =>
              rw [el] at e
              dsimp only at e
              split at e
              · cases e
                exact .inl ⟨xs, j, l, rfl, rfl, el, rfl⟩
              · cases e
          | _ => cases e
        | dK kvs =>
          dsimp only at e
          cases ed : dputO (.dK kvs) d pz with
          | none => rw [ed] at e; cases e
          | some ob' =>
            rw [ed] at e
            dsimp only at e
            split at e
            · cases e
              exact .inr ⟨_, ob', rfl, ed, rfl⟩
            · cases e
        | dT kvs =>
          dsimp only at e
          cases ed : dputO (.dT kvs) d pz with
          | none => rw [ed] at e; cases e
          | some ob' =>
            rw [ed] at e
            dsimp only at e
            split at e
            · cases e
              exact .inr ⟨_, ob', rfl, ed, rfl⟩
            · cases e
        | dTl kvs => cases e
        | dNl kvs => cases e
        | dN kvs =>
          dsimp only at e
          cases ed : dputO (.dN kvs) d pz with
          | none => rw [ed] at e; cases e
          | some ob' =>
            rw [ed] at e
            dsimp only at e
            split at e
            · cases e
              exact .inr ⟨_, ob', rfl, ed, rfl⟩
            · cases e
    | _ => cases e
  | _ => cases e
theorem set_iw (hu : X.A.units + 64 < cLine) (ww : X.w = TheW.w) (k : Nat) : PSet X (rSetI X k) := by
  intro pins s σ H o i v ov iv u Q I ro ri rv ⟨m, h, po, pi, pz, h', rh, r1, r2, r3, es, q⟩
  obtain ⟨n, d, rfl, rfl, hq⟩ := setv_inv es
  rcases hq with ⟨xs, j, l, e0, rfl, el, rfl⟩ | ⟨ob, ob', e0, ed, rfl⟩
  · obtain ⟨a, vs, rfl, h1, h2, h3⟩ := rv_ref rh r1 e0
    cases rv_int r2
    refine set_list pins s σ H _ _ v ov iv u Q I ro ri rv ⟨a, vs, j, l, rfl, rfl, h2, by rw [h3.len]; exact el, ?_⟩
    exact q _ (rh.wr h1 (nfL h2)) (rh.write h1 (nfL h2) ((RO.lst (PairedSet r3 l h3)).evo (rh.wr h1 (nfL h2))))
  · obtain ⟨a, w, h1, h2, h3⟩ := rh.at_ n _ e0
    cases r1 with
    | ref ha =>
      rw [h1] at ha; cases ha
      cases ro
      cases ob with
      | lst _ => cases ed
      | dTl _ => cases ed
      | dNl _ => cases ed
      | dN xs =>
        cases h3 with
        | dN rp =>
          have ed : (if xs.length < line then (keyN d).map fun k => Ob.dN (putP xs k pz) else none) = some ob' := ed
          split at ed
          · rename_i hl
            obtain ⟨kk, e1, rfl⟩ := Option.map_eq_some_iff.mp ed
            have rd := rv_d r2
            obtain ⟨b, rfl⟩ := keyN_ref e1 rd
            obtain ⟨ek, hd⟩ := keyN_at e1
            cases ri
            have rb' : Rp m H (.ref b) kk.data := by rw [ek]; exact rd
            have nf : ∀ o u, H a ≠ some (.frz o u) := fun o u z => by rw [h2] at z; cases z
            refine n_setItem ww hu I h2 rp rb' hd (by rw [rp.len, ← line_eq]; exact hl) rv fun s' I' => ⟨_, I', ?_⟩
            exact q _ (rh.wr h1 nf) (rh.write h1 nf ((RO.dN (rp.put hd rb' r3)).evo (rh.wr h1 nf)))
          · cases ed
      | dK xs =>
        cases w with
        | dK vs =>
          have rp : Paired (fun p q => p.1 = q.1 ∧ RV X.K m H p.2 q.2) vs xs := by cases h3; assumption
          have ed : (if xs.length < line then (keyOf d).map fun k => Ob.dK (putP xs k pz) else none) = some ob' := ed
          split at ed
          · rename_i hl
            obtain ⟨kk, e1, rfl⟩ := Option.map_eq_some_iff.mp ed
            have ei := keyOf_at (rv_d r2) e1
            subst ei
            refine d_setItem (show X.A.units + 1 < cLine by omega) I (DPut.k h2 (by rw [Paired.length rp, ← line_eq]; exact hl)) ri rv fun s' I' => ⟨_, I', ?_⟩
            exact q _ (rh.wr h1 (nfK h2)) (rh.write h1 (nfK h2) ((RO.dK (put_pair kk r3 rp)).evo (rh.wr h1 (nfK h2))))
          · cases ed
        | _ => cases h3
      | dT xs =>
        cases w with
        | dT vs =>
          have rp : Paired (fun p q => p.1 = q.1 ∧ RV X.K m H p.2 q.2) vs xs := by cases h3; assumption
          have ed : (if xs.length < line then (keysOf d).map fun k => Ob.dT (putP xs k pz) else none) = some ob' := ed
          split at ed
          · rename_i hl
            obtain ⟨kk, e1, rfl⟩ := Option.map_eq_some_iff.mp ed
            obtain ⟨b, rfl, hb, _⟩ := keysOf_at (rv_d r2) e1
            refine d_setItem (show X.A.units + 1 < cLine by omega) I (DPut.t h2 hb (by rw [Paired.length rp, ← line_eq]; exact hl)) ri rv fun s' I' => ⟨_, I', ?_⟩
            exact q _ (rh.wr h1 (nfT h2)) (rh.write h1 (nfT h2) ((RO.dT (put_pair kk r3 rp)).evo (rh.wr h1 (nfT h2))))
          · cases ed
        | _ => cases h3
abbrev subS (k : Nat) (A B C : Sg → Hs → R PV) : Sg → Hs → R (Fl × Sg) := fun σ h => (C σ h).bind fun z h1 => (A σ h1).bind fun x h2 => (B σ h2).bind fun y h3 => (setv k x y z h3).bind fun _ h4 => .ok (.nx, σ) h4
theorem s_sub {v : Expr} (hu : X.A.units + 64 < cLine) (ww : X.w = TheW.w) (k : Nat) (ho : PE X o (tE X Wf A.e)) (hi : PE X i (tE X Wf B.e)) (hv : PE X v (tE X Wf C.e)) (hs : swapsWithSole [.Subscript o i pos'] v pos.line X.env = pure false) (hw : swappedStores [.Subscript o i pos'] v X.env = pure none)
    (ha : ∀ v, assign (.Subscript o i pos') X.env v = (do
      let ov ← holding [v] (eval o X.env)
      let iv ← holding [v, ov] (eval i X.env)
      standAt pos'
      holding [v, ov, iv] (setItem ov iv v)
      release [v, ov, iv] [])) : PS X (.Assign [.Subscript o i pos'] v pos) (tSt X (subS k A.e B.e C.e)) :=
  (ps_asg hv (pg_sub ho hi (set_iw hu ww k) ha) hs hw (by rfl)).imp fun D σ H ⟨m, p, h, rs, rh, hs⟩ =>
    (tE_st rs rh hs).mono fun z H1 ⟨m1, pz, h1, _, rs1, rh1, rz, s1⟩ =>
    (tE_st rs1 rh1 s1).mono fun x H2 ⟨m2, px, h2, ev2, rs2, rh2, rx, s2⟩ =>
    (tE_st rs2 rh2 s2).mono fun y H3 ⟨m3, py, h3, ev3, rs3, rh3, ry, s3⟩ => by
      cases e : setv k px py pz h3 with
      | ok u h4 =>
        rw [e] at s3
        exact ⟨m3, h3, px, py, pz, h4, rh3, rx.evo ev3, ry, (rz.evo ev2).evo ev3, e, fun H4 ev4 rh4 => satR.nx (p := p) (satR.evo (show satR X.K D m3 H3 (.ok (.nx, p) h4) from s3) ev4) (rs3.evo ev4) rh4⟩
      | exc _ _ => rw [e] at s3; exact s3.elim
      | bad => rw [e] at s3; exact s3.elim
abbrev augS (j : Nat) (A : Sg → Hs → R PV) : Sg → Hs → R (Fl × Sg) := fun σ h => match σ[j]? with
    | some (some x) => (A σ h).bind fun y h1 => (augv x y h1).bind fun z h2 => .ok (.nx, σ.set j (some z)) h2
    | _ => .bad
theorem s_aug {j : Nat} {x : Str} (hN : X.N.Nodup) (hi : X.N[j]? = some x) (hx : Loc X.env.scope x) (he : PE X e (tE X Wf A.e)) (hf : X.fn x = true ∨ X.env.scope.names.lookup x = some .local) : PS X (.AugAssign (.Name x pos') .Add e pos) (tSt X (augS j A.e)) :=
  (ps_aug hN hi hx he ip_add hf).imp fun D σ H ⟨m, p, h, rs, rh, hs⟩ => by
    unfold augS at hs
    split at hs
    · rename_i pv e0
      obtain ⟨v, e1, rv⟩ := rs.at_ j pv e0
      refine ⟨v, e1, (tE_st rs rh hs).mono fun y H1 ⟨m1, py, h1, ev1, rs1, rh1, ry, s1⟩ => ?_⟩
      rcases pv with (_|_|a|_|_|_|_) | _ | _ <;> first | exact s1.elim | skip
      rcases py with (_|_|b|_|_|_|_) | _ | _ <;> first | exact s1.elim | skip
      cases rv_int rv
      cases rv_int ry
      have s1 : satR X.K D m1 H1 (.ok (.nx, p.set j (some (Iw.int (a + b)))) h1) := s1
      exact ⟨a, b, rfl, rfl, satR.nx (p := p) s1 (rs1.set (.d (.int _))) rh1⟩
    · exact hs.elim
/-! ### loops -/
abbrev forS (t : Tg) (I : Sg → Hs → R Iw.It) (F : Sg → Hs → R (Fl × Sg)) : Sg → Hs → R (Fl × Sg) := fun σ h => (I σ h).bind fun J h1 => match J with
    | .fx xs => forF t F xs σ h1
    | .lv n => forV t F n big 0 σ h1
    | .ld n => forL t F n big 0 σ h1
/-- between the turns of a loop that began at m0, H0 -/
def tStB (X : Cx) (m0 : Mp) (H0 : Hp) (F : Sg → Hs → R (Fl × Sg)) : TS := fun D σ H => ∃ m p h, Evo m0 H0 m H ∧ RS X.K m H σ p ∧ RH X.K m h H ∧ satR X.K D m H (F p h)
theorem body_turn {F : Sg → Hs → R (Fl × Sg)} {Rr : Sg → Hs → R (Fl × Sg)} {m0 m : Mp} {H0 : Hp} {h : Hs} {p : Sg} (ev0 : Evo m0 H0 m H) (rs : RS X.K m H σ p) (rh : RH X.K m h H)
    (hs : satR X.K D m H ((F p h).bind fun p h2 => match p.1 with
        | .nx => Rr p.2 h2
        | .ct => Rr p.2 h2
        | .bk => .ok (.nx, p.2) h2
        | .rt v => .ok (.rt v, p.2) h2)) :
    tSt X F { D with nx := tStB X m0 H0 Rr D, ct := tStB X m0 H0 Rr D, bk := D.nx } σ H := by
  refine ⟨m, p, h, rs, rh, ?_⟩
  cases e : F p h with
  | ok q h' =>
    obtain ⟨fl, p'⟩ := q
    rw [e] at hs
    cases fl with
    | nx => exact fun σ' H' m' ev rh' rs' => ⟨m', p', h', ev0.trans ev, rs', rh', satR.evo (show satR X.K D m H (Rr p' h') from hs) ev⟩
    | ct => exact fun σ' H' m' ev rh' rs' => ⟨m', p', h', ev0.trans ev, rs', rh', satR.evo (show satR X.K D m H (Rr p' h') from hs) ev⟩
    | bk => exact hs
    | rt v => exact hs
  | exc _ _ => rw [e] at hs; exact hs.elim
  | bad => rw [e] at hs; exact hs.elim
/-- one turn, the rest of the turns in Rr -/
theorem for_turn {t : Tg} {F : Sg → Hs → R (Fl × Sg)} {Rr : Sg → Hs → R (Fl × Sg)} {m0 m : Mp} {H0 : Hp} {h : Hs} {p : Sg} {x : V} {xv : PV} (ev0 : Evo m0 H0 m H) (rs : RS X.K m H σ p) (rh : RH X.K m h H) (rx : RV X.K m H x xv)
    (hs : satR X.K D m H (match asg t xv p with
      | none => .bad
      | some σ1 => (F σ1 h).bind fun p h2 => match p.1 with
        | .nx => Rr p.2 h2
        | .ct => Rr p.2 h2
        | .bk => .ok (.nx, p.2) h2
        | .rt v => .ok (.rt v, p.2) h2)) :
    tG X t x σ H fun σ2 H2 => tSt X F { D with nx := tStB X m0 H0 Rr D, ct := tStB X m0 H0 Rr D, bk := D.nx } σ2 H2 := by
  cases ea : asg t xv p with
  | none => rw [ea] at hs; exact hs.elim
  | some p1 =>
    rw [ea] at hs
    exact ⟨m, p, h, xv, p1, rs, rh, rx, ea, fun σ2 H2 m2 ev2 rs2 rh2 _ => body_turn (ev0.trans ev2) rs2 rh2 (satR.evo hs ev2)⟩
theorem for_read {t : Tg} {I : Sg → Hs → R Iw.It} {F : Sg → Hs → R (Fl × Sg)} {D : Ends} {σ : Sv} {H : Hp} (h : tSt X (forS t I F) D σ H) : tFor (tI X Wf I) (tG X t) (tSt X F) D σ H := by
  obtain ⟨m, p, hh, rs, rh, hs⟩ := h
  obtain ⟨mm, pp, h0, q1, q2, q3⟩ := (tI_st rs rh hs : tI X Wf I σ H _)
  refine ⟨mm, pp, h0, q1, q2, q3.mono fun J H1 ⟨m1, J', h1, ev, rs1, rh1, rj, s1⟩ => ?_⟩
  cases J' with
  | fx xs =>
    have rj : Serves X.K m1 H1 J xs := rj
    have s1 : satR X.K D m1 H1 (forF t F (xs.drop 0) p h1) := s1
    refine ⟨fun i n σ' H' => n = xs.length - i ∧ i ≤ xs.length ∧ tStB X m1 H1 (forF t F (xs.drop i)) D σ' H', ⟨xs.length, by simp, Nat.zero_le _, m1, p, h1, .refl, rs1, rh1, s1⟩, ?_⟩
    rintro i n σ' H' ⟨rfl, hi, m', p', h', ev', rs', rh', s'⟩
    by_cases hlt : i < xs.length
    · refine .inr ⟨rj.goes i m' H' ev' hlt, tStB X m1 H1 (forF t F (xs.drop (i + 1))) D, fun σ2 H2 c => ⟨xs.length - (i + 1), by omega, rfl, hlt, c⟩, fun x H2 y => ?_⟩
      obtain ⟨xv, ex, ev2, rh2, rx⟩ := rj.yields i m' H' h' x H2 ev' rh' y hlt
      rw [drop_get ex] at s'
      exact for_turn (ev'.trans ev2) (rs'.evo ev2) rh2 rx (satR.evo s' ev2)
    · have e : i = xs.length := by omega
      subst e
      rw [List.drop_length] at s'
      exact .inl ⟨rj.stops m' H' ev', satR.nx (p := p') s' rs' rh'⟩
  | lv n =>
    obtain ⟨a, ha, rfl⟩ := rj
    have s1 : satR X.K D m1 H1 (forV t F n big 0 p h1) := s1
    refine ⟨fun i f σ' H' => tStB X m1 H1 (forV t F n f i) D σ' H', ⟨big, m1, p, h1, .refl, rs1, rh1, s1⟩, ?_⟩
    rintro i f σ' H' ⟨m', p', h', ev', rs', rh', s'⟩
    cases f with
    | zero => exact s'.elim
    | succ f =>
      have ha' := ev'.at ha
      unfold forV at s'
      split at s'
      · exact s'.elim
      · rename_i xs eg
        obtain ⟨a2, vs, q1, q2, q3, q4⟩ := rv_ref rh' (.ref ha') (getL_ref eg)
        cases q1
        split at s'
        · rename_i en
          have hl : xs.length ≤ i := by simpa using en
          exact .inl ⟨⟨vs, SqL.of q3, by rw [q4.len]; exact hl⟩, satR.nx (p := p') s' rs' rh'⟩
        · rename_i xv ex
          obtain ⟨w, e1, rw1⟩ := PairedGet q4 ex
          refine .inr ⟨⟨vs, w, SqL.of q3, e1⟩, tStB X m1 H1 (forV t F n f (i + 1)) D, fun σ2 H2 c => ⟨f, Nat.lt_succ_self f, c⟩, fun x H2 y => ?_⟩
          obtain ⟨rfl, y⟩ := y
          have e2 := y vs (SqL.of q3)
          rw [e1] at e2; cases e2
          exact for_turn ev' rs' rh' rw1 s'
  | ld n =>
    obtain ⟨a, od, vs, ha, hf, rfl⟩ := rj
    have s1 : satR X.K D m1 H1 (forL t F n big 0 p h1) := s1
    refine ⟨fun i f σ' H' => tStB X m1 H1 (forL t F n f i) D σ' H', ⟨big, m1, p, h1, .refl, rs1, rh1, s1⟩, ?_⟩
    rintro i f σ' H' ⟨m', p', h', ev', rs', rh', s'⟩
    cases f with
    | zero => exact s'.elim
    | succ f =>
      have ha' := ev'.at ha
      have hf' := ev'.fz _ _ _ hf
      unfold forL at s'
      split at s'
      · rename_i kvs e0
        obtain ⟨a2, w, q1, q2, q3⟩ := rh'.at_ n _ e0
        rw [ha'] at q1; cases q1
        rw [hf'] at q2; cases q2
        cases q3 with
        | dTl q4 =>
          have ql := Paired.length q4
          split at s'
          · rename_i en
            have hl : kvs.length ≤ i := by simpa using en
            exact .inl ⟨⟨hf', by omega⟩, satR.nx (p := p') s' rs' rh'⟩
          · rename_i kv ek
            obtain ⟨kv2, e1, hk, hrv⟩ := PairedGet q4 ek
            have hi : i < vs.length := (List.getElem?_eq_some_iff.mp e1).1
            refine .inr ⟨⟨hf', hi⟩, tStB X m1 H1 (forL t F n f (i + 1)) D, fun σ2 H2 c => ⟨f, Nat.lt_succ_self f, c⟩, fun x H2 y => ?_⟩
            obtain ⟨rfl, k', v', qa, e2, rfl, hq⟩ := y
            rw [e1] at e2; cases e2
            exact for_turn ev' rs' rh' (by rw [← hk]; exact rv_key rh' hq) s'
      · exact s'.elim
theorem s_for {t : Tg} {tg iter : Expr} {body : List Stmt} {I : Sg → Hs → R Iw.It} (hp : PassesOwn (model X.prog X.w) X.A X.env X.xe) (hc : X.calm = true) (hi : PI X tg iter (tI X Wf I)) (hg : PG X tg (tG X t)) (hb : PSs X body (tSt X F))
    (hs : ∀ x, foldedSetIterable iter X.env x = pure x) : PS X (.For tg iter body [] pos) (tSt X (forS t I F)) := (ps_for hp hc hi hg hb hs).imp fun D σ H h => for_read h
abbrev whlS (T : Sg → Hs → R Bool) (F : Sg → Hs → R (Fl × Sg)) : Sg → Hs → R (Fl × Sg) := fun σ h => whlF T F big σ h
theorem s_whl {body : List Stmt} (hp : PassesOwn (model X.prog X.w) X.A X.env X.xe) (hc : PT X c (tT X Wf (tOf C.e))) (hb : PSs X body (tSt X F)) : PS X (.While c body [] pos) (tSt X (whlS (tOf C.e) F)) :=
  (ps_while hp hc hb).imp fun D σ H ⟨m, p, h, rs, rh, hs⟩ => by
    refine ⟨fun f σ' H' => tStB X m H (whlF (tOf C.e) F f) D σ' H', ⟨big, m, p, h, .refl, rs, rh, hs⟩, ?_⟩
    rintro f σ' H' ⟨m', p', h', ev', rs', rh', s'⟩
    cases f with
    | zero => exact ⟨m', p', h', rs', rh', (show satR X.K D m' H' .bad from s').elim⟩
    | succ f =>
      unfold whlF at s'
      obtain ⟨m2, p2, h2, q1, q2, q3⟩ := (tT_st rs' rh' s' : tT X Wf (tOf C.e) σ' H' _)
      refine ⟨m2, p2, h2, q1, q2, q3.mono fun b H2 ⟨m3, h3, ev3, rs3, rh3, s3⟩ => ?_⟩
      cases b with
      | false => exact iteF (satR.nx (p := p') s3 rs3 rh3)
      | true =>
        refine iteT ⟨tStB X m H (whlF (tOf C.e) F f) D, fun σ4 H4 c4 => ⟨f, Nat.lt_succ_self f, c4⟩, ?_⟩
        exact body_turn (ev'.trans ev3) rs3 rh3 s3
end
/-! ### a dict that is locked while something runs -/
section
variable {X : Cx} {W : WX}
theorem RV.unlk {K : PySem.W.Frag} {m : Mp} {H : Hp} {v : V} {x : PV} {a : Addr} {u : HO} (r : RV K m H v x) (ha : a ∈ m.own) : RV K m (upd H a u) v x := r.upH (.inl ha)
theorem RS.unlk {K : PySem.W.Frag} {m : Mp} {H : Hp} {σ : Sv} {p : Sg} {a : Addr} {u : HO} (r : RS K m H σ p) (ha : a ∈ m.own) : RS K m (upd H a u) σ p :=
  ⟨r.len, fun i x e => let ⟨v, h1, h2⟩ := r.at_ i x e; ⟨v, h1, h2.unlk ha⟩⟩
theorem lock_at {K : PySem.W.Frag} {m : Mp} {H : Hp} {h hl : Hs} {n : Nat} {v : PV} (rh : RH K m h H) (e : lockAt h v = some (n, hl)) : ∃ a u ol, m.own[n]? = some a ∧ H a = some u ∧ Mut (some u) ∧ (∀ o x, u ≠ .frz o x) ∧ hl = h.set n ol ∧ ∀ od, RO K m H a (.frz od u) ol := by
  unfold lockAt at e
  split at e
  · split at e
    · rename_i n' kvs e0
      cases e
      obtain ⟨a, w, q1, q2, q3⟩ := rh.at_ _ _ e0
      cases q3 with
      | dT q => exact ⟨a, _, _, q1, q2, trivial, (fun o x z => nomatch z), rfl, fun od => .dTl q⟩
    · rename_i n' kvs e0
      cases e
      obtain ⟨a, w, q1, q2, q3⟩ := rh.at_ _ _ e0
      cases q3 with
      | dN q => exact ⟨a, _, _, q1, q2, trivial, (fun o x z => nomatch z), rfl, fun od => .dNl q⟩
    · cases e
  · cases e
theorem unlk_at {K : PySem.W.Frag} {m : Mp} {H : Hp} {n : Nat} {h h2 : Hs} {a : Addr} {od : Obj} {u : HO} (rh : RH K m h H) (ha : m.own[n]? = some a) (hf : H a = some (.frz od u)) (e : unlk n h = some h2) : ∃ o, RO K m H a u o ∧ h2 = h.set n o := by
  unfold unlk at e
  split at e
  · rename_i kvs e0
    cases e
    obtain ⟨b, w, q1, q2, q3⟩ := rh.at_ _ _ e0
    rw [ha] at q1; cases q1
    rw [hf] at q2; cases q2
    cases q3 with
    | dTl q => exact ⟨_, .dT q, rfl⟩
  · rename_i kvs e0
    cases e
    obtain ⟨b, w, q1, q2, q3⟩ := rh.at_ _ _ e0
    rw [ha] at q1; cases q1
    rw [hf] at q2; cases q2
    cases q3 with
    | dNl q => exact ⟨_, .dN q, rfl⟩
  · cases e
theorem e_lk {e : Expr} {D A : Sg → Hs → R PV} (he : PE X e (tE X W A)) : PE X e (tE X W (lkE D A)) :=
  (pe_lock he).imp fun σ H Q ⟨m, p, h, rs, rh, hs⟩ => by
    unfold lkE at hs
    split at hs
    · split at hs
      · rename_i v h' _ n hl el
        obtain ⟨a, u, ol, q1, q2, mu, nu, rfl, q4⟩ := lock_at rh el
        have am := List.mem_of_getElem? q1
        have nf : ∀ o x, H a ≠ some (.frz o x) := fun o x z => by rw [q2] at z; exact nu o x (Option.some.inj z)
        refine ⟨a, u, q2, mu, fun od => ?_⟩
        obtain ⟨ev, rh1⟩ := rh.lock (od := od) q1 nf (q4 od)
        refine ⟨m, p, _, rs.evo ev, rh1, ?_⟩
        cases eA : A p (h.set n ol) with
        | ok y h1 =>
          rw [eA] at hs
          have hs : satG X.mg X.K (Ex W σ) m H (RV X.K) (match unlk n h1 with
            | some h2 => .ok y h2
            | none => .bad) Q := hs
          split at hs
          · rename_i h2 eu
            intro b H' m' ev2 rh2 rb
            have hf := ev2.fz _ _ _ upd_same
            have ha' := ev2.at q1
            obtain ⟨o', ro, rfl⟩ := unlk_at rh2 ha' hf eu
            refine ⟨hf, ?_⟩
            exact hs b _ m' (ev2.unlock am (fun b hb => (rh.hd b hb).1) q2 nu) (rh2.unlock ha' ro) (rb.unlk (List.mem_of_getElem? ha'))
          · exact hs.elim
        | exc c h1 => rw [eA] at hs; exact hs.elim
        | bad => rw [eA] at hs; exact hs.elim
      · exact hs.elim
    · exact hs.elim
theorem s_lk {st : Stmt} {D : Sg → Hs → R PV} {A : Sg → Hs → R (Fl × Sg)} (hst : PS X st (tSt X A)) : PS X st (tSt X (lkS D A)) :=
  (ps_lock hst).imp fun E σ H ⟨m, p, h, rs, rh, hs⟩ => by
    unfold lkS at hs
    split at hs
    · split at hs
      · rename_i v h' _ n hl el
        obtain ⟨a, u, ol, q1, q2, mu, nu, rfl, q4⟩ := lock_at rh el
        have am := List.mem_of_getElem? q1
        have nf : ∀ o x, H a ≠ some (.frz o x) := fun o x z => by rw [q2] at z; exact nu o x (Option.some.inj z)
        refine ⟨a, u, q2, mu, fun od => ?_⟩
        obtain ⟨ev, rh1⟩ := rh.lock (od := od) q1 nf (q4 od)
        refine ⟨m, p, _, rs.evo ev, rh1, ?_⟩
        have fin : ∀ {m' : Mp} {H' : Hp} {h1 : Hs}, Evo m (upd H a (.frz od u)) m' H' → RH X.K m' h1 H' → ∀ {h2 : Hs}, unlk n h1 = some h2 → H' a = some (.frz od u) ∧ Evo m H m' (upd H' a u) ∧ RH X.K m' h2 (upd H' a u) ∧ a ∈ m'.own := by
          intro m' H' h1 ev2 rh2 h2 eu
          have hf := ev2.fz _ _ _ upd_same
          have ha' := ev2.at q1
          obtain ⟨o', ro, rfl⟩ := unlk_at rh2 ha' hf eu
          exact ⟨hf, ev2.unlock am (fun b hb => (rh.hd b hb).1) q2 nu, rh2.unlock ha' ro, List.mem_of_getElem? ha'⟩
        cases eA : A p (h.set n ol) with
        | ok y h1 =>
          obtain ⟨fl, p'⟩ := y
          rw [eA] at hs
          have hs : satR X.K E m H (match unlk n h1 with
            | some h2 => .ok (fl, p') h2
            | none => .bad) := hs
          split at hs
          · rename_i h2 eu
            cases fl with
            | nx => exact fun σ' H' m' ev2 rh2 rs2 => let ⟨z1, z2, z3, z4⟩ := fin ev2 rh2 eu; ⟨z1, hs σ' _ m' z2 z3 (rs2.unlk z4)⟩
            | bk => exact fun σ' H' m' ev2 rh2 rs2 => let ⟨z1, z2, z3, z4⟩ := fin ev2 rh2 eu; ⟨z1, hs σ' _ m' z2 z3 (rs2.unlk z4)⟩
            | ct => exact fun σ' H' m' ev2 rh2 rs2 => let ⟨z1, z2, z3, z4⟩ := fin ev2 rh2 eu; ⟨z1, hs σ' _ m' z2 z3 (rs2.unlk z4)⟩
            | rt v => exact fun σ' H' m' ev2 rh2 rs2 w rw => let ⟨z1, z2, z3, z4⟩ := fin ev2 rh2 eu; ⟨z1, hs σ' _ m' z2 z3 (rs2.unlk z4) w (rw.unlk z4)⟩
          · exact hs.elim
        | exc c h1 => rw [eA] at hs; exact hs.elim
        | bad => rw [eA] at hs; exact hs.elim
      · exact hs.elim
    · exact hs.elim
end
end Iw
end

section
set_option Elab.async false
set_option linter.all false
set_option maxRecDepth 100000
/-! what a call leaves of the store: its length grows, what is older than k is given data alone -/
namespace Iw
open PySem L2
def pvCl (j : Nat) : PV → Prop
  | .d _ => True
  | .ref n => n < j
  | .scr _ => True
  | .pr _ n => n < j
def obCl (j : Nat) : Ob → Prop
  | .lst xs => ∀ x ∈ xs, pvCl j x
  | .dK kvs => ∀ kv ∈ kvs, pvCl j kv.2
  | .dT kvs => ∀ kv ∈ kvs, pvCl j kv.2
  | .dTl kvs => ∀ kv ∈ kvs, pvCl j kv.2
  | .dN kvs => ∀ kv ∈ kvs, pvCl j kv.2
  | .dNl kvs => ∀ kv ∈ kvs, pvCl j kv.2
def Cl (j : Nat) (h : Hs) : Prop := ∀ n, n < j → ∀ o, h[n]? = some o → obCl j o
structure Step (k : Nat) (h h' : Hs) : Prop where
  le : h.length ≤ h'.length
  cl : ∀ j, j ≤ k → Cl j h → Cl j h'
theorem Step.refl {k : Nat} {h : Hs} : Step k h h := ⟨Nat.le_refl _, fun _ _ c => c⟩
theorem Step.trans {k : Nat} {h h1 h2 : Hs} (a : Step k h h1) (b : Step k h1 h2) : Step k h h2 := ⟨Nat.le_trans a.le b.le, fun j hj c => b.cl j hj (a.cl j hj c)⟩
theorem Step.mono {k k' : Nat} {h h1 : Hs} (a : Step k h h1) (e : k' ≤ k) : Step k' h h1 := ⟨a.le, fun j hj c => a.cl j (Nat.le_trans hj e) c⟩
theorem Step.alloc {k : Nat} {h : Hs} {o : Ob} (hk : k ≤ h.length) : Step k h (h ++ [o]) := ⟨by simp, fun j hj c n hn o' e => by
  rw [List.getElem?_append_left (by omega)] at e
  exact c n hn o' e⟩
theorem Step.set {k n : Nat} {h : Hs} {o : Ob} (ho : ∀ j, j ≤ k → n < j → Cl j h → obCl j o) : Step k h (h.set n o) := ⟨by simp, fun j hj c i hi o' e => by
  by_cases hn : n = i
  · subst hn
    by_cases hl : n < h.length
    · rw [List.getElem?_set_self hl] at e
      cases e
      exact ho j hj hi c
    · rw [List.getElem?_eq_none (by simpa using hl)] at e; cases e
  · rw [List.getElem?_set_ne hn] at e
    exact c i hi o' e⟩
/-- every result of r is a step from h -/
def Rs {α : Type} (k : Nat) (h : Hs) (r : R α) : Prop := ∀ a h', r = .ok a h' → Step k h h'
section
variable {α β : Type} {k : Nat} {h h' : Hs}
theorem Rs.bad : Rs k h (.bad : R α) := fun _ _ e => nomatch e
theorem Rs.exc {c : Str} : Rs k h (.exc c h' : R α) := fun _ _ e => nomatch e
theorem Rs.ok {a : α} : Rs k h (.ok a h) := fun _ _ e => by cases e; exact .refl
theorem Rs.ok' {a : α} (s : Step k h h') : Rs k h (.ok a h') := fun _ _ e => by cases e; exact s
theorem Rs.of {o : Option α} : Rs k h (R.of o h) := by cases o with
  | none => exact Rs.bad
  | some a => exact Rs.ok
theorem Rs.bind {r : R α} {f : α → Hs → R β} (a : Rs k h r) (b : ∀ x h1, Step k h h1 → k ≤ h1.length → Rs k h1 (f x h1)) (hk : k ≤ h.length) : Rs k h (r.bind f) := by
  cases r with
  | ok x h1 =>
    have s := a x h1 rfl
    exact fun y h2 e => s.trans (b x h1 s (Nat.le_trans hk s.le) y h2 e)
  | exc _ _ => exact Rs.exc
  | bad => exact Rs.bad
theorem Rs.noExc {r : R α} (a : Rs k h r) : Rs k h (noExc r) := by cases r <;> first | exact a | exact Rs.bad
theorem Rs.mkL {mt : Bool} {xs : List PV} (hk : k ≤ h.length) : Rs k h (mkL mt xs h) := by
  cases mt with
  | true => exact Rs.ok' (.alloc hk)
  | false => exact Rs.of
end
def Ev {α : Type} (k : Nat) (f : Sg → Hs → R α) : Prop := ∀ σ h, k ≤ h.length → Rs k h (f σ h)
/-- all the readings of an expression -/
structure Evs (k : Nat) (D : Dn) : Prop where
  e : Ev k D.e
  a : Ev k D.a
  t : Ev k D.t
  i : Ev k D.i
  o : Ev k D.o
section
variable {k : Nat}
theorem ev_bad {α : Type} : Ev k (fun _ _ => (.bad : R α)) := fun _ _ _ => Rs.bad
theorem ev_tOf {f : Sg → Hs → R PV} (h : Ev k f) : Ev k (tOf f) := fun σ h0 hk => (h σ h0 hk).bind (fun _ _ _ _ => Rs.of) hk
theorem ev_oOf {f : Sg → Hs → R PV} (h : Ev k f) : Ev k (oOf f) := fun σ h0 hk => (h σ h0 hk).bind (fun _ _ _ _ => Rs.of) hk
theorem evs_val {f : Sg → Hs → R PV} (h : Ev k f) : Evs k (.val f) := ⟨h, ev_bad, ev_tOf h, ev_bad, ev_oOf h⟩
theorem evs_arg {f : Sg → Hs → R (List PV)} (h : Ev k f) : Evs k (.arg f) := ⟨ev_bad, h, ev_bad, ev_bad, ev_bad⟩
theorem evs_itr {f : Sg → Hs → R It} (h : Ev k f) : Evs k (.itr f) := ⟨ev_bad, ev_bad, ev_bad, h, ev_bad⟩
/-- a function of values and the store -/
def P1 (k : Nat) {α β : Type} (f : α → Hs → R β) : Prop := ∀ x h, k ≤ h.length → Rs k h (f x h)
def P2 (k : Nat) {α γ β : Type} (f : α → γ → Hs → R β) : Prop := ∀ x y h, k ≤ h.length → Rs k h (f x y h)
theorem ev_bind1 {α β : Type} {A : Sg → Hs → R α} {f : α → Hs → R β} (a : Ev k A) (p : P1 k f) : Ev k (fun σ h => (A σ h).bind f) := fun σ h hk => (a σ h hk).bind (fun x h1 _ h2 => p x h1 h2) hk
theorem ev_bind2 {α γ β : Type} {A : Sg → Hs → R α} {B : Sg → Hs → R γ} {f : α → γ → Hs → R β} (a : Ev k A) (b : Ev k B) (p : P2 k f) : Ev k (fun σ h => (A σ h).bind fun x h1 => (B σ h1).bind fun y h2 => f x y h2) :=
  fun σ h hk => (a σ h hk).bind (fun x h1 _ h2 => (b σ h1 h2).bind (fun y h3 _ h4 => p x y h3 h4) h2) hk
theorem ev_ite {α : Type} {c : Prop} [Decidable c] {h h0 : Hs} {a b : R α} (ha : Rs k h a) (hb : Rs k h b) : Rs k h (if c then a else b) := by split <;> assumption
theorem p_binop (o : BO) : P2 k (binop o) := fun x y h hk => by
  unfold binop
  split
  all_goals first
    | exact Rs.ok
    | exact Rs.bad
    | (split <;> first | exact Rs.ok | exact Rs.bad)
    | (split
       · split
         · exact Rs.mkL hk
         · exact Rs.bad
       · exact Rs.bad)
theorem p_tupOf : P1 k tupOf := fun x h hk => by unfold tupOf; split; split; exact Rs.ok; exact Rs.bad; exact Rs.bad
theorem p_lstOf (mt : Bool) : P1 k (lstOf mt) := fun x h hk => by unfold lstOf; split; exact Rs.mkL hk; exact Rs.bad
theorem p_pairv : P2 k pairv := fun x y h hk => by unfold pairv; split; exact Rs.ok; exact Rs.ok; exact Rs.bad
theorem p_dictT : P1 k dictT := fun x h hk => by
  unfold dictT
  split
  · split
    · exact Rs.ok' (.alloc hk)
    · exact Rs.bad
  · exact Rs.bad
theorem p_callP {cf : List PV → Hs → R PV} (p : P1 k cf) (ρ : List Nat) : P1 k (callP cf ρ) := fun x h hk => by
  unfold callP
  split
  · exact p _ h hk
  · exact Rs.bad
theorem p_ixv1 : P2 k ixv1 := fun x y h hk => by unfold ixv1; split; exact Rs.of; exact Rs.bad
theorem p_ixv : P2 k ixv := fun x y h hk => by
  unfold ixv
  split
  · split
    · exact Rs.of
    · exact p_ixv1 _ _ h hk
  · exact Rs.bad
theorem p_revv : P1 k revv := fun x h hk => by
  unfold revv
  split
  · exact Rs.mkL hk
  · exact Rs.bad
theorem p_negv : P1 k negv := fun x h hk => by unfold negv; split; exact Rs.ok; exact Rs.bad
theorem p_isBoolv (v : Bool) : P1 k (isBoolv v) := fun x h hk => by unfold isBoolv; split; exact Rs.ok; exact Rs.bad
theorem p_slice (x : PV) (lo hi : Option Int) (h : Hs) (hk : k ≤ h.length) : Rs k h (slice x lo hi h) := by
  unfold slice
  split
  · exact Rs.ok
  · split
    · exact Rs.ok
    · exact Rs.bad
  · split
    · exact Rs.mkL hk
    · exact Rs.bad
theorem storeCl {k n j : Nat} {y : PV} (e : storeOk k n y = true) (hj : j ≤ k) (hn : n < j) : pvCl j y := by
  cases y with
  | d _ => exact trivial
  | scr _ => exact trivial
  | pr _ _ => cases e
  | ref m =>
    have : k ≤ n := by simpa [storeOk] using e
    omega
theorem p_appv : P2 k (appv k) := fun x y h hk => by
  unfold appv
  split
  · split
    · rename_i n xs e0
      split
      · rename_i hc
        refine Rs.ok' (.set fun j hj hn c z hz => ?_)
        rcases List.mem_append.mp hz with hz | hz
        · exact c _ hn _ e0 z hz
        · have : z = y := by simpa using hz
          subst this
          exact storeCl hc.1 hj hn
      · exact Rs.bad
    · exact Rs.bad
  · exact Rs.bad
theorem p_extv : P2 k (extv k) := fun x y h hk => by
  unfold extv
  split
  · split
    · rename_i n xs ys e0 e1
      split
      · rename_i hc
        refine Rs.ok' (.set fun j hj hn c z hz => ?_)
        rcases List.mem_append.mp hz with hz | hz
        · exact c _ hn _ e0 z hz
        · exact storeCl (List.all_eq_true.mp hc.1 z hz) hj hn
      · exact Rs.bad
    · exact Rs.bad
  · exact Rs.bad
theorem p_popv : P1 k popv := fun x h hk => by
  unfold popv
  split
  · split
    · rename_i n xs e0
      split
      · exact Rs.ok' (.set fun j hj hn c z hz => c _ hn _ e0 z (List.dropLast_subset _ hz))
      · exact Rs.bad
    · exact Rs.bad
  · exact Rs.bad
theorem p_popAtv : P2 k popAtv := fun x y h hk => by
  unfold popAtv
  split
  · split
    · rename_i n _ xs e0
      split
      · split
        · exact Rs.ok' (.set fun j hj hn c z hz => c _ hn _ e0 z (List.mem_of_mem_eraseIdx hz))
        · exact Rs.bad
      · exact Rs.bad
    · exact Rs.bad
  · exact Rs.bad
theorem putCl {κ : Type} [DecidableEq κ] {j : Nat} {kvs : List (κ × PV)} {q : κ} {y : PV} (c : ∀ kv ∈ kvs, pvCl j kv.2) (hy : pvCl j y) : ∀ kv ∈ putP kvs q y, pvCl j kv.2 := by
  intro kv hkv
  unfold putP at hkv
  split at hkv
  · obtain ⟨p, hp, rfl⟩ := List.mem_map.mp hkv
    split
    · exact hy
    · exact c p hp
  · rcases List.mem_append.mp hkv with hkv | hkv
    · exact c kv hkv
    · have : kv = (q, y) := by simpa using hkv
      subst this
      exact hy
theorem p_setv (x y z : PV) (h : Hs) (hk : k ≤ h.length) : Rs k h (setv k x y z h) := by
  unfold setv
  split
  · split
    · rename_i n d xs e0
      split
      · split
        · split
          · rename_i hc
            refine Rs.ok' (.set fun j hj hn c w hw => ?_)
            rcases List.mem_or_eq_of_mem_set hw with hw | hw
            · exact c _ hn _ e0 w hw
            · subst hw; exact storeCl hc hj hn
          · exact Rs.bad
        · exact Rs.bad
      · exact Rs.bad
    · rename_i d _ ob _ e0
      split
      · rename_i ob' ed
        split
        · rename_i hc
          refine Rs.ok' (.set fun j hj hn c => ?_)
          have cc := c _ hn _ e0
          cases ob with
          | lst _ => cases ed
          | dTl _ => cases ed
          | dNl _ => cases ed
          | dN kvs =>
            have ed : (if kvs.length < line then (keyN d).map fun k => Ob.dN (putP kvs k z) else none) = some ob' := ed
            split at ed
            · obtain ⟨q, _, rfl⟩ := Option.map_eq_some_iff.mp ed
              exact putCl cc (storeCl hc hj hn)
            · cases ed
          | dK kvs =>
            have ed : (if kvs.length < line then (keyOf d).map fun k => Ob.dK (putP kvs k z) else none) = some ob' := ed
            split at ed
            · obtain ⟨q, _, rfl⟩ := Option.map_eq_some_iff.mp ed
              exact putCl cc (storeCl hc hj hn)
            · cases ed
          | dT kvs =>
            have ed : (if kvs.length < line then (keysOf d).map fun k => Ob.dT (putP kvs k z) else none) = some ob' := ed
            split at ed
            · obtain ⟨q, _, rfl⟩ := Option.map_eq_some_iff.mp ed
              exact putCl cc (storeCl hc hj hn)
            · cases ed
        · exact Rs.bad
      · exact Rs.bad
    · exact Rs.bad
  · exact Rs.bad
theorem p_dget2v (x y z : PV) (h : Hs) : Rs k h (dget2v x y z h) := by
  unfold dget2v
  split
  · split
    · exact Rs.ok
    · exact Rs.ok
    · exact Rs.bad
  · exact Rs.bad
theorem p_idxv : P2 k idxv := fun x y h hk => by
  unfold idxv
  split
  · split
    · exact Rs.of
    · exact Rs.bad
  · exact Rs.bad
theorem p_cntv : P2 k cntv := fun x y h hk => by
  unfold cntv
  split
  · split
    · exact Rs.ok
    · exact Rs.bad
  · exact Rs.bad
theorem p_d1v : P2 k d1v := fun x y h hk => by
  unfold d1v
  split
  · split
    · split
      · exact Rs.ok' (.alloc hk)
      · split
        · exact Rs.ok' (.alloc hk)
        · exact Rs.bad
    · exact Rs.bad
  · exact Rs.bad
theorem p_dpopv : P2 k dpopv := fun x y h hk => by
  unfold dpopv
  split
  · split
    · rename_i kvs e0
      split
      · split
        · exact Rs.ok' (.set fun j hj hn c kv hkv => (show obCl j (.dK kvs) from c _ hn _ e0) kv (List.mem_filter.mp hkv).1)
        · exact Rs.bad
      · exact Rs.bad
    · exact Rs.bad
  · exact Rs.bad
theorem p_rngv (tp mt : Bool) : P2 k (rngv tp mt) := fun x y h hk => by
  unfold rngv
  split
  · split
    · split
      · exact Rs.ok
      · exact Rs.mkL hk
    · exact Rs.bad
  · exact Rs.bad
theorem p_lzv : P2 k lzv := fun x y h hk => by
  unfold lzv
  split
  · split
    · exact Rs.ok
    · exact Rs.bad
  · exact Rs.bad
theorem p_dict1v : P1 k dict1v := fun x h hk => by
  unfold dict1v
  split
  · split
    · exact Rs.ok' (.alloc hk)
    · exact Rs.bad
  · exact Rs.bad
theorem p_biop (b : Bi) : P1 k (biop b) := fun vs h hk => by
  unfold biop
  split
  · unfold bi1
    split
    all_goals first
      | exact Rs.of
      | exact Rs.bad
      | exact p_dict1v _ h hk
      | (unfold int1v; split <;> first | exact Rs.ok | exact Rs.bad)
      | (unfold bool1v; split <;> first | exact Rs.ok | exact Rs.bad)
      | (unfold str1v; split <;> first | exact Rs.bad | (split <;> first | exact Rs.ok | exact Rs.bad))
      | (unfold reprv; split <;> first | exact Rs.bad | (split <;> first | exact Rs.ok | exact Rs.bad))
      | (split <;> first | exact Rs.ok | exact Rs.bad)
      | (split <;> first | exact Rs.bad | (split <;> first | exact Rs.ok | exact Rs.bad))
      | (split <;> first | exact Rs.bad | (split <;> first | exact Rs.mkL hk | exact Rs.bad))
  · unfold bi2
    split
    all_goals first
      | exact Rs.bad
      | (unfold max2v; split <;> first | exact Rs.ok | exact Rs.bad)
      | (unfold min2v; split <;> first | exact Rs.ok | exact Rs.bad)
  · exact Rs.bad
theorem p_itVal : P1 k itVal := fun x h hk => by
  unfold itVal
  split
  all_goals first
    | exact Rs.ok
    | exact Rs.bad
    | (split <;> first | exact Rs.ok | (split <;> first | exact Rs.ok | (split <;> first | exact Rs.ok | exact Rs.bad)))
theorem p_itDk (kd : Nat) : P1 k (itDk kd) := fun x h hk => by
  unfold itDk
  split
  · split
    · exact Rs.of
    · exact Rs.bad
  · exact Rs.bad
theorem p_dsetdv (x y z : PV) (h : Hs) : Rs k h (dsetdv k x y z h) := by
  unfold dsetdv
  split
  · split
    · rename_i o e0
      split
      · rename_i o' ed
        split
        · exact Rs.ok
        · split
          · rename_i hc
            refine Rs.ok' (.set fun j hj hn c => ?_)
            have cc := c _ hn _ e0
            cases o with
            | lst _ => cases ed
            | dTl _ => cases ed
            | dNl _ => cases ed
            | dN kvs =>
              have ed : (if kvs.length < line then (keyN _).map fun k => Ob.dN (putP kvs k z) else none) = some o' := ed
              split at ed
              · obtain ⟨q, _, rfl⟩ := Option.map_eq_some_iff.mp ed
                exact putCl cc (storeCl hc hj hn)
              · cases ed
            | dK kvs =>
              have ed : (if kvs.length < line then (keyOf _).map fun k => Ob.dK (putP kvs k z) else none) = some o' := ed
              split at ed
              · obtain ⟨q, _, rfl⟩ := Option.map_eq_some_iff.mp ed
                exact putCl cc (storeCl hc hj hn)
              · cases ed
            | dT kvs =>
              have ed : (if kvs.length < line then (keysOf _).map fun k => Ob.dT (putP kvs k z) else none) = some o' := ed
              split at ed
              · obtain ⟨q, _, rfl⟩ := Option.map_eq_some_iff.mp ed
                exact putCl cc (storeCl hc hj hn)
              · cases ed
          · exact Rs.bad
        · exact Rs.bad
      · exact Rs.bad
    · exact Rs.bad
  · exact Rs.bad
theorem mergeCl {κ : Type} [DecidableEq κ] {j : Nat} : ∀ {more kvs : List (κ × PV)}, (∀ kv ∈ kvs, pvCl j kv.2) → (∀ kv ∈ more, pvCl j kv.2) → ∀ kv ∈ mergeP kvs more, pvCl j kv.2
  | [], kvs, c, _ => c
  | m :: more, kvs, c, d => by
    refine mergeCl (more := more) (kvs := putP kvs m.1 m.2) ?_ fun kv hk => d kv (List.mem_cons_of_mem _ hk)
    exact putCl c (d m List.mem_cons_self)
theorem p_dupdv (x y : PV) (h : Hs) : Rs k h (dupdv x y h) := by
  unfold dupdv
  split
  · split
    · rename_i n ds kvs more e0 e1
      split
      · refine Rs.ok' (.set fun j hj hn c => ?_)
        refine mergeCl (show obCl j (.dN kvs) from c _ hn _ e0) fun kv hk => ?_
        obtain ⟨q, _, rfl⟩ := List.mem_map.mp hk
        exact trivial
      · exact Rs.bad
    · exact Rs.bad
  · exact Rs.bad
theorem p_callEv (cf : List PV → Hs → R PV) (xs : List PV) (h : Hs) : Rs k h (callEv cf xs h) := by
  unfold callEv
  split
  · split
    · exact Rs.ok
    · exact Rs.bad
  · exact Rs.bad
theorem rs_compL {st : PV → Hs → R (Option PV)} (p : P1 k st) (n : Nat) : ∀ (f i : Nat) (h : Hs), k ≤ h.length → Rs k h (compL st n f i h)
  | 0, _, h, _ => Rs.bad
  | f + 1, i, h, hk => by
    unfold compL
    split
    · split
      · exact Rs.ok
      · exact (p _ h hk).bind (fun o h1 _ h2 => (rs_compL p n f (i + 1) h1 h2).bind (fun ys h3 _ _ => Rs.ok) h2) hk
    · exact Rs.bad
theorem step_lock {v : PV} {h hl : Hs} {n : Nat} (e : lockAt h v = some (n, hl)) : Step k h hl := by
  unfold lockAt at e
  split at e
  · split at e
    · rename_i n' kvs e0
      cases e
      exact .set fun j hj hn c => (show obCl j (.dT kvs) from c _ hn _ e0)
    · rename_i n' kvs e0
      cases e
      exact .set fun j hj hn c => (show obCl j (.dN kvs) from c _ hn _ e0)
    · cases e
  · cases e
theorem step_unlk {h h2 : Hs} {n : Nat} (e : unlk n h = some h2) : Step k h h2 := by
  unfold unlk at e
  split at e
  · rename_i kvs e0
    cases e
    exact .set fun j hj hn c => (show obCl j (.dTl kvs) from c _ hn _ e0)
  · rename_i kvs e0
    cases e
    exact .set fun j hj hn c => (show obCl j (.dNl kvs) from c _ hn _ e0)
  · cases e
theorem rs_lk {α : Type} {r : R α} {n : Nat} {h hl : Hs} (s : Step k h hl) (hk : k ≤ h.length) (a : Rs k hl r) : Rs k h ((noExc r).bind fun y h1 => match unlk n h1 with
    | some h2 => .ok y h2
    | none => .bad) := by
  intro y h' e
  cases er : r with
  | ok z h1 =>
    rw [er] at e
    have e : (match unlk n h1 with
      | some h2 => .ok z h2
      | none => .bad) = R.ok y h' := e
    split at e
    · rename_i h2 eu
      cases e
      exact s.trans ((a _ _ er).trans (step_unlk eu))
    · cases e
  | exc c h1 => rw [er] at e; cases e
  | bad => rw [er] at e; cases e
theorem ev_lkE {D A : Sg → Hs → R PV} (a : Ev k A) : Ev k (lkE D A) := fun σ h hk => by
  unfold lkE
  split
  · split
    · rename_i n hl el
      have s := step_lock (k := k) el
      exact rs_lk s hk (a σ hl (Nat.le_trans hk s.le))
    · exact Rs.bad
  · exact Rs.bad
theorem ev_lkS {D : Sg → Hs → R PV} {A : Sg → Hs → R (Fl × Sg)} (a : Ev k A) : Ev k (lkS D A) := fun σ h hk => by
  unfold lkS
  split
  · split
    · rename_i n hl el
      have s := step_lock (k := k) el
      exact rs_lk s hk (a σ hl (Nat.le_trans hk s.le))
    · exact Rs.bad
  · exact Rs.bad
theorem p_itR1 : P1 k itR1 := fun x h hk => by unfold itR1; split; split; exact Rs.ok; exact Rs.bad; exact Rs.bad
theorem p_itR2 : P2 k itR2 := fun x y h hk => by unfold itR2; split; split; exact Rs.ok; exact Rs.bad; exact Rs.bad
theorem p_itZip : P2 k itZip := fun x y h hk => by unfold itZip; split; exact Rs.ok; exact Rs.ok; exact Rs.bad
theorem p_itEnu : P1 k itEnu := fun x h hk => by unfold itEnu; split; exact Rs.ok; exact Rs.ok; exact Rs.bad
theorem rs_compF {st : PV → Hs → R (Option PV)} (p : P1 k st) : ∀ (xs : List PV) (h : Hs), k ≤ h.length → Rs k h (compF st xs h)
  | [], h, _ => Rs.ok
  | x :: xs, h, hk => (p x h hk).bind (fun o h1 _ h2 => (rs_compF p xs h1 h2).bind (fun ys h3 _ _ => Rs.ok) h2) hk
theorem rs_compV {st : PV → Hs → R (Option PV)} (p : P1 k st) (n : Nat) : ∀ (f i : Nat) (h : Hs), k ≤ h.length → Rs k h (compV st n f i h)
  | 0, _, h, _ => Rs.bad
  | f + 1, i, h, hk => by
    unfold compV
    split
    · exact Rs.bad
    · split
      · exact Rs.ok
      · exact (p _ h hk).bind (fun o h1 _ h2 => (rs_compV p n f (i + 1) h1 h2).bind (fun ys h3 _ _ => Rs.ok) h2) hk
theorem p_compGo {st : PV → Hs → R (Option PV)} (p : P1 k st) (J : It) : P1 k (fun (_ : Unit) h => compGo st J h) := fun _ h hk => by
  unfold compGo
  cases J with
  | fx xs => exact (rs_compF p xs h hk).noExc
  | lv n => exact (rs_compV p n _ _ h hk).noExc
  | ld n => exact (rs_compL p n _ _ h hk).noExc
theorem p_compSt {own : List Nat} {t : Tg} {C : Sg → Hs → R Bool} {L : Sg → Hs → R PV} (c : Ev k C) (l : Ev k L) (σ : Sg) : P1 k (compSt own t C L σ) := fun x h hk => by
  unfold compSt
  split
  · exact Rs.bad
  · refine (c _ h hk).bind (fun b h1 _ h2 => ?_) hk
    cases b with
    | true => exact (l _ h1 h2).bind (fun _ _ _ _ => Rs.ok) h2
    | false => exact Rs.ok
variable {cf : Str → List PV → Hs → R PV}
def CfOk (cf : Str → List PV → Hs → R PV) : Prop := ∀ f vs h a h', cf f vs h = .ok a h' → Step h.length h h'
theorem p_cf (hc : CfOk cf) (f : Str) : P1 k (cf f) := fun vs h hk a h' e => (hc f vs h a h' e).mono hk
theorem evs_den (hc : CfOk cf) : ∀ e : E, Evs k (den cf k e)
  | .loc i => evs_val fun σ h hk => by
    show Rs k h (match σ[i]? with
      | some (some v) => .ok v h
      | _ => .bad)
    split
    · exact Rs.ok
    · exact Rs.bad
  | .lit x => evs_val fun _ _ _ => Rs.ok
  | .bin o a b => evs_val (ev_bind2 (evs_den hc a).e (evs_den hc b).e (p_binop o))
  | .neg a => evs_val (ev_bind1 (evs_den hc a).e p_negv)
  | .not a => evs_val (ev_bind1 (ev_tOf (evs_den hc a).e) fun _ _ _ => Rs.ok)
  | .and a b => evs_val fun σ h hk => ((evs_den hc a).e σ h hk).bind (fun x h1 _ h2 => Rs.bind Rs.of (fun c h3 _ h4 => by
      cases c with
      | true => exact (evs_den hc b).e σ h3 h4
      | false => exact Rs.ok) h2) hk
  | .or a b => evs_val fun σ h hk => ((evs_den hc a).e σ h hk).bind (fun x h1 _ h2 => Rs.bind Rs.of (fun c h3 _ h4 => by
      cases c with
      | false => exact (evs_den hc b).e σ h3 h4
      | true => exact Rs.ok) h2) hk
  | .cmp o a b => evs_val (ev_bind2 (evs_den hc a).e (evs_den hc b).e fun _ _ _ _ => Rs.of)
  | .chain o p a b c => evs_val fun σ h hk => ((evs_den hc a).e σ h hk).bind (fun x h1 _ h2 => ((evs_den hc b).e σ h1 h2).bind (fun y h3 _ h4 => Rs.bind Rs.of (fun t h5 _ h6 => by
      cases t with
      | true => exact ((evs_den hc c).e σ h5 h6).bind (fun _ _ _ _ => Rs.of) h6
      | false => exact Rs.ok) h4) h2) hk
  | .isNon a => evs_val (ev_bind1 (evs_den hc a).e fun _ _ _ => Rs.ok)
  | .notNon a => evs_val (ev_bind1 (evs_den hc a).e fun _ _ _ => Rs.ok)
  | .isBool v a => evs_val (ev_bind1 (evs_den hc a).e (p_isBoolv v))
  | .ite c a b => evs_val fun σ h hk => (ev_tOf (evs_den hc c).e σ h hk).bind (fun t h1 _ h2 => by
      cases t with
      | true => exact (evs_den hc a).e σ h1 h2
      | false => exact (evs_den hc b).e σ h1 h2) hk
  | .tup as => evs_val (ev_bind1 (evs_den hc as).a p_tupOf)
  | .lst mt as => evs_val (ev_bind1 (evs_den hc as).a (p_lstOf mt))
  | .isi a T => evs_val (ev_bind1 (evs_den hc a).e fun _ _ _ => Rs.of)
  | .call f as => evs_val (ev_bind1 (evs_den hc as).a (p_cf hc f))
  | .lk d e => evs_val (ev_lkE (evs_den hc e).e)
  | .callp f ρ as => evs_val (ev_bind1 (evs_den hc as).a (p_callP (p_cf hc f) ρ))
  | .bi b as => evs_val (ev_bind1 (evs_den hc as).a (p_biop b))
  | .ix a i => evs_val (ev_bind2 (evs_den hc a).e (evs_den hc i).e p_ixv)
  | .sl a lo hi => evs_val fun σ h hk => ((evs_den hc a).e σ h hk).bind (fun x h1 _ h2 => ((evs_den hc lo).o σ h1 h2).bind (fun l h3 _ h4 => ((evs_den hc hi).o σ h3 h4).bind (fun u h5 _ h6 => p_slice x l u h5 h6) h4) h2) hk
  | .rev a => evs_val (ev_bind1 (evs_den hc a).e p_revv)
  | .app o x => evs_val fun σ h hk => ((evs_den hc o).e σ h hk).bind (fun l h1 _ h2 => ev_ite (h0 := h) (((evs_den hc x).e σ h1 h2).bind (fun y h3 _ h4 => p_appv l y h3 h4) h2) Rs.bad) hk
  | .ext o x => evs_val fun σ h hk => ((evs_den hc o).e σ h hk).bind (fun l h1 _ h2 => ev_ite (h0 := h) (((evs_den hc x).e σ h1 h2).bind (fun y h3 _ h4 => p_extv l y h3 h4) h2) Rs.bad) hk
  | .pop o => evs_val (ev_bind1 (evs_den hc o).e p_popv)
  | .popAt o i => evs_val fun σ h hk => ((evs_den hc o).e σ h hk).bind (fun l h1 _ h2 => ev_ite (h0 := h) (((evs_den hc i).e σ h1 h2).bind (fun y h3 _ h4 => p_popAtv l y h3 h4) h2) Rs.bad) hk
  | .cnt o x => evs_val fun σ h hk => ((evs_den hc o).e σ h hk).bind (fun l h1 _ h2 => ev_ite (h0 := h) (((evs_den hc x).e σ h1 h2).bind (fun y h3 _ h4 => p_cntv l y h3 h4) h2) Rs.bad) hk
  | .idx o x => evs_val fun σ h hk => ((evs_den hc o).e σ h hk).bind (fun l h1 _ h2 => ev_ite (h0 := h) (((evs_den hc x).e σ h1 h2).bind (fun y h3 _ h4 => p_idxv l y h3 h4) h2) Rs.bad) hk
  | .lsR tp mt a b => evs_val (ev_bind2 (evs_den hc a).e (evs_den hc b).e (p_rngv tp mt))
  | .lz a b => evs_val (ev_bind2 (evs_den hc a).e (evs_den hc b).e p_lzv)
  | .dnew t => evs_val fun _ h hk => Rs.ok' (.alloc hk)
  | .dnN => evs_val fun _ h hk => Rs.ok' (.alloc hk)
  | .d1 a b => evs_val fun σ h hk => (Rs.noExc (((evs_den hc a).e σ h hk).bind (fun x h1 _ h2 => ((evs_den hc b).e σ h1 h2).bind (fun y h3 _ _ => Rs.ok) h2) hk)).bind (fun z h3 _ h4 => p_d1v z.1 z.2 h3 h4) hk
  | .dpop o x => evs_val fun σ h hk => ((evs_den hc o).e σ h hk).bind (fun l h1 _ h2 => ev_ite (h0 := h) (((evs_den hc x).e σ h1 h2).bind (fun y h3 _ h4 => p_dpopv l y h3 h4) h2) Rs.bad) hk
  | .iDk kd e => evs_itr (ev_bind1 (evs_den hc e).e (p_itDk kd))
  | .dsetd o x y => evs_val fun σ h hk => ((evs_den hc o).e σ h hk).bind (fun l h1 _ h2 => ev_ite (h0 := h) (((evs_den hc x).e σ h1 h2).bind (fun u h3 _ h4 => ((evs_den hc y).e σ h3 h4).bind (fun w h5 _ _ => p_dsetdv l u w h5) h4) h2) Rs.bad) hk
  | .dupd o x => evs_val fun σ h hk => ((evs_den hc o).e σ h hk).bind (fun l h1 _ h2 => ev_ite (h0 := h) (((evs_den hc x).e σ h1 h2).bind (fun u h3 _ h4 => p_dupdv l u h3) h2) Rs.bad) hk
  | .callE f as => evs_val (ev_bind1 (evs_den hc as).a fun xs h _ => p_callEv _ xs h)
  | .dget o x y => evs_val fun σ h hk => ((evs_den hc o).e σ h hk).bind (fun l h1 _ h2 => ev_ite (h0 := h) (((evs_den hc x).e σ h1 h2).bind (fun u h3 _ h4 => ((evs_den hc y).e σ h3 h4).bind (fun w h5 _ _ => p_dget2v l u w h5) h4) h2) Rs.bad) hk
  | .stk => ⟨ev_bad, ev_bad, ev_bad, ev_bad, ev_bad⟩
  | .comp mt own tg it cnd elt => evs_val fun σ h hk => ((evs_den hc it).i σ h hk).bind (fun J h1 _ h2 => (p_compGo (p_compSt (evs_den hc cnd).t (evs_den hc elt).e σ) J () h1 h2).bind (fun ys h3 _ h4 => p_lstOf mt ys h3 h4) h2) hk
  | .dcp own tg it cnd k v => evs_val fun σ h hk => ((evs_den hc it).i σ h hk).bind (fun J h1 _ h2 => (p_compGo (p_compSt (evs_den hc cnd).t (ev_bind2 (evs_den hc k).e (evs_den hc v).e p_pairv) σ) J () h1 h2).bind (fun ys h3 _ h4 => p_dictT ys h3 h4) h2) hk
  | .nil => evs_arg fun _ _ _ => Rs.ok
  | .cons a b => evs_arg fun σ h hk => ((evs_den hc a).e σ h hk).bind (fun x h1 _ h2 => ((evs_den hc b).a σ h1 h2).bind (fun xs h3 _ _ => Rs.ok) h2) hk
  | .prt a => ⟨ev_bad, ev_bad, ev_bad, ev_bad, ev_oOf (evs_den hc a).e⟩
  | .cnd a => ⟨ev_bad, ev_bad, ev_tOf (evs_den hc a).e, ev_bad, ev_bad⟩
  | .nop => ⟨ev_bad, ev_bad, fun _ _ _ => Rs.ok, ev_bad, fun _ _ _ => Rs.ok⟩
  | .iVal e => evs_itr (ev_bind1 (evs_den hc e).e p_itVal)
  | .iR1 a => evs_itr (ev_bind1 (evs_den hc a).e p_itR1)
  | .iR2 a b => evs_itr (ev_bind2 (evs_den hc a).e (evs_den hc b).e p_itR2)
  | .iZip a b => evs_itr (ev_bind2 (evs_den hc a).e (evs_den hc b).e p_itZip)
  | .iEnu a => evs_itr (ev_bind1 (evs_den hc a).e p_itEnu)
theorem rs_forF {t : Tg} {F : Sg → Hs → R (Fl × Sg)} (f : Ev k F) : ∀ (xs : List PV) (σ : Sg) (h : Hs), k ≤ h.length → Rs k h (forF t F xs σ h)
  | [], σ, h, _ => Rs.ok
  | x :: xs, σ, h, hk => by
    unfold forF
    split
    · exact Rs.bad
    · refine (f _ h hk).bind (fun p h1 _ h2 => ?_) hk
      split
      · exact rs_forF f xs _ h1 h2
      · exact rs_forF f xs _ h1 h2
      · exact Rs.ok
      · exact Rs.ok
theorem rs_forV {t : Tg} {F : Sg → Hs → R (Fl × Sg)} (f : Ev k F) (n : Nat) : ∀ (g i : Nat) (σ : Sg) (h : Hs), k ≤ h.length → Rs k h (forV t F n g i σ h)
  | 0, _, _, _, _ => Rs.bad
  | g + 1, i, σ, h, hk => by
    unfold forV
    split
    · exact Rs.bad
    · split
      · exact Rs.ok
      · split
        · exact Rs.bad
        · refine (f _ h hk).bind (fun p h1 _ h2 => ?_) hk
          split
          · exact rs_forV f n g _ _ h1 h2
          · exact rs_forV f n g _ _ h1 h2
          · exact Rs.ok
          · exact Rs.ok
theorem rs_forL {t : Tg} {F : Sg → Hs → R (Fl × Sg)} (f : Ev k F) (n : Nat) : ∀ (g i : Nat) (σ : Sg) (h : Hs), k ≤ h.length → Rs k h (forL t F n g i σ h)
  | 0, _, _, _, _ => Rs.bad
  | g + 1, i, σ, h, hk => by
    unfold forL
    split
    · split
      · exact Rs.ok
      · split
        · exact Rs.bad
        · refine (f _ h hk).bind (fun p h1 _ h2 => ?_) hk
          split
          · exact rs_forL f n g _ _ h1 h2
          · exact rs_forL f n g _ _ h1 h2
          · exact Rs.ok
          · exact Rs.ok
    · exact Rs.bad
theorem rs_whlF {C : Sg → Hs → R Bool} {F : Sg → Hs → R (Fl × Sg)} (c : Ev k C) (f : Ev k F) : ∀ (g : Nat) (σ : Sg) (h : Hs), k ≤ h.length → Rs k h (whlF C F g σ h)
  | 0, _, _, _ => Rs.bad
  | g + 1, σ, h, hk => by
    unfold whlF
    refine (c σ h hk).bind (fun b h1 _ h2 => ?_) hk
    cases b with
    | false => exact Rs.ok
    | true =>
      refine (f σ h1 h2).bind (fun p h3 _ h4 => ?_) h2
      split
      · exact rs_whlF c f g _ h3 h4
      · exact rs_whlF c f g _ h3 h4
      · exact Rs.ok
      · exact Rs.ok
theorem ev_evS (hc : CfOk cf) : ∀ s : S, Ev k (evS cf k s)
  | .skip => fun _ _ _ => Rs.ok
  | .seq a b => fun σ h hk => (ev_evS hc a σ h hk).bind (fun p h1 _ h2 => by
      split
      · exact ev_evS hc b _ h1 h2
      · exact Rs.ok) hk
  | .asg t e => ev_bind1' (evs_den hc e).e fun σ x h hk => Rs.of
  | .par is as => ev_bind1' (evs_den hc as).a fun σ x h hk => Rs.of
  | .parT t as => ev_bind1' (evs_den hc as).a fun σ x h hk => Rs.of
  | .sub o i v => fun σ h hk => ((evs_den hc v).e σ h hk).bind (fun z h1 _ h2 => ((evs_den hc o).e σ h1 h2).bind (fun x h3 _ h4 => ((evs_den hc i).e σ h3 h4).bind (fun y h5 _ h6 => (p_setv x y z h5 h6).bind (fun _ _ _ _ => Rs.ok) h6) h4) h2) hk
  | .aug i e => fun σ h hk => by
    show Rs k h (match σ[i]? with
      | some (some x) => (evE cf k e σ h).bind fun y h1 => (augv x y h1).bind fun z h2 => .ok (Fl.nx, σ.set i (some z)) h2
      | _ => .bad)
    split
    · refine ((evs_den hc e).e σ h hk).bind (fun y h1 _ h2 => Rs.bind ?_ (fun _ _ _ _ => Rs.ok) h2) hk
      unfold augv
      split
      · exact Rs.ok
      · exact Rs.bad
    · exact Rs.bad
  | .ex e => ev_bind1' (evs_den hc e).e fun σ x h hk => Rs.ok
  | .for_ t it b => fun σ h hk => ((evs_den hc it).i σ h hk).bind (fun J h1 _ h2 => by
      cases J with
      | fx xs => exact rs_forF (ev_evS hc b) xs σ h1 h2
      | lv n => exact rs_forV (ev_evS hc b) n _ _ σ h1 h2
      | ld n => exact rs_forL (ev_evS hc b) n _ _ σ h1 h2) hk
  | .lkS d s => ev_lkS (ev_evS hc s)
  | .whl c b => fun σ h hk => rs_whlF (ev_tOf (evs_den hc c).e) (ev_evS hc b) _ σ h hk
  | .ife c a b => fun σ h hk => (ev_tOf (evs_den hc c).e σ h hk).bind (fun t h1 _ h2 => by
      cases t with
      | true => exact ev_evS hc a σ h1 h2
      | false => exact ev_evS hc b σ h1 h2) hk
  | .ret e => ev_bind1' (evs_den hc e).e fun σ x h hk => Rs.ok
  | .stk => fun _ _ _ => Rs.bad
  | .brk => fun _ _ _ => Rs.ok
  | .cont => fun _ _ _ => Rs.ok
where
  ev_bind1' {α β : Type} {A : Sg → Hs → R α} {f : Sg → α → Hs → R β} (a : Ev k A) (p : ∀ σ x h, k ≤ h.length → Rs k h (f σ x h)) : Ev k (fun σ h => (A σ h).bind (f σ)) := fun σ h hk => (a σ h hk).bind (fun x h1 _ h2 => p σ x h1 h2) hk
theorem cl_take {j n : Nat} {h : Hs} (c : Cl j h) : Cl j (h.take n) := fun i hi o e => by
  rw [List.getElem?_take] at e
  split at e
  · exact c i hi o e
  · cases e
theorem step_fin {n : Nat} {h h1 : Hs} (s : Step h.length h h1) : Step h.length h (h1.take h.length) :=
  ⟨by rw [List.length_take]; have := s.le; omega, fun j hj c => cl_take (s.cl j hj c)⟩
theorem cf_ok (P : Pg) : ∀ n, CfOk (callN P n)
  | 0 => fun _ _ _ _ _ e => nomatch e
  | n + 1 => fun f vs h a h' e => by
    unfold callN at e
    split at e
    · cases e
    · rename_i fd _
      split at e
      · have ev := ev_evS (k := h.length) (cf_ok P n) fd.body (vs.map some ++ List.replicate (fd.ns - vs.length) none) h (Nat.le_refl _)
        generalize hr : evS (callN P n) h.length fd.body (vs.map some ++ List.replicate (fd.ns - vs.length) none) h = r at e ev
        cases r with
        | ok p h1 =>
          have s := ev p h1 rfl
          obtain ⟨fl, p'⟩ := p
          cases fl with
          | rt v =>
            have e : (match fd.kp with
              | true => handK h1 h.length v
              | false => R.of (handed h1 h.length v) (h1.take h.length)) = .ok a h' := e
            split at e
            · unfold handK at e
              split at e
              · split at e
                · cases e
                · split at e
                  · split at e
                    · cases e
                      have s2 := step_fin (n := h.length) s
                      refine s2.trans (.alloc ?_)
                      exact s2.le
                    · cases e
                  · cases e
              · cases e
            · cases eh : handed h1 h.length v with
              | none => rw [eh] at e; cases e
              | some w => rw [eh] at e; cases e; exact step_fin (n := h.length) s
          | nx =>
            have e : (match fd.kp with
              | true => .bad
              | false => .ok (.d .none) (h1.take h.length)) = R.ok a h' := e
            split at e
            · cases e
            · cases e; exact step_fin (n := h.length) s
          | bk => cases e
          | ct => cases e
        | exc _ _ => cases e
        | bad => cases e
      · cases e
end
end Iw
end

section
set_option Elab.async false
set_option linter.all false
set_option maxRecDepth 100000
/-! parameters that are all plain -/
namespace Iw
open PySem L2
theorem lookup_zip : ∀ {P : List Str} {us : List Value} {n : Str}, us.length = P.length → n ∈ P → ((P.zip us).lookup n).isNone = false
  | p :: P, u :: us, n, hl, h => by
    rw [List.zip_cons_cons, List.lookup_cons]
    cases e : n == p with
    | true => rfl
    | false =>
      have hn : n ≠ p := by simpa using e
      have : n ∈ P := (List.mem_cons.mp h).resolve_left hn
      exact lookup_zip (by simpa using hl) this
theorem fm_ext {α β : Type} {f g : α → Option β} : ∀ {l : List α}, (∀ x ∈ l, f x = g x) → l.filterMap f = l.filterMap g
  | [], _ => rfl
  | x :: l, h => by
    rw [List.filterMap_cons, List.filterMap_cons, h x List.mem_cons_self, fm_ext fun y hy => h y (List.mem_cons_of_mem _ hy)]
theorem zip_self : ∀ {P : List Str} {us : List Value}, P.Nodup → us.length = P.length → P.filterMap (fun n => ((P.zip us).lookup n).map (n, ·)) = P.zip us
  | [], us, _, _ => by simp
  | p :: P, u :: us, hn, hl => by
    rw [List.nodup_cons] at hn
    rw [List.zip_cons_cons, List.filterMap_cons]
    have e1 : (((p, u) :: P.zip us).lookup p).map (p, ·) = some (p, u) := by simp [List.lookup_cons]
    rw [e1]
    show (p, u) :: _ = _
    congr 1
    rw [← zip_self hn.2 (by simpa using hl)]
    rw [zip_self hn.2 (by simpa using hl)]
    refine Eq.trans (fm_ext fun n hm => ?_) (zip_self hn.2 (by simpa using hl))
    have : n ≠ p := fun e => hn.1 (e ▸ hm)
    rw [List.lookup_cons]
    have e2 : (n == p) = false := by simpa using this
    rw [e2]
theorem bind_plain {x qual : Str} {as : List Arg} {kd : List (Option Expr)} {ds : List Expr} {body : List Stmt} {scope : Scope} {kV doc pm : Value} {an : Option Addr} {cdv ct : Value} {us : List Value} (hn : (as.map (·.arg)).Nodup) (hl : us.length = as.length) :
    bindArgs (PySem.W.fnOf x qual ⟨[], as, none, [], kd, none, ds⟩ body scope .none kV doc pm an cdv ct) ⟨us, []⟩ = pure ((as.map (·.arg)).zip us) := by
  have hl2 : us.length = (as.map (·.arg)).length := by rw [List.length_map]; exact hl
  generalize hP : as.map (·.arg) = P at hn hl2
  have hm : (P.filter fun n => ((P.zip us).lookup n).isNone) = [] := by
    rw [List.filter_eq_nil_iff]
    intro n hnm
    rw [lookup_zip hl2 hnm]
    simp
  have hb := zip_self hn hl2
  unfold bindArgs
  simp only [List.map_nil, List.nil_append, hP, List.append_nil]
  have hs : seqItems? (Value.none) = pure none := rfl
  simp only [List.forIn_nil, pure_bind, hs]
  have h1 : ¬ (us.length > P.length ∧ True) := by omega
  simp [hl2, hm, hb]
theorem lookup_app_none {sl : List (Str × Value)} {n k : Str} {v : Value} (h : (sl.lookup n).isSome = false) (e : n ≠ k) : ((sl ++ [(k, v)]).lookup n).isSome = false := by
  rw [List.lookup_append]
  cases q : sl.lookup n with
  | some u => rw [q] at h; cases h
  | none =>
    have : (n == k) = false := by simpa using e
    simp [List.lookup, this]
theorem forIn_slots {B : Str × Value → List (Str × Value) × List (Str × Value) → Sem (ForInStep (List (Str × Value) × List (Str × Value)))} {P : List Str} (hB : ∀ x sl ex, x.1 ∈ P → (sl.lookup x.1).isSome = false → B x (sl, ex) = pure (.yield (sl ++ [(x.1, x.2)], ex))) :
    ∀ (kw sl ex : List (Str × Value)), (∀ x ∈ kw, x.1 ∈ P) → (kw.map (·.1)).Nodup → (∀ x ∈ kw, (sl.lookup x.1).isSome = false) → forIn kw (sl, ex) B = pure (sl ++ kw, ex)
  | [], sl, ex, _, _, _ => by simp
  | x :: kw, sl, ex, h1, h2, h3 => by
    rw [List.map_cons, List.nodup_cons] at h2
    rw [List.forIn_cons, hB x sl ex (h1 x List.mem_cons_self) (h3 x List.mem_cons_self), pure_bind]
    show forIn kw (sl ++ [(x.1, x.2)], ex) B = _
    rw [forIn_slots hB kw _ ex (fun y hy => h1 y (List.mem_cons_of_mem _ hy)) h2.2 fun y hy => lookup_app_none (h3 y (List.mem_cons_of_mem _ hy)) fun e => h2.1 (by rw [← e]; exact List.mem_map.mpr ⟨y, hy, rfl⟩)]
    simp
theorem zip_look {kw : List (Str × Value)} : ∀ {P : List Str}, (∀ n ∈ P, (kw.lookup n).isSome = true) → (P.filterMap fun n => (kw.lookup n).map (n, ·)) = P.zip (P.map fun n => (kw.lookup n).getD .none)
  | [], _ => rfl
  | p :: P, h => by
    obtain ⟨v, e⟩ := Option.isSome_iff_exists.mp (h p List.mem_cons_self)
    rw [List.filterMap_cons, e]
    show (p, v) :: _ = _
    rw [zip_look fun n hn => h n (List.mem_cons_of_mem _ hn), List.map_cons, e]
    rfl
theorem bind_kw {x qual : Str} {as : List Arg} {kd : List (Option Expr)} {ds : List Expr} {body : List Stmt} {scope : Scope} {kV doc pm : Value} {an : Option Addr} {cdv ct : Value} {kw : List (Str × Value)} (hk : ∀ y ∈ kw, y.1 ∈ as.map (·.arg)) (hd : (kw.map (·.1)).Nodup) (ha : ∀ n ∈ as.map (·.arg), (kw.lookup n).isSome = true) :
    bindArgs (PySem.W.fnOf x qual ⟨[], as, none, [], kd, none, ds⟩ body scope .none kV doc pm an cdv ct) ⟨[], kw⟩ = pure ((as.map (·.arg)).zip ((as.map (·.arg)).map fun n => (kw.lookup n).getD .none)) := by
  generalize hP : as.map (·.arg) = P at hk ha
  have hm : (P.filter fun n => (kw.lookup n).isNone) = [] := by
    rw [List.filter_eq_nil_iff]
    intro n hnm
    have := ha n hnm
    cases q : kw.lookup n <;> simp_all
  unfold bindArgs
  simp only [List.map_nil, List.nil_append, hP, List.append_nil]
  have hs : seqItems? (Value.none) = pure none := rfl
  simp only [List.forIn_nil, pure_bind, hs]
  rw [forIn_slots (P := P) (fun x sl ex h1 h2 => by simp [h1, h2]) kw _ _ hk hd (by simp)]
  have hz := zip_look ha
  simp [hm, hz]
end Iw
end

section
set_option Elab.async false
set_option linter.all false
set_option maxRecDepth 100000
/-! calls of the law's own functions -/
namespace Iw
open PySem PySem.Spec PyProof.Rows L2
variable [TheW]
def CXn : CXT := fun _ _ _ _ _ _ => False
def En : XK := fun _ _ _ => False
abbrev Spg := List V → Hp → VK → Prop
/-- a function's promise, where nothing is guarded -/
structure FnG (P : Program) (w : World) (K : PySem.W.Frag) (mg : Str → Option Value) (base : Heap) (k : Nat) (f : Addr) (fd : FuncData) (ps : List Str) (sp : Spg) : Prop where
  len : ∀ vs H Q, sp vs H Q → vs.length = ps.length
  run : ∀ (A : Around) (outer : List Env) (s : Shared) (H : Hp) (args : Args) (us : List Value) (vs : List V) (Q : VK), Room k A → A.guards = some [] → Env0 P w K mg base A outer s H → BindsTo s fd args (ps.zip us) → Vals vs us → sp vs H Q →
    codeAny (model P w) A (.call (.ref f) args) (CR CXn outer P w H s Q En) s
theorem fnG_of {P : Program} {w : World} {K : PySem.W.Frag} {mg : Str → Option Value} {base : Heap} {x qual : Str} {params : Arguments} {body : List Stmt} {scope : Scope} {dvs : List V} {kws : List (Str × V)} {f : Addr} {fd : FuncData} {N ps : List Str} {k : Nat} {sp : Spg} (F : FunD K x qual params body scope dvs kws f fd) (S : FnScope N ps scope) (len : ∀ vs H Q, sp vs H Q → vs.length = ps.length)
    (hbody : ∀ (cdv : Value) (A : Around) (outer : List Env) (s : Shared) (H : Hp) (vs : List V) (Q : VK), Room k (A.deeper (envOfC qual scope s.heap.objs.size f cdv)) → (A.deeper (envOfC qual scope s.heap.objs.size f cdv)).guards = some [] → sp vs H Q →
      ∃ t, PSs (cxOf CXn P w K mg base N qual scope f cdv A outer s H En).nox body t ∧ t { nx := fun _ H' => Q .non H', rt := Q } (L2.start N vs) H) : FnG P w K mg base (k + 1) f fd ps sp := by
  obtain ⟨oc, od, dV, kV, doc, pm, an, cdv, ct, osl, rfl, lk, hcd, _, _⟩ := F.ex
  refine ⟨len, fun A outer s H args us vs Q hr hgd e0 hb r hsp => ?_⟩
  have hl := len _ _ _ hsp
  have KX : K.In s.heap := e0.mod.kin.keeps fun b o e => (e0.bs b o e).1
  have lim : s.heap.NoLimit := e0.mod.nolimit.keeps fun b o e => (e0.bs b o e).1
  have hkind : ∀ y ∈ ps.zip us, scope.names.lookup y.1 = some .local ∨ (scope.names.lookup y.1 = some .cell ∧ ((cellsFrom (s.heap.objs.size + 1) scope.names []).lookup y.1).isSome = true) := fun ⟨n, v⟩ hy => by
    rcases S.par n (List.of_mem_zip hy).1 with q | q
    · exact .inl q
    · exact .inr ⟨q, PySem.W.cellsFrom_some _ _ _ (.inl q)⟩
  refine codeAny_call_function hr.depth (KX _ _ lk) rfl S.co S.gen rfl (PySem.W.codeRec_of KX hcd) (hb _ _ _ _ ?_)
  refine wpAny_newFunctionEnv_cells S.kind hkind fun env he s1 x => ?_
  subst he
  refine ⟨lim.keeps x.toInCall.keep, codeAny_func ?_⟩
  obtain ⟨t, ht, hq⟩ := hbody cdv A outer s H vs Q (hr.deeper _) hgd hsp
  have I : Inv (cxOf CXn P w K mg base N qual scope f cdv A outer s H En) [] (L2.start N vs) H s1 := inv_start S hr.hd e0 hl r x
  refine wpAny_mono (ht.nox.run [] s1 (L2.start N vs) H _ I hq) (fun fl s' hs => ?_) fun e s' hs => hs
  have fin : ∀ {σ' : L2.St} {H' : Hp} {v : V} {u : Value}, Inv (cxOf CXn P w K mg base N qual scope f cdv A outer s H En) [] σ' H' s' → RelV v u → Q v H' → CE outer P w H s Q u s' :=
    fun {σ' H' v u} J rv q => ⟨v, H', J.os, J.bare, J.base, J.hok, rv, q⟩
  cases fl with
  | ret u =>
    obtain ⟨v, σ', H', J, rv, q⟩ := hs
    exact fin J rv q
  | next =>
    obtain ⟨σ', H', J, q⟩ := hs
    exact fin (v := V.non) (u := Value.none) J rfl q
  | brk =>
    obtain ⟨_, _, _, q⟩ := hs
    exact False.elim q
  | cont =>
    obtain ⟨_, _, _, q⟩ := hs
    exact False.elim q
theorem FnG.mono {P : Program} {w : World} {K : PySem.W.Frag} {mg : Str → Option Value} {base : Heap} {j k : Nat} {f : Addr} {fd : FuncData} {ps : List Str} {sp : Spg} (F : FnG P w K mg base j f fd ps sp) (h : j ≤ k) : FnG P w K mg base k f fd ps sp :=
  ⟨F.len, fun A outer s H args us vs Q hr => F.run A outer s H args us vs Q (hr.mono h)⟩
section
variable {X : Cx} {k : Nat} {f : Addr} {fd : FuncData} {ps : List Str} {sp : Spg}
theorem call_G (F : FnG X.prog X.w X.K X.mg X.base k f fd ps sp) (hr : Room k X.A) (hg : X.A.guards = some []) (hb : Binds X.K fd ps []) : CallR X (.ref f) sp := by
  intro pins s σ H vs us Q I r h
  have hl : us.length = ps.length := by rw [← r.length]; exact F.len _ _ _ h
  have b := hb s us I.kIn (by rw [List.append_nil]; exact hl)
  rw [List.append_nil] at b
  refine wpAny_call (codeAny_mono (F.run X.A X.stack s H ⟨us, []⟩ us vs Q hr hg I.env0 b r h) fun r s' hq => ?_)
  cases r with
  | error e => exact False.elim hq
  | ok fl =>
    cases fl with
    | ret u => exact I.after hq
    | next => exact False.elim hq
    | brk => exact False.elim hq
    | cont => exact False.elim hq
theorem e_call {W : WX} {A : Dn} {cf : Str → List PV → Hs → R PV} {x : Str} {p pos : Pos} {e : Expr} {es : List Expr} (hc : CallR X (.ref f) (rs X (cf x))) (hg : Gl X x) (hm : X.mg x = some (.ref f)) (hk : PySem.W.keepIn X.K (.ref f) = true) (ha : PA X (e :: es) (tA X W A.a)) (hdb : (x == ("__debug__" : Str)) = false)
    (he : starEach (e :: es) X.env = (false, eval e X.env) :: starEach es X.env) (hpl : (backTo pos (starEach es X.env)).any (·.1) = false) : PE X (.Call (.Name x p) (e :: es) [] pos) (tE X W (args A (cf x)).e) := by
  refine PE.imp (t := tCB (rs X (cf x)) (tA X W A.a)) ⟨fun pins s σ H Q I h => ?_⟩ fun _ _ _ => t_args
  refine wpAny_Call_Name_kw (ld_glob I hg hm ?_ hdb)
  refine PySem.W.callWith_K (h₀ := X.base) I.ok.mod.kin hk (thn (ha.run pos pins s σ H _ I h) fun us s1 ⟨vs, H1, I1, r, q⟩ => ⟨I1.kIn, ?_⟩) he hpl
  exact hc pins s1 σ H1 vs us Q I1 r q
theorem e_call0 {W : WX} {k : Nat} {cf g : Str → List PV → Hs → R PV} {x : Str} {p pos : Pos} (hc : CallR X (.ref f) (rs X (g x))) (hg : Gl X x) (hm : X.mg x = some (.ref f)) (hk : PySem.W.keepIn X.K (.ref f) = true) (hdb : (x == ("__debug__" : Str)) = false) : PE X (.Call (.Name x p) [] [] pos) (tE X W (args (den cf k .nil) (g x)).e) := by
  refine PE.imp (t := tCB (rs X (g x)) (tA X W (den cf k .nil).a)) ⟨fun pins s σ H Q I ⟨m, q, hh, rs, rh, hs⟩ => ?_⟩ fun _ _ _ => t_args
  refine wpAny_Call_Name_kw (ld_glob I hg hm ?_ hdb)
  exact PySem.W.callWith_K0 I.kIn hk (hc pins s σ H [] [] Q I .nil (hs [] H m .refl rh .nil))
end
/-! ### a call with data alone, over an empty store -/
theorem datas_is : ∀ {ps : List PV} {ds : List PyData}, datas ps = some ds → ps = ds.map .d
  | [], ds, e => by cases e; rfl
  | .d x :: ps, ds, e => by
    obtain ⟨ds', e1, rfl⟩ := Option.map_eq_some_iff.mp (show (datas ps).map (x :: ·) = some ds from e)
    rw [datas_is e1]; rfl
  | .ref _ :: _, _, e => by cases e
  | .scr _ :: _, _, e => by cases e
  | .pr _ _ :: _, _, e => by cases e
theorem rs_callE {X : Cx} {g : List PV → Hs → R PV} {vs : List V} {H : Hp} {Q : VK} (q : rs X (callEv g) vs H Q) : rs X g vs H Q := by
  obtain ⟨E, m, h, ps, rh, rv, hs⟩ := q
  have hs : satG X.mg X.K E m H (RV X.K) (match datas ps with
    | some _ => match g ps [] with
      | .ok (.d y) _ => .ok (.d y) h
      | _ => .bad
    | none => .bad) Q := hs
  split at hs
  · rename_i ds e
    split at hs
    · rename_i y h' eg
      have mm : ∀ a, a ∈ m ↔ a ∈ (⟨[], m.own ++ m.hid⟩ : Mp) := fun a => ⟨fun z => .inr (List.mem_append.mpr z), fun z => by
        rcases z with z | z
        · cases z
        · exact List.mem_append.mp z⟩
      refine ⟨E, ⟨[], m.own ++ m.hid⟩, [], ps, ⟨rfl, .nil, fun a ha => ⟨fun z => (nomatch z), ?_⟩, fun n o e => by simp at e⟩, ?_, ?_⟩
      · rcases List.mem_append.mp ha with ha | ha
        · obtain ⟨n, e⟩ := List.getElem?_of_mem ha
          have hl : n < h.length := by rw [← rh.len]; exact (List.getElem?_eq_some_iff.mp e).1
          obtain ⟨b, u, e1, e2, e3⟩ := rh.at_ n h[n] (by simp [hl])
          rw [e] at e1; cases e1
          refine ⟨u, e2, fun xs z => ?_⟩
          subst z
          cases e3
        · exact (rh.hd a ha).2
      · have r1 : RpA ⟨[], m.own ++ m.hid⟩ H vs ds := (RVs.rpa rv e).less fun a z => (mm a).mpr z
        have e2 : ps = ds.map .d := datas_is e
        rw [e2]
        exact r1.rvs
      · rw [eg]
        intro b H' m' ev rh' rb
        have keep : ∀ a, a ∈ m → ∃ o, H a = some o ∧ H' a = some o ∧ a ∈ m' := fun a ha => by
          obtain ⟨o, eo⟩ := rh.tracked ha
          obtain ⟨q1, q2⟩ := ev.hd a o (List.mem_append.mpr ha) eo
          exact ⟨o, eo, q1, .inr q2⟩
        have ev2 : Evo m H m H' := ⟨List.prefix_refl _, fun a o ha eo => ⟨by
          obtain ⟨o', q1, q2, _⟩ := keep a (.inr ha)
          rw [eo] at q1; cases q1
          exact q2, ha⟩, fun a o eo n => ⟨(ev.kp a o eo fun z => n ((mm a).mpr z)).1, n⟩, ev.fz⟩
        refine hs b H' m ev2 (rh.keep ev2 fun a ha => ?_) (.d ((rv_d rb).less fun a ha => ?_))
        · obtain ⟨o', q1, q2, _⟩ := keep a ha
          rw [q1, q2]
        · exact (keep a ha).choose_spec.2.2
    · exact hs.elim
  · exact hs.elim
theorem call_E {X : Cx} {f : Addr} {g : List PV → Hs → R PV} (hc : CallR X (.ref f) (rs X g)) : CallR X (.ref f) (rs X (callEv g)) := fun pins s σ H vs us Q I r q => hc pins s σ H vs us Q I r (rs_callE q)
/-! ### a call's end -/
section
variable {K : PySem.W.Frag} {mg : Str → Option Value} {m m' : Mp} {H H' : Hp} {h h' : Hs}
theorem rh_cl (rh : RH K m h H) : Cl h.length h := fun n hn o e => by
  obtain ⟨a, u, h1, h2, h3⟩ := rh.at_ n o e
  have go : ∀ {v : V} {x : PV}, RV K m H v x → pvCl h.length x := fun {v x} r => by
    cases r with
    | d _ => exact trivial
    | ref ha =>
      have := (List.getElem?_eq_some_iff.mp ha).1
      rw [rh.len] at this
      exact this
    | scr _ => exact trivial
    | pr _ _ _ ha =>
      have := (List.getElem?_eq_some_iff.mp ha).1
      rw [rh.len] at this
      exact this
  have al : ∀ {vs : List V} {xs : List PV}, RVs K m H vs xs → ∀ x ∈ xs, pvCl h.length x := fun r => by
    induction r with
    | nil => intro x hx; cases hx
    | cons r _ ih =>
      intro x hx
      rcases List.mem_cons.mp hx with e | hx
      · rw [e]; exact go r
      · exact ih x hx
  have an : ∀ {vs : List (NestedKey × Addr × V)} {xs : List (NestedKey × PV)}, PN K m H vs xs → ∀ x ∈ xs, pvCl h.length x.2 := fun r => by
    induction r with
    | nil => intro x hx; cases hx
    | cons r _ ih =>
      intro x hx
      rcases List.mem_cons.mp hx with e | hx
      · rw [e]; exact go r.2.2
      · exact ih x hx
  have ad : ∀ {κ : Type} {vs : List (κ × V)} {xs : List (κ × PV)}, Paired (fun p q => p.1 = q.1 ∧ RV K m H p.2 q.2) vs xs → ∀ x ∈ xs, pvCl h.length x.2 := fun r => by
    induction r with
    | nil => intro x hx; cases hx
    | cons r _ ih =>
      intro x hx
      rcases List.mem_cons.mp hx with e | hx
      · rw [e]; exact go r.2
      · exact ih x hx
  cases h3 with
  | lst r => exact al r
  | dK r => exact ad r
  | dT r => exact ad r
  | dTl r => exact ad r
  | dN r => exact an r
  | dNl r => exact an r
/-- the map of what is older than the call -/
abbrev Mp.old (m : Mp) (k : Nat) : Mp := ⟨m.own.take k, m.hid⟩
theorem less_old {k : Nat} : Less m (m.old k) := fun a z => z.elim (fun z => .inl (List.mem_of_mem_take z)) .inr
theorem rv_old {k : Nat} {v : V} {x : PV} (r : RV K m H v x) (c : pvCl k x) : RV K (m.old k) H v x := by
  cases r with
  | d r => exact .d (r.less less_old)
  | ref ha =>
    refine .ref ?_
    show (m.own.take k)[_]? = _
    rw [List.getElem?_take, if_pos (show _ < k from c)]; exact ha
  | scr s => exact .scr (s.imp (fun z => ⟨z.1, fun q => z.2 (less_old _ q)⟩) id)
  | pr h1 h2 h3 ha =>
    refine .pr h1 (fun z => h2 (less_old _ z)) (h3.less less_old) ?_
    show (m.own.take k)[_]? = _
    rw [List.getElem?_take, if_pos (show _ < k from c)]; exact ha
theorem ro_old {k : Nat} {ad0 : Addr} {u : HO} {o : Ob} (r : RO K m H ad0 u o) (c : obCl k o) : RO K (m.old k) H ad0 u o := by
  have an : ∀ {vs : List (NestedKey × Addr × V)} {xs : List (NestedKey × PV)}, PN K m H vs xs → (∀ x ∈ xs, pvCl k x.2) → PN K (m.old k) H vs xs := fun r => by
    induction r with
    | nil => intro _; exact .nil
    | cons r _ ih => intro c; exact .cons ⟨r.1, r.2.1.less less_old, rv_old r.2.2 (c _ List.mem_cons_self)⟩ (ih fun x hx => c x (List.mem_cons_of_mem _ hx))
  have ad : ∀ {κ : Type} {vs : List (κ × V)} {xs : List (κ × PV)}, Paired (fun p q => p.1 = q.1 ∧ RV K m H p.2 q.2) vs xs → (∀ x ∈ xs, pvCl k x.2) → Paired (fun p q => p.1 = q.1 ∧ RV K (m.old k) H p.2 q.2) vs xs := fun r => by
    induction r with
    | nil => intro _; exact .nil
    | cons r _ ih => intro c; exact .cons ⟨r.1, rv_old r.2 (c _ List.mem_cons_self)⟩ (ih fun x hx => c x (List.mem_cons_of_mem _ hx))
  cases r with
  | lst r =>
    have al : ∀ {vs : List V} {xs : List PV}, RVs K m H vs xs → (∀ x ∈ xs, pvCl k x) → RVs K (m.old k) H vs xs := fun r => by
      induction r with
      | nil => intro _; exact .nil
      | cons r _ ih => intro c; exact .cons (rv_old r (c _ List.mem_cons_self)) (ih fun x hx => c x (List.mem_cons_of_mem _ hx))
    exact .lst (al r c)
  | dK r => exact .dK (ad r c)
  | dT r => exact .dT (ad r c)
  | dTl r => exact .dTl (ad r c)
  | dN r => exact .dN (an r c)
  | dNl r => exact .dNl (an r c)
theorem rh_old {k : Nat} (rh : RH K m h H) (c : Cl k h) : RH K (m.old k) (h.take k) H := by
  refine ⟨by simp [rh.len], rh.nd.sublist (List.take_sublist _ _), fun a ha => ⟨fun z => (rh.hd a ha).1 (List.mem_of_mem_take z), (rh.hd a ha).2⟩, fun n o e => ?_⟩
  rw [List.getElem?_take] at e
  split at e
  · rename_i hn
    obtain ⟨a, u, h1, h2, h3⟩ := rh.at_ n o e
    exact ⟨a, u, by show (m.own.take k)[n]? = _; rw [List.getElem?_take, if_pos hn]; exact h1, h2, ro_old h3 (c n hn o e)⟩
  · cases e
theorem evo_old {k : Nat} (rh : RH K m h H) (e : Evo m H m' H') (hk : h.length = k) : Evo m H (m'.old k) H' := by
  refine ⟨?_, e.hd, fun a o q n => ⟨(e.kp a o q n).1, fun z => (e.kp a o q n).2 (less_old _ z)⟩, e.fz⟩
  obtain ⟨t, et⟩ := e.pre
  refine ⟨[], ?_⟩
  show m.own ++ [] = m'.own.take k
  rw [← et, List.append_nil, ← hk, ← rh.len, List.take_left']
  rfl
theorem thaw_at {k : Nat} (rh : RH K m h H) : ∀ (f : Nat) {v : V} {x : PV} {d : PyData}, RV K m H v x → thaw h k f x = some d → Rp (m.old k) H v d
  | 0, v, x, d, r, e => by
    cases x with
    | d y => cases e; exact (rv_d r).less less_old
    | ref n => cases e
    | scr _ => cases e
    | pr _ _ => cases e
  | f + 1, v, x, d, r, e => by
    cases x with
    | d y => cases e; exact (rv_d r).less less_old
    | scr _ => cases e
    | pr _ _ => cases e
    | ref n =>
      have e : (if n < k then none else match h[n]? with
        | some (.lst xs) => ((xs.map (thaw h k f)).foldr (fun o acc => o.bind fun x => acc.map (x :: ·)) (some [])).map PyData.list
        | _ => none) = some d := e
      split at e
      · cases e
      · rename_i hn
        split at e
        · rename_i xs e0
          obtain ⟨ds, e1, rfl⟩ := Option.map_eq_some_iff.mp e
          obtain ⟨a, vs, rfl, h1, h2, h3⟩ := rv_ref rh r e0
          have na : a ∉ m.old k := fun z => by
            rcases z with z | z
            · obtain ⟨i, hi⟩ := List.getElem?_of_mem z
              have hi : (m.own.take k)[i]? = some a := hi
              rw [List.getElem?_take] at hi
              split at hi
              · rename_i hik
                obtain ⟨g1, g2⟩ := List.getElem?_eq_some_iff.mp hi
                obtain ⟨g3, g4⟩ := List.getElem?_eq_some_iff.mp h1
                have := (List.getElem_inj rh.nd).mp (g2.trans g4.symm)
                omega
              · cases hi
            · exact (rh.hd a z).1 (List.mem_of_getElem? h1)
          refine .lst h2 na ?_
          have go : ∀ {vs : List V} {xs : List PV}, RVs K m H vs xs → ∀ ds : List PyData, (xs.map (thaw h k f)).foldr (fun o acc => o.bind fun x => acc.map (x :: ·)) (some []) = some ds → RpA (m.old k) H vs ds := fun r => by
            induction r with
            | nil => intro ds e; cases e; exact .nil
            | @cons v x vs xs r _ ih =>
              intro ds e
              have e : (thaw h k f x).bind (fun x => ((xs.map (thaw h k f)).foldr (fun o acc => o.bind fun x => acc.map (x :: ·)) (some [])).map (x :: ·)) = some ds := e
              obtain ⟨d1, q1, q2⟩ := Option.bind_eq_some_iff.mp e
              obtain ⟨ds1, q3, rfl⟩ := Option.map_eq_some_iff.mp q2
              exact .cons (thaw_at rh f r q1) (ih _ q3)
          exact go h3 _ e1
        · cases e
theorem handed_at {k : Nat} (rh : RH K m h H) {v : V} {x w : PV} (r : RV K m H v x) (e : handed h k x = some w) : RV K (m.old k) H v w := by
  cases x with
  | d y => cases e; exact rv_old r trivial
  | scr _ => cases e; exact rv_old r trivial
  | pr _ _ => cases e
  | ref n =>
    have e : (if n < k then some (.ref n) else (thaw h k 8 (.ref n)).map PV.d) = some w := e
    split at e
    · rename_i hn
      cases e; exact rv_old r hn
    · obtain ⟨d, e1, rfl⟩ := Option.map_eq_some_iff.mp e
      exact .d (thaw_at rh 8 r e1)
theorem kept_at {k : Nat} {o : Ob} (rh : RH K m h H) {v : V} {n : Nat} (r : RV K m H v (.ref n)) (hn : ¬ n < k) (hk : k ≤ h.length) (c : Cl k h) (e : h[n]? = some o) (ok : keepOb k o = true) :
    ∃ a, v = .ref a ∧ a ∉ m.old k ∧ RH K ((m.old k).add a) (h.take k ++ [o]) H ∧ RV K ((m.old k).add a) H v (.ref k) ∧ a ∈ m := by
  obtain ⟨a, u, h1, h2, h3⟩ := rh.at_ n o e
  have ra : v = .ref a := by
    cases r with
    | ref ha => rw [h1] at ha; cases ha; rfl
  subst ra
  have na : a ∉ m.old k := fun z => by
    rcases z with z | z
    · obtain ⟨i, hi⟩ := List.getElem?_of_mem z
      have hi : (m.own.take k)[i]? = some a := hi
      rw [List.getElem?_take] at hi
      split at hi
      · rename_i hik
        obtain ⟨g1, g2⟩ := List.getElem?_eq_some_iff.mp hi
        obtain ⟨g3, g4⟩ := List.getElem?_eq_some_iff.mp h1
        have := (List.getElem_inj rh.nd).mp (g2.trans g4.symm)
        omega
      · cases hi
    · exact (rh.hd a z).1 (List.mem_of_getElem? h1)
  have hl : (m.own.take k).length = k := by rw [List.length_take, rh.len]; omega
  have hl2 : (h.take k).length = k := by rw [List.length_take]; omega
  have base := rh_old rh c
  have lessA : Less m ((m.old k).add a) := fun b z => by
    rcases z with z | z
    · rcases List.mem_append.mp z with z | z
      · exact .inl (List.mem_of_mem_take z)
      · have : b = a := by simpa using z
        rw [this]; exact .inl (List.mem_of_getElem? h1)
    · exact .inr z
  have rvx : ∀ {v : V} {x : PV}, RV K m H v x → pvCl k x → RV K ((m.old k).add a) H v x := fun {v x} r c => by
    cases r with
    | d r => exact .d (r.less lessA)
    | ref ha =>
      refine .ref ?_
      show (m.own.take k ++ [a])[_]? = _
      rw [List.getElem?_append_left (by rw [hl]; exact c), List.getElem?_take, if_pos (show _ < k from c)]; exact ha
    | scr s => exact .scr (s.imp (fun z => ⟨z.1, fun q => z.2 (lessA _ q)⟩) id)
    | pr h1 h2 h3 ha =>
      refine .pr h1 (fun z => h2 (lessA _ z)) (h3.less lessA) ?_
      show (m.own.take k ++ [a])[_]? = _
      rw [List.getElem?_append_left (by rw [hl]; exact c), List.getElem?_take, if_pos (show _ < k from c)]; exact ha
  have rox : ∀ {b : Addr} {u : HO} {o : Ob}, RO K m H b u o → obCl k o → RO K ((m.old k).add a) H b u o := fun {b u o} r c => by
    have an : ∀ {vs : List (NestedKey × Addr × V)} {xs : List (NestedKey × PV)}, PN K m H vs xs → (∀ x ∈ xs, pvCl k x.2) → PN K ((m.old k).add a) H vs xs := fun r => by
      induction r with
      | nil => intro _; exact .nil
      | cons r _ ih => intro c; exact .cons ⟨r.1, r.2.1.less lessA, rvx r.2.2 (c _ List.mem_cons_self)⟩ (ih fun x hx => c x (List.mem_cons_of_mem _ hx))
    have ad : ∀ {κ : Type} {vs : List (κ × V)} {xs : List (κ × PV)}, Paired (fun p q => p.1 = q.1 ∧ RV K m H p.2 q.2) vs xs → (∀ x ∈ xs, pvCl k x.2) → Paired (fun p q => p.1 = q.1 ∧ RV K ((m.old k).add a) H p.2 q.2) vs xs := fun r => by
      induction r with
      | nil => intro _; exact .nil
      | cons r _ ih => intro c; exact .cons ⟨r.1, rvx r.2 (c _ List.mem_cons_self)⟩ (ih fun x hx => c x (List.mem_cons_of_mem _ hx))
    cases r with
    | lst r =>
      have al : ∀ {vs : List V} {xs : List PV}, RVs K m H vs xs → (∀ x ∈ xs, pvCl k x) → RVs K ((m.old k).add a) H vs xs := fun r => by
        induction r with
        | nil => intro _; exact .nil
        | cons r _ ih => intro c; exact .cons (rvx r (c _ List.mem_cons_self)) (ih fun x hx => c x (List.mem_cons_of_mem _ hx))
      exact .lst (al r c)
    | dK r => exact .dK (ad r c)
    | dT r => exact .dT (ad r c)
    | dTl r => exact .dTl (ad r c)
    | dN r => exact .dN (an r c)
    | dNl r => exact .dNl (an r c)
  have kv : ∀ x, keepV k x = true → pvCl k x := fun x h => by
    cases x with
    | d _ => exact trivial
    | ref j => exact (by simpa [keepV] using h : j < k)
    | scr _ => exact trivial
    | pr _ _ => cases h
  have oc : obCl k o := by
    cases o with
    | lst xs => exact fun x hx => kv x (List.all_eq_true.mp (show xs.all (keepV k) = true from ok) x hx)
    | dK xs => exact fun x hx => kv x.2 (List.all_eq_true.mp (show (xs.all fun kv => keepV k kv.2) = true from ok) x hx)
    | dT xs => exact fun x hx => kv x.2 (List.all_eq_true.mp (show (xs.all fun kv => keepV k kv.2) = true from ok) x hx)
    | dTl xs => cases ok
    | dNl xs => cases ok
    | dN xs => exact fun x hx => kv x.2 (List.all_eq_true.mp (show (xs.all fun kv => keepV k kv.2) = true from ok) x hx)
  refine ⟨a, rfl, na, ⟨by simp [hl, hl2], ?_, fun b hb => ?_, fun j o' e' => ?_⟩, .ref ?_, .inl (List.mem_of_getElem? h1)⟩
  · show (m.own.take k ++ [a]).Nodup
    rw [List.nodup_append]
    refine ⟨base.nd, by simp, fun b hb d hd => ?_⟩
    have : d = a := by simpa using hd
    rintro rfl
    exact na (.inl (this ▸ hb))
  · refine ⟨fun z => ?_, (rh.hd b hb).2⟩
    rcases List.mem_append.mp z with z | z
    · exact (rh.hd b hb).1 (List.mem_of_mem_take z)
    · have : b = a := by simpa using z
      exact na (this ▸ .inr hb)
  · by_cases hj : j < k
    · rw [List.getElem?_append_left (by rw [hl2]; exact hj), List.getElem?_take, if_pos hj] at e'
      obtain ⟨b, w, q1, q2, q3⟩ := rh.at_ j o' e'
      refine ⟨b, w, ?_, q2, rox q3 (c j hj o' e')⟩
      show (m.own.take k ++ [a])[j]? = _
      rw [List.getElem?_append_left (by rw [hl]; exact hj), List.getElem?_take, if_pos hj]; exact q1
    · rw [List.getElem?_append_right (by rw [hl2]; omega), hl2] at e'
      have hj0 : j = k := by
        have := (List.getElem?_eq_some_iff.mp e').1
        simp at this
        omega
      subst hj0
      simp at e'
      subst e'
      refine ⟨a, u, ?_, h2, rox h3 oc⟩
      show (m.own.take j ++ [a])[j]? = _
      rw [List.getElem?_append_right (by rw [hl]; exact Nat.le_refl _), hl]
      simp
  · show (m.own.take k ++ [a])[k]? = _
    rw [List.getElem?_append_right (by rw [hl]; exact Nat.le_refl _), hl]
    simp
theorem evo_kept {k : Nat} {a : Addr} (rh : RH K m h H) (e : Evo m H m' H') (hk : h.length = k) (ha : a ∈ m') : Evo m H ((m'.old k).add a) H' := by
  have e2 := evo_old rh e hk
  refine ⟨e2.pre.trans (List.prefix_append _ _), e2.hd, fun b o q n => ⟨(e2.kp b o q n).1, fun z => ?_⟩, e2.fz⟩
  rcases z with z | z
  · rcases List.mem_append.mp z with z | z
    · exact (e2.kp b o q n).2 (.inl z)
    · have : b = a := by simpa using z
      exact (e.kp b o q n).2 (this ▸ ha)
  · exact (e2.kp b o q n).2 (.inr z)
/-- the body's end is the call's -/
theorem fin_sat {E : Value → Hp → Prop} {Q : VK} {kp : Bool} {r : R (Fl × Sg)} (rh : RH K m h H) (st : Rs h.length h r) (hs : satG mg K E m H (RV K) (fin kp h.length r) Q) : satR K { nx := fun _ H' => Q .non H', rt := Q } m H r := by
  cases r with
  | ok p h' =>
    have s := st p h' rfl
    have c := s.cl h.length (Nat.le_refl _) (rh_cl rh)
    obtain ⟨fl, p'⟩ := p
    intro σ' H' m' ev rh' rs'
    have evo := evo_old rh ev rfl
    have rho := rh_old rh' c
    cases fl with
    | nx =>
      cases kp with
      | true => exact hs.elim
      | false =>
        have hs : satG mg K E m H (RV K) (.ok (.d .none) (h'.take h.length)) Q := hs
        exact hs _ H' _ evo rho (.d .non)
    | rt v =>
      intro w rw
      cases kp with
      | false =>
        have hs : satG mg K E m H (RV K) (R.of (handed h' h.length v) (h'.take h.length)) Q := hs
        cases eh : handed h' h.length v with
        | none => rw [eh] at hs; exact hs.elim
        | some x =>
          rw [eh] at hs
          exact hs _ H' _ evo rho (handed_at rh' rw eh)
      | true =>
        cases v with
        | ref n =>
          have hs : satG mg K E m H (RV K) (if n < h.length then .bad else match h'[n]? with
            | some o => if keepOb h.length o = true then .ok (.ref h.length) (h'.take h.length ++ [o]) else .bad
            | none => .bad) Q := hs
          split at hs
          · exact hs.elim
          · rename_i hn
            split at hs
            · rename_i o e0
              obtain ⟨hk, hs⟩ := satG_if hs
              obtain ⟨a, rfl, na, q1, q2, q3⟩ := kept_at rh' rw hn s.le c e0 hk
              exact hs _ H' _ (evo_kept rh ev rfl q3) q1 q2
            · exact hs.elim
        | d _ => exact hs.elim
        | scr _ => exact hs.elim
        | pr _ _ => exact hs.elim
    | bk => exact hs.elim
    | ct => exact hs.elim
  | exc _ _ => exact hs.elim
  | bad => exact hs.elim
theorem rs_start {N : List Str} {vs : List V} {ps : List PV} (r : RVs K m H vs ps) : RS K m H (L2.start N vs) (ps.map some ++ List.replicate (N.length - ps.length) none) := by
  have hl := r.len
  refine ⟨by simp [L2.start, hl], fun i x e => ?_⟩
  by_cases hi : i < ps.length
  · rw [List.getElem?_append_left (by simpa using hi), List.getElem?_map] at e
    obtain ⟨y, e1, e2⟩ := Option.map_eq_some_iff.mp e
    cases e2
    obtain ⟨v, q1, q2⟩ := PairedGet r e1
    refine ⟨v, ?_, q2⟩
    unfold L2.start
    rw [List.getElem?_append_left (by simpa [hl] using hi), List.getElem?_map, q1]; rfl
  · rw [List.getElem?_append_right (by simpa using hi)] at e
    obtain ⟨g1, g2⟩ := List.getElem?_eq_some_iff.mp e
    simp at g2
end
end Iw
end

section
set_option Elab.async false
set_option linter.all false
set_option maxRecDepth 100000
/-! from the tree to the interpreter's own terms: expressions -/
namespace Iw
open PySem PySem.Spec PyProof.Rows L2
variable [TheW]
/-- what is known of the place: the scope that runs, as it is written, the slots' names, global literals, functions, built-ins that no global hides, names that stand for lists (dicts) to be changed -/
structure Cs where
  sc : Scope
  raw : Scope
  fl : Bool
  N : List Str
  lits : List (Str × PyData)
  fns : List Str
  free : List Str
  mn : List Str
  dt : Bool
  par : Str → List Str
def ixOf (x : Str) : List Str → Nat → Option Nat
  | [], _ => none
  | y :: ys, i => if x = y then some i else ixOf x ys (i + 1)
theorem ixOf_at {x : Str} : ∀ {N : List Str} {i j : Nat}, ixOf x N i = some j → i ≤ j ∧ N[j - i]? = some x
  | [], _, _, h => by cases h
  | y :: ys, i, j, h => by
    unfold ixOf at h
    split at h
    · rename_i e
      cases h
      subst e
      exact ⟨Nat.le_refl _, by simp⟩
    · obtain ⟨h1, h2⟩ := ixOf_at h
      refine ⟨by omega, ?_⟩
      rw [show j - i = (j - (i + 1)) + 1 by omega]
      simpa using h2
theorem ixOf_get {x : Str} {N : List Str} {j : Nat} (h : ixOf x N 0 = some j) : N[j]? = some x := by simpa using (ixOf_at h).2
def plainName (x : Str) : Bool := !(x == ("__debug__" : Str)) && !(x == ("__classdict__" : Str))
def Cs.vis (c : Cs) (x : Str) : Bool := match c.sc.names.lookup x with
  | some .local => true
  | some .cell => true
  | some .free => true
  | _ => false
/-- a name that may be written -/
def Cs.st (c : Cs) (x : Str) : Bool := match c.raw.names.lookup x with
  | some .local => true
  | some .cell => true
  | _ => false
def Cs.gl (c : Cs) (x : Str) : Bool := decide (c.sc.names.lookup x = some .globalImplicit) && (decide (x ≠ "__name__") && plainName x)
def Cs.blk (c : Cs) (scope : Scope) : Cs := { c with sc := relS scope c.sc, raw := scope, fl := false }
/-- a call by names alone binds -/
def KwB (K : PySem.W.Frag) (fd : FuncData) (ps : List Str) : Prop := ∀ (s : Shared) (kw : List (Str × Value)), K.In s.heap → (∀ y ∈ kw, y.1 ∈ ps) → (kw.map (·.1)).Nodup → (∀ n ∈ ps, (kw.lookup n).isSome = true) → BindsTo s fd ⟨[], kw⟩ (ps.zip (ps.map fun n => (kw.lookup n).getD .none))
structure Good (cf : Str → List PV → Hs → R PV) (X : Cx) (c : Cs) : Prop where
  sc : X.env.scope = c.sc
  nn : X.N = c.N
  nd : c.N.Nodup
  calm : X.calm = true
  gd : X.A.guards = some []
  un : X.A.units + 64 < cLine
  un2 : X.A.units + 70 < cLine
  ww : X.w = TheW.w
  st : ∀ x, c.st x = true → Loc X.env.scope x ∧ (X.fn x = true ∨ X.env.scope.names.lookup x = some .local)
  free : ∀ x, x ∈ c.free → X.mg x = none
  lits : ∀ x d, c.lits.lookup x = some d → ∃ u v, X.mg x = some u ∧ RelV v u ∧ ∀ m H, Rp m H v d
  fns : ∀ x, x ∈ c.fns → ∃ (k : Nat) (f : Addr) (fd : FuncData) (ps : List Str), FnG X.prog X.w X.K X.mg X.base k f fd ps (rs X (cf x)) ∧ Room k X.A ∧ Binds X.K fd ps [] ∧ PySem.W.keepIn X.K (.ref f) = true ∧ X.mg x = some (.ref f) ∧ c.par x = ps ∧ KwB X.K fd ps
theorem Good.blk {cf : Str → List PV → Hs → R PV} {X : Cx} {c : Cs} (g : Good cf X c) (s : Shared) (H : Hp) (scope : Scope) (C : Addr) (cl : List (Str × Addr)) (fp : List Addr) : Good cf (X.blk s H scope (compEnvC scope cl C X.env) fp) (c.blk scope) where
  sc := by
    show relS scope X.env.scope = relS scope c.sc
    rw [g.sc]
  nn := g.nn
  nd := g.nd
  calm := g.calm
  gd := g.gd
  un := g.un
  un2 := g.un2
  ww := g.ww
  st := fun x h => by
    show Loc (relS scope X.env.scope) x ∧ ((scope.names.lookup x == some .cell) = true ∨ (relS scope X.env.scope).names.lookup x = some .local)
    have h : (match scope.names.lookup x with
      | some .local => true
      | some .cell => true
      | _ => false) = true := h
    split at h
    · rename_i e
      have e2 : (relS scope X.env.scope).names.lookup x = some .local := lookup_relS_keep (by decide) e
      exact ⟨.inl e2, .inr e2⟩
    · rename_i e
      have e2 : (relS scope X.env.scope).names.lookup x = some .cell := lookup_relS_keep (by decide) e
      exact ⟨.inr e2, .inl (by rw [e]; rfl)⟩
    · cases h
  free := g.free
  lits := g.lits
  fns := g.fns
theorem Good.nox {cf : Str → List PV → Hs → R PV} {X : Cx} {c : Cs} (g : Good cf X c) : Good cf X.nox c := ⟨g.sc, g.nn, g.nd, g.calm, g.gd, g.un, g.un2, g.ww, g.st, g.free, g.lits, g.fns⟩
/-! ### the forms -/
def isStar : Expr → Bool
  | .Starred _ _ => true
  | _ => false
def trName (c : Cs) (x : Str) : E := match ixOf x c.N 0 with
  | some i => if (c.vis x && plainName x) = true then .loc i else .stk
  | none => match c.lits.lookup x with
    | some d => if c.gl x = true then .lit d else .stk
    | none => .stk
def trConst : Const → E
  | .none => .lit .none
  | .bool b => .lit (.bool b)
  | .int i => .lit (.int i)
  | .str x => .lit (.str x)
  | _ => .stk
def boOf : Operator → Option BO
  | .Add => some .add
  | .Sub => some .sub
  | .Mult => some .mul
  | .FloorDiv => some .fdv
  | .Mod => some .mod
  | .Pow => some .pow
  | _ => none
def coOf : CmpOp → Option CO
  | .Eq => some .eq
  | .NotEq => some .ne
  | .Lt => some .lt
  | .LtE => some .le
  | .Gt => some .gt
  | .GtE => some .ge
  | .In => some .isin
  | .NotIn => some .nin
  | .Is => some .is
  | .IsNot => some .isn
def isSetE : Expr → Bool
  | .Set _ _ _ => true
  | _ => false
def isIfE : Expr → Bool
  | .IfExp _ _ _ _ => true
  | _ => false
def isSlE : Expr → Bool
  | .Slice _ _ _ _ => true
  | _ => false
def isCallE : Expr → Bool
  | .Call (.Name _ _) [] [] _ => true
  | _ => false
abbrev Tr := Cs → Bool → Expr → E
/-- as a test: the forms whose test is not their value's are left out, but for those below -/
def trT (f : Tr) (c : Cs) (e : Expr) : E := if isIfE e = true then .stk else f c false e
def trA (f : Tr) (c : Cs) : List Expr → E
  | [] => .nil
  | e :: es => if isStar e = true then .stk else .cons (f c false e) (trA f c es)
/-- the same, with a word for each of them -/
def trAb (f : Tr) (c : Cs) : List Bool → List Expr → E
  | _, [] => .nil
  | [], e :: es => if isStar e = true then .stk else .cons (f c false e) (trAb f c [] es)
  | b :: bs, e :: es => if isStar e = true then .stk else .cons (f c b e) (trAb f c bs es)
def trB (f : Tr) (c : Cs) (op : BoolOp) : List Expr → E
  | [] => .stk
  | [e] => trT f c e
  | e :: es => match op with
    | .And => .and (trT f c e) (trB f c op es)
    | .Or => .or (trT f c e) (trB f c op es)
def trCmp (f : Tr) (c : Cs) (a : Expr) : List CmpOp → List Expr → E
  | [op], [b] => if isSetE b = true then .stk else match op, b with
    | .Is, .Constant .none _ _ => .isNon (f c false a)
    | .IsNot, .Constant .none _ _ => .notNon (f c false a)
    | op, b => match coOf op with
      | some o => .cmp o (f c false a) (f c false b)
      | none => .stk
  | [op, oq], [b, d] => if (isSetE b || isSetE d) = true then .stk else match coOf op, coOf oq with
    | some o, some q => .chain o q (f c false a) (f c false b) (f c false d)
    | _, _ => .stk
  | _, _ => .stk
def trO (f : Tr) (c : Cs) : Option Expr → E
  | none => .nop
  | some e => .prt (f c false e)
def trSub (f : Tr) (c : Cs) (a : Expr) : Expr → E
  | .Slice lo hi none _ => .sl (f c false a) (trO f c lo) (trO f c hi)
  | .Slice none none (some (.UnaryOp .USub (.Constant (.int 1) _ _) _)) _ => .rev (f c false a)
  | .Slice _ _ (some _) _ => .stk
  | i => .ix (f c false a) (f c false i)
def bi1T (mt : Bool) : List (Str × Bi) := [("all", .all), ("any", .any), ("len", .len), ("int", .int1), ("bool", .bool1), ("str", .str1), ("repr", .repr), ("max", .max1), ("min", .min1), ("sum", .sum), ("tuple", .tuple1), ("list", .list1 mt), ("sorted", .srt1 mt), ("dict", .dict1)]
def bi2T : List (Str × Bi) := [("max", .max2), ("min", .min2)]
def biOf (mt : Bool) (x : Str) : Nat → Option Bi
  | 1 => (bi1T mt).lookup x
  | 2 => bi2T.lookup x
  | _ => none
def tyOf (x : Str) : Option String :=
  if x = "int" then some "int" else if x = "bool" then some "bool" else if x = "str" then some "str" else if x = "tuple" then some "tuple" else if x = "list" then some "list" else if x = "dict" then some "dict" else none
def trIsi (f : Tr) (c : Cs) : List Expr → E
  | [a, .Name y _] => if (!isStar a && (c.gl y && decide (y ∈ c.free))) = true then (match tyOf y with
    | some T => .isi (f c false a) T
    | none => .stk) else .stk
  | _ => .stk
def anyStar : List Expr → Bool
  | [] => false
  | e :: es => isStar e || anyStar es
/-- a call of range alone -/
def isRng (c : Cs) : List Expr → Bool
  | [.Call (.Name y _) [_] [] _] => decide (y = "range" ∧ y ∈ c.free) && c.gl y
  | [.Call (.Name y _) [_, _] [] _] => decide (y = "range" ∧ y ∈ c.free) && c.gl y
  | _ => false
def trRng (f : Tr) (c : Cs) (mt : Bool) (x : Str) : List Expr → E
  | [.Call (.Name _ _) [a] [] _] => if isStar a = true then .stk else .lsR (decide (x = "tuple")) mt (.lit (.int 0)) (f c false a)
  | [.Call (.Name _ _) [a, b] [] _] => if (isStar a || isStar b) = true then .stk else .lsR (decide (x = "tuple")) mt (f c false a) (f c false b)
  | _ => .stk
/-- a call of zip alone, of two -/
def isZp (c : Cs) : List Expr → Bool
  | [.Call (.Name y _) [_, _] [] _] => decide (y = "zip" ∧ y ∈ c.free) && c.gl y
  | _ => false
def trZp (f : Tr) (c : Cs) (mt : Bool) : List Expr → E
  | [.Call (.Name _ _) [a, b] [] _] => if (mt || (isStar a || isStar b)) = true then .stk else .lz (f c false a) (f c false b)
  | _ => .stk
def trMeth (f : Tr) (c : Cs) (o : Expr) (m : Str) (as : List Expr) : E :=
  if isCallE o = true then .stk
  else match as with
    | [] => if m = "pop" then .pop (f c false o) else .stk
    | [a] => if isStar a = true then .stk else if m = "append" then .app (f c false o) (f c false a) else if m = "extend" then .ext (f c false o) (f c false a) else if m = "index" then .idx (f c false o) (f c false a) else if m = "update" then .dupd (f c false o) (f c false a) else if m = "count" then .cnt (f c false o) (f c false a) else if m = "pop" then .dpop (f c false o) (f c false a) else .stk
    | [a, b] => if (isStar a || isStar b) = true then .stk else if m = "get" then .dget (f c false o) (f c false a) (f c false b) else if m = "setdefault" then .dsetd (f c false o) (f c false a) (f c true b) else .stk
    | _ => .stk
def isTupE : Expr → Bool
  | .Tuple _ _ _ => true
  | _ => false
def trIt (f : Tr) (c : Cs) (tg : Expr) : Expr → E
  | .Call (.Name x p) as [] pos =>
    if (c.gl x && (decide (x ∈ c.free) && !anyStar as)) = true ∧ (x = "range" ∨ x = "zip" ∨ x = "enumerate") then
      match as with
      | [a] => if x = "range" then .iR1 (f c false a) else if (decide (x = "enumerate") && isTupE tg) = true then .iEnu (f c false a) else .stk
      | [a, b] => if x = "range" then .iR2 (f c false a) (f c false b) else if (decide (x = "zip") && isTupE tg) = true then .iZip (f c false a) (f c false b) else .stk
      | _ => .stk
    else .iVal (f c false (.Call (.Name x p) as [] pos))
  | .Call (.Attribute o m ap) [] [] cp =>
    if (!isCallE o && (ap.endLine == cp.line)) = true then
      if m = "values" then .iDk 1 (f c false o) else if (decide (m = "items") && isTupE tg) = true then .iDk 2 (f c false o) else .iVal (f c false (.Call (.Attribute o m ap) [] [] cp))
    else .iVal (f c false (.Call (.Attribute o m ap) [] [] cp))
  | e => if isSetE e = true then .stk else .iVal (f c false e)
mutual
def trTg (c : Cs) : Nat → Expr → Option Tg
  | 0, _ => none
  | n + 1, e => match e with
    | .Name x _ => if c.st x = true then (ixOf x c.N 0).map .nm else none
    | .Tuple es _ _ => trTgs c n es
    | _ => none
def trTgs (c : Cs) : Nat → List Expr → Option Tg
  | 0, _ => none
  | n + 1, es => match es with
    | [] => some .nil
    | e :: es => if isStar e = true then none else (trTg c n e).bind fun a => (trTgs c n es).map fun b => .cons a b
end
def ownOf (N : List Str) : List (Str × NameKind) → List (Str × Nat)
  | [] => []
  | (x, k) :: r => match k with
    | .local => (match ixOf x N 0 with
      | some i => (x, i) :: ownOf N r
      | none => ownOf N r)
    | .cell => (match ixOf x N 0 with
      | some i => (x, i) :: ownOf N r
      | none => ownOf N r)
    | _ => ownOf N r
def trIfs (f : Tr) (c : Cs) : List Expr → E
  | [] => .nop
  | [e] => .cnd (trT f c e)
  | _ => .stk
def trComp (f : Tr) (c : Cs) (mt : Bool) (elt tg it : Expr) (ifs : List Expr) (scope : Scope) : E :=
  match trTg (c.blk scope) 12 tg with
  | none => .stk
  | some t => if (blkC c.N c.sc scope (ownOf c.N scope.names) && (tgs t).all fun i => decide (i ∈ (ownOf c.N scope.names).map (·.2))) = true ∧ ifs.length ≤ 1 then
      .comp mt ((ownOf c.N scope.names).map (·.2)) t (trIt f c tg it) (trIfs f (c.blk scope) ifs) (f (c.blk scope) false elt)
    else .stk
/-- what stands for a dict that a loop walks: a marked name, or an item of one -/
def isDk (c : Cs) : Expr → Bool
  | .Name x _ => decide ((⟨x.cps.push 42⟩ : Str) ∈ c.mn)
  | .Subscript (.Name x _) (.Name _ _) _ => decide ((⟨x.cps.push 42⟩ : Str) ∈ c.mn)
  | .Call (.Attribute (.Name x _) _ _) [] [] _ => decide ((⟨x.cps.push 42⟩ : Str) ∈ c.mn)
  | _ => false
/-- the dict itself -/
def dkE : Expr → Expr
  | .Call (.Attribute o _ _) [] [] _ => o
  | e => e
/-- a function that is called with data alone, over an empty store: marked -/
def isPure (c : Cs) (x : Str) : Bool := decide ((⟨x.cps.push 33⟩ : Str) ∈ c.mn)
def trLk (f : Tr) (c : Cs) (it : Expr) (e : E) : E := if isDk c it = true then .lk (f c false (dkE it)) e else e
/-- dict([(k, v) for ..]) -/
def isDcp (c : Cs) : List Expr → Bool
  | [.ListComp (.Tuple [a, b] _ _) [⟨_, it, _, 0⟩] _ _] => c.dt && (!isSetE it && !(isStar a || isStar b))
  | _ => false
def trDcp1 (f : Tr) (c : Cs) (a b tg it : Expr) (ifs : List Expr) (scope : Scope) : E :=
  match trTg (c.blk scope) 12 tg with
  | none => .stk
  | some t => if (blkC c.N c.sc scope (ownOf c.N scope.names) && (tgs t).all fun i => decide (i ∈ (ownOf c.N scope.names).map (·.2))) = true ∧ ifs.length ≤ 1 then
      .dcp ((ownOf c.N scope.names).map (·.2)) t (trIt f c tg it) (trIfs f (c.blk scope) ifs) (f (c.blk scope) false a) (f (c.blk scope) false b)
    else .stk
def trDcp (f : Tr) (c : Cs) : List Expr → E
  | [.ListComp (.Tuple [a, b] _ _) [⟨tg, it, ifs, 0⟩] scope _] => trLk f c it (trDcp1 f c a b tg it ifs scope)
  | _ => .stk
def trCall (f : Tr) (c : Cs) (mt : Bool) (x : Str) (as : List Expr) : E :=
  if (c.gl x && (!anyStar as && !as.isEmpty)) = true then
    if x ∈ c.fns then (if isPure c x = true then .callE x (trA f c as) else .call x (trA f c as))
    else if x ∈ c.free then
      if x = "isinstance" then trIsi f c as
      else if (decide (x = "list" ∨ x = "tuple") && isRng c as) = true then trRng f c mt x as
      else if (decide (x = "list") && isZp c as) = true then trZp f c mt as
      else if (decide (x = "dict") && isDcp c as) = true then trDcp f c as
      else match biOf mt x as.length with
        | some b => .bi b (trA f c as)
        | none => .stk
    else .stk
  else .stk
/-- a call with nothing handed in -/
def trCall0 (c : Cs) (x : Str) : E := if (c.gl x && decide (x ∈ c.fns)) = true then (if isPure c x = true then .callE x .nil else .call x .nil) else .stk
/-- a call by names alone -/
def kwArgs (kws : List Keyword) : List Str := kws.filterMap (·.arg)
def kwOk (c : Cs) (x : Str) (kws : List Keyword) : Bool :=
  c.gl x && (decide (x ∈ c.fns) && ((kws.all fun q => q.arg.isSome) && (decide (kwArgs kws).Nodup && (((c.par x).all fun n => decide (n ∈ kwArgs kws)) && ((kwArgs kws).all fun n => decide (n ∈ c.par x))))))
def trKw (f : Tr) (c : Cs) (x : Str) (kws : List Keyword) : E :=
  if kwOk c x kws = true then .callp x ((c.par x).map fun n => (kwArgs kws).idxOf n) (trA f c (kws.map (·.value))) else .stk
def trStep (f : Tr) : Tr := fun c mt e => match e with
  | .Name x _ => trName c x
  | .Constant v _ _ => trConst v
  | .BinOp a o b _ => match boOf o with
    | some o => .bin o (f c mt a) (f c false b)
    | none => .stk
  | .UnaryOp .Not a _ => .not (trT f c a)
  | .UnaryOp .USub a _ => .neg (f c false a)
  | .BoolOp op vs _ => trB f c op vs
  | .Compare a ops bs _ => trCmp f c a ops bs
  | .IfExp t a b _ => .ite (trT f c t) (f c mt a) (f c mt b)
  | .Tuple es _ _ => .tup (trA f c es)
  | .List es _ => .lst mt (trA f c es)
  | .Dict [some a] [b] _ => .d1 (f c false a) (f c true b)
  | .Dict [] [] _ => if ("{}" : Str) ∈ c.mn then .dnN else .dnew c.dt
  | .Subscript a i _ => trSub f c a i
  | .Call (.Name x _) [] [] _ => trCall0 c x
  | .Call (.Name x _) as [] _ => trCall f c mt x as
  | .Call (.Name x _) [] (kw :: kws) _ => trKw f c x (kw :: kws)
  | .Call (.Attribute o m ap) as [] cp => if (ap.endLine == cp.line) = true then trMeth f c o m as else .stk
  | .ListComp elt [⟨tg, it, ifs, 0⟩] scope _ => trLk f c it (trComp f c mt elt tg it ifs scope)
  | _ => .stk
def trE : Nat → Tr
  | 0 => fun _ _ _ => .stk
  | n + 1 => trStep (trE n)
end Iw
end

section
set_option Elab.async false
set_option linter.all false
set_option maxRecDepth 100000
/-! the translation of an expression is right -/
namespace Iw
open PySem PySem.Spec PyProof.Rows L2
variable [TheW]
section
variable {cf : Str → List PV → Hs → R PV} {k : Nat} {f : Tr}
def OkE (cf : Str → List PV → Hs → R PV) (k : Nat) (f : Tr) : Prop := ∀ c X, Good cf X c → ∀ (W : WX) mt e, PE X e (tE X W (den cf k (f c mt e)).e)
def OkT (cf : Str → List PV → Hs → R PV) (k : Nat) (f : Tr) : Prop := ∀ c X, Good cf X c → ∀ (W : WX) e, PT X e (tT X W (tOf (den cf k (trT f c e)).e))
structure Ok (cf : Str → List PV → Hs → R PV) (k : Nat) (f : Tr) : Prop where
  e : OkE cf k f
  t : OkT cf k f
theorem pe_stk {X : Cx} {W : WX} {e : Expr} : PE X e (tE X W (den cf k .stk).e) := ⟨fun pins s σ H Q I ⟨m, p, h, rs, rh, hs⟩ => hs.elim⟩
theorem pt_stk {X : Cx} {W : WX} {e : Expr} : PT X e (tT X W (tOf (den cf k .stk).e)) := ⟨fun pins s σ H Q I ⟨m, p, h, rs, rh, hs⟩ => hs.elim⟩
theorem pt_stk' {X : Cx} {W : WX} {e : Expr} : PT X e (tT X W (den cf k .stk).t) := ⟨fun pins s σ H Q I ⟨m, p, h, rs, rh, hs⟩ => hs.elim⟩
theorem pa_stk {X : Cx} {W : WX} {es : List Expr} : PA X es (tA X W (den cf k .stk).a) := ⟨fun _ pins s σ H Q I ⟨m, p, h, rs, rh, hs⟩ => hs.elim⟩
theorem pi_stk {X : Cx} {W : WX} {tg e : Expr} : PI X tg e (tI X W (den cf k .stk).i) := ⟨fun pins s σ H Q I ⟨m, p, h, rs, rh, hs⟩ => hs.elim⟩
theorem pw_stk {X : Cx} {W : WX} {e : Expr} : PW X e (tT X W (tOf (den cf k .stk).e)) := ⟨fun w pins s σ H Q I ⟨m, p, h, rs, rh, hs⟩ => hs.elim⟩
variable {X : Cx} {c : Cs} {W : WX}
theorem plain_of {x : Str} (h : plainName x = true) : (x == ("__debug__" : Str)) = false ∧ (x == ("__classdict__" : Str)) = false := by
  unfold plainName at h
  simpa using h
theorem vis_of (g : Good cf X c) {x : Str} (h : c.vis x = true) : Vis X.env.scope x := by
  unfold Cs.vis at h
  unfold Vis
  rw [g.sc]
  split at h
  · rename_i e; exact .inl e
  · rename_i e; exact .inr (.inl e)
  · rename_i e; exact .inr (.inr e)
  · cases h
structure GlOk (X : Cx) (x : Str) : Prop where
  gl : Gl X x
  nn : x ≠ "__name__"
  db : (x == ("__debug__" : Str)) = false
theorem gl_of (g : Good cf X c) {x : Str} (h : c.gl x = true) : GlOk X x := by
  unfold Cs.gl at h
  simp only [Bool.and_eq_true, decide_eq_true_eq] at h
  exact ⟨by show X.env.scope.names.lookup x = _; rw [g.sc]; exact h.1, h.2.1, (plain_of h.2.2).1⟩
theorem tr_name (g : Good cf X c) (x : Str) (pos : Pos) : PE X (.Name x pos) (tE X W (den cf k (trName c x)).e) := by
  unfold trName
  split
  · rename_i i e
    split
    · rename_i h
      simp only [Bool.and_eq_true] at h
      obtain ⟨h1, h2⟩ := plain_of h.2
      exact e_loc cf k (pe_var (by rw [g.nn]; exact ixOf_get e) (vis_of g h.1) h1 h2)
    · exact pe_stk
  · split
    · rename_i d e
      split
      · rename_i h
        obtain ⟨u, v, h1, h2, h3⟩ := g.lits x d e
        have q := gl_of g h
        exact e_lit cf k (pe_glob q.gl h1 h2 q.db) h3
      · exact pe_stk
    · exact pe_stk
theorem tr_const (v : Const) (j : Nat) (pos : Pos) : PE X (.Constant v j pos) (tE X W (den cf k (trConst v)).e) := by
  cases v with
  | none => exact e_lit cf k pe_non fun _ _ => .non
  | bool b => exact e_lit cf k pe_bl fun _ _ => .bl b
  | int i => exact e_lit cf k pe_int fun _ _ => .int i
  | str x => exact e_lit cf k pe_str fun _ _ => .str x
  | _ => exact pe_stk
theorem bo_of {o : Operator} {b : BO} (h : boOf o = some b) : b.op = o := by cases o <;> cases h <;> rfl
theorem co_of {o : CmpOp} {b : CO} (h : coOf o = some b) : b.op = o := by cases o <;> cases h <;> rfl
theorem star_false {e : Expr} {es : List Expr} {env : Env} (h : ¬ isStar e = true) : starEach (e :: es) env = (false, eval e env) :: starEach es env := by
  cases e <;> first | rfl | exact absurd rfl h
theorem tr_A (ok : Ok cf k f) (g : Good cf X c) : ∀ es : List Expr, PA X es (tA X W (den cf k (trA f c es)).a)
  | [] => a_nil cf k
  | e :: es => by
    unfold trA
    split
    · exact pa_stk
    · rename_i h
      exact a_cons (ok.e c X g W false e) (tr_A ok g es) (star_false h)
theorem tr_Ab (ok : Ok cf k f) (g : Good cf X c) : ∀ (bs : List Bool) (es : List Expr), PA X es (tA X W (den cf k (trAb f c bs es)).a)
  | [], [] => a_nil cf k
  | _ :: _, [] => a_nil cf k
  | [], e :: es => by
    unfold trAb
    split
    · exact pa_stk
    · rename_i h
      exact a_cons (ok.e c X g W false e) (tr_Ab ok g [] es) (star_false h)
  | b :: bs, e :: es => by
    unfold trAb
    split
    · exact pa_stk
    · rename_i h
      exact a_cons (ok.e c X g W b e) (tr_Ab ok g bs es) (star_false h)
theorem back_plain {pos : Pos} {env : Env} : ∀ {es : List Expr}, anyStar es = false → (backTo pos (starEach es env)).any (·.1) = false
  | [], _ => rfl
  | e :: es, h => by
    have h : (isStar e || anyStar es) = false := h
    rw [Bool.or_eq_false_iff] at h
    rw [star_false (by simp [h.1])]
    show (false || (backTo pos (starEach es env)).any (·.1)) = false
    rw [back_plain h.2]; rfl
theorem behind_no {op : CmpOp} {b : Expr} (h : ¬ isSetE b = true) : behindInMarks op b = false := by
  cases b <;> first | rfl | exact absurd rfl h
/-- a test's other forms are their values' -/
theorem tr_T_of (h : ∀ e, ∀ mt, isIfE e = false → PT X e (tT X W (tOf (den cf k (f c mt e)).e))) (e : Expr) : PT X e (tT X W (tOf (den cf k (trT f c e)).e)) := by
  unfold trT
  split
  · exact pt_stk
  · rename_i q
    exact h e false (by simpa using q)
theorem tr_T_e (ok : Ok cf k f) (g : Good cf X c) (e : Expr) : PE X e (tE X W (den cf k (trT f c e)).e) := by
  unfold trT
  split
  · exact pe_stk
  · exact ok.e c X g W false e
theorem tr_B (ok : Ok cf k f) (g : Good cf X c) (op : BoolOp) (pos : Pos) : ∀ es : List Expr, PE X (.BoolOp op es pos) (tE X W (den cf k (trB f c op es)).e) ∧ PW X (.BoolOp op es pos) (tT X W (tOf (den cf k (trB f c op es)).e))
  | [] => ⟨pe_stk, pw_stk⟩
  | [e] => ⟨e_one (tr_T_e ok g e), w_one (ok.t c X g W e)⟩
  | e :: e2 :: es => by
    obtain ⟨h1, h2⟩ := tr_B ok g op pos (e2 :: es)
    cases op with
    | And => exact ⟨e_and (tr_T_e ok g e) h1, w_and (ok.t c X g W e) h2⟩
    | Or => exact ⟨e_or (tr_T_e ok g e) h1, w_or (ok.t c X g W e) h2⟩
theorem tr_cmp (ok : Ok cf k f) (g : Good cf X c) (a : Expr) (ops : List CmpOp) (bs : List Expr) (pos : Pos) : PE X (.Compare a ops bs pos) (tE X W (den cf k (trCmp f c a ops bs)).e) ∧ PT X (.Compare a ops bs pos) (tT X W (tOf (den cf k (trCmp f c a ops bs)).e)) := by
  have ha := ok.e c X g W false a
  unfold trCmp
  split
  · rename_i op b
    split
    · exact ⟨pe_stk, pt_stk⟩
    · rename_i hb
      split
      · exact ⟨e_isNon ha, t_isNon ha⟩
      · exact ⟨e_notNon ha, t_notNon ha⟩
      · rename_i op b _ _
        split
        · rename_i o e
          obtain rfl := co_of e
          exact ⟨e_cmp g.un g.ww o ha (ok.e c X g W false _) (behind_no hb), t_cmp g.un g.ww o ha (ok.e c X g W false _) (behind_no hb)⟩
        · exact ⟨pe_stk, pt_stk⟩
  · rename_i op oq b d
    split
    · exact ⟨pe_stk, pt_stk⟩
    · rename_i hb
      split
      · rename_i o q e1 e2
        obtain rfl := co_of e1
        obtain rfl := co_of e2
        have hl : lastMarks [o.op, q.op] [b, d] = false := by
          show behindInMarks q.op d = false
          exact behind_no fun z => hb (by rw [z]; simp)
        exact ⟨e_chain g.un g.ww o q ha (ok.e c X g W false _) (ok.e c X g W false _) hl, t_chain g.un g.ww o q ha (ok.e c X g W false _) (ok.e c X g W false _) hl⟩
      · exact ⟨pe_stk, pt_stk⟩
  · exact ⟨pe_stk, pt_stk⟩
theorem tr_O (ok : Ok cf k f) (g : Good cf X c) (e : Option Expr) : PO X e (tO X W (den cf k (trO f c e)).o) := by
  cases e with
  | none => exact o_nop cf k
  | some e =>
    exact o_some (ok.e c X g W false e)
theorem sl_false {e : Expr} (h : isSlE e = false) : PlainIx e := by
  cases e <;> first | (intro o i; rfl) | cases h
theorem tr_sub (ok : Ok cf k f) (g : Good cf X c) (a i : Expr) (pos : Pos) : PE X (.Subscript a i pos) (tE X W (den cf k (trSub f c a i)).e) := by
  unfold trSub
  split
  · exact e_sl (ok.e c X g W false a) (tr_O ok g _) (tr_O ok g _)
  · exact e_rev (ok.e c X g W false a)
  · exact pe_stk
  · rename_i h1 h1r h2
    refine e_ix g.un g.ww (ok.e c X g W false a) (ok.e c X g W false i) (sl_false ?_)
    cases i <;> first | rfl | skip
    rename_i lo hi st p
    cases st with
    | none => exact (h1 lo hi p rfl).elim
    | some x => exact (h2 lo hi x p rfl).elim
theorem ty_boot {x : Str} {T : String} (h : tyOf x = some T) : bootBuiltins x = some (.type T) := by
  unfold tyOf at h
  repeat' split at h
  all_goals first
    | (cases h; rename_i e; subst e; decide +kernel)
    | (cases h; subst_vars; decide +kernel)
    | cases h
theorem bi_boot {mt : Bool} {x : Str} {n : Nat} {b : Bi} (h : biOf mt x n = some b) : (∃ id, b.val = .builtin id ∧ bootBuiltins x = some (.builtin id)) ∨ ∃ id, b.val = .type id ∧ bootBuiltins x = some (.type id) := by
  have all : ∀ p ∈ bi1T mt ++ bi2T, (∃ id, p.2.val = .builtin id ∧ bootBuiltins p.1 = some (.builtin id)) ∨ ∃ id, p.2.val = .type id ∧ bootBuiltins p.1 = some (.type id) := by
    intro p hp
    simp only [bi1T, bi2T, List.cons_append, List.nil_append, List.mem_cons, List.not_mem_nil, or_false] at hp
    rcases hp with rfl | rfl | rfl | rfl | rfl | rfl | rfl | rfl | rfl | rfl | rfl | rfl | rfl | rfl | rfl | rfl <;> first
      | exact .inl ⟨_, rfl, by decide +kernel⟩
      | exact .inr ⟨_, rfl, by decide +kernel⟩
      | exact .inr ⟨_, rfl, (by decide +kernel : bootBuiltins "list" = some (.type "list"))⟩
      | exact .inl ⟨_, rfl, (by decide +kernel : bootBuiltins "sorted" = some (.builtin "sorted"))⟩
  have hm : (x, b) ∈ bi1T mt ++ bi2T := by
    unfold biOf at h
    split at h
    · exact List.mem_append_left _ (PySem.mem_of_lookup h)
    · exact List.mem_append_right _ (PySem.mem_of_lookup h)
    · cases h
  exact all _ hm
theorem any_cons {e : Expr} {es : List Expr} (h : anyStar (e :: es) = false) : ¬ isStar e = true ∧ anyStar es = false := by
  have h : (isStar e || anyStar es) = false := h
  rw [Bool.or_eq_false_iff] at h
  exact ⟨by simp [h.1], h.2⟩
theorem tr_isi (ok : Ok cf k f) (g : Good cf X c) {x : Str} (hx : x = "isinstance") (gx : GlOk X x) (fx : x ∈ c.free) (as : List Expr) (p pos : Pos) : PE X (.Call (.Name x p) as [] pos) (tE X W (den cf k (trIsi f c as)).e) := by
  unfold trIsi
  split
  · rename_i a y p2
    split
    · rename_i h
      simp only [Bool.and_eq_true, Bool.not_eq_true', decide_eq_true_eq] at h
      obtain ⟨h1, h2, h3⟩ := h
      split
      · rename_i T e
        have gy := gl_of g h2
        exact e_isi gx.gl (g.free x fx) (by rw [hx]; decide +kernel) gx.nn gx.db gy.gl (g.free y h3) (ty_boot e) gy.nn gy.db (ok.e c X g W false a) (star_false (by simp [h1]))
      · exact pe_stk
    · exact pe_stk
  · exact pe_stk
theorem tr_rng (ok : Ok cf k f) (g : Good cf X c) (mt : Bool) {x : Str} (hx : x = "list" ∨ x = "tuple") (gx : GlOk X x) (fx : x ∈ c.free) (as : List Expr) (hr : isRng c as = true) (p pos : Pos) : PE X (.Call (.Name x p) as [] pos) (tE X W (den cf k (trRng f c mt x as)).e) := by
  have ex : x = if decide (x = "tuple") = true then "tuple" else "list" := by
    rcases hx with rfl | rfl <;> rfl
  unfold isRng at hr
  split at hr
  · rename_i y p2 a pos2
    simp only [Bool.and_eq_true, decide_eq_true_eq] at hr
    obtain ⟨⟨rfl, hy⟩, hg⟩ := hr
    have gy := gl_of g hg
    show PE X _ (tE X W (den cf k (if isStar a = true then .stk else .lsR (decide (x = "tuple")) mt (.lit (.int 0)) (f c false a))).e)
    split
    · exact pe_stk
    · rename_i hs
      exact e_lsR1 cf k _ mt ex g.calm gx.gl (g.free x fx) gy.gl (g.free _ hy) (ok.e c X g W false a) (star_false (es := []) (env := X.env) hs)
  · rename_i y p2 a b pos2
    simp only [Bool.and_eq_true, decide_eq_true_eq] at hr
    obtain ⟨⟨rfl, hy⟩, hg⟩ := hr
    have gy := gl_of g hg
    show PE X _ (tE X W (den cf k (if (isStar a || isStar b) = true then .stk else .lsR (decide (x = "tuple")) mt (f c false a) (f c false b))).e)
    split
    · exact pe_stk
    · rename_i hs
      have hs : (isStar a || isStar b) = false := by simpa using hs
      rw [Bool.or_eq_false_iff] at hs
      exact e_lsR2 _ mt ex g.calm gx.gl (g.free x fx) gy.gl (g.free _ hy) (ok.e c X g W false a) (ok.e c X g W false b) (star_false (es := [b]) (env := X.env) (by simp [hs.1])) (star_false (es := []) (env := X.env) (by simp [hs.2])) (back_plain (by simp [anyStar, hs.2]))
  · cases hr
theorem tr_zp (ok : Ok cf k f) (g : Good cf X c) (mt : Bool) (gx : GlOk X "list") (fx : ("list" : Str) ∈ c.free) (as : List Expr) (hr : isZp c as = true) (p pos : Pos) : PE X (.Call (.Name "list" p) as [] pos) (tE X W (den cf k (trZp f c mt as)).e) := by
  unfold isZp at hr
  split at hr
  · rename_i y p2 a b pos2
    simp only [Bool.and_eq_true, decide_eq_true_eq] at hr
    obtain ⟨⟨rfl, hy⟩, hg⟩ := hr
    have gy := gl_of g hg
    show PE X _ (tE X W (den cf k (if (mt || (isStar a || isStar b)) = true then .stk else .lz (f c false a) (f c false b))).e)
    split
    · exact pe_stk
    · rename_i hs
      have hs : (mt || (isStar a || isStar b)) = false := by simpa using hs
      rw [Bool.or_eq_false_iff, Bool.or_eq_false_iff] at hs
      exact e_lz g.calm gx.gl (g.free _ fx) gy.gl (g.free _ hy) (ok.e c X g W false a) (ok.e c X g W false b) (star_false (es := [b]) (env := X.env) (by simp [hs.2.1])) (star_false (es := []) (env := X.env) (by simp [hs.2.2])) (back_plain (by simp [anyStar, hs.2.2]))
  · cases hr
theorem base_of {o : Expr} {m : Str} {env : Env} {w : Sem Value} (h : ¬ isCallE o = true) : attributeBase o m env w = w := by
  cases o with
  | Call f as ks p =>
    cases f with
    | Name x q =>
      cases as with
      | cons _ _ => rfl
      | nil =>
        cases ks with
        | cons _ _ => rfl
        | nil => exact absurd rfl h
    | _ => rfl
  | _ => rfl
theorem tr_meth (ok : Ok cf k f) (g : Good cf X c) (o : Expr) (m : Str) (as : List Expr) (ap cp : Pos) (hline : (ap.endLine == cp.line) = true) : PE X (.Call (.Attribute o m ap) as [] cp) (tE X W (den cf k (trMeth f c o m as)).e) := by
  unfold trMeth
  split
  · exact pe_stk
  · rename_i ho
    have hb : ∀ m, attributeBase o m X.env (eval o X.env) = eval o X.env := fun m => base_of ho
    split
    · split
      · rename_i e; subst e
        exact e_pop (ok.e c X g W false o) (hb _) hline
      · exact pe_stk
    · rename_i a
      split
      · exact pe_stk
      · rename_i hs
        have h1 := star_false (es := []) (env := X.env) hs
        have few : ((backTo cp (starEach [a] X.env)).all (fun x => !x.1) && (backToKw cp (keywordEach [] X.env)).all (fun x => x.1.isSome)
            && decide (([a] : List Expr).length + ([] : List Keyword).length + (if ([] : List Keyword).isEmpty then 0 else 1) < 30)) = true := by
          rw [h1]; rfl
        split
        · rename_i e; subst e
          exact e_app k (ok.e c X g W false o) (ok.e c X g W false a) (hb _) few hline h1
        · split
          · rename_i e; subst e
            exact e_ext k (ok.e c X g W false o) (ok.e c X g W false a) (hb _) few hline h1
          · split
            · rename_i e; subst e
              exact e_idx g.un2 (ok.e c X g W false o) (ok.e c X g W false a) (hb _) few hline h1
            · split
              · rename_i e; subst e
                exact e_dupd g.calm g.un g.ww (ok.e c X g W false o) (ok.e c X g W false a) ⟨hb _, few, hline, by rw [h1]; rfl⟩
              · split
                · rename_i e; subst e
                  exact e_cnt g.un2 (ok.e c X g W false o) (ok.e c X g W false a) (hb _) few hline h1
                · split
                  · rename_i e; subst e
                    exact e_dpop (ok.e c X g W false o) (ok.e c X g W false a) ⟨hb _, few, hline, by rw [h1]; rfl⟩
                  · exact pe_stk
    · rename_i a b
      split
      · exact pe_stk
      · rename_i hs
        have hs : (isStar a || isStar b) = false := by simpa using hs
        rw [Bool.or_eq_false_iff] at hs
        have h1 := star_false (e := b) (es := []) (env := X.env) (by simp [hs.2])
        have h2 := star_false (e := a) (es := [b]) (env := X.env) (by simp [hs.1])
        split
        · rename_i e; subst e
          exact e_dget g.un g.ww (ok.e c X g W false o) (ok.e c X g W false a) (ok.e c X g W false b) ⟨hb _, by rw [h2, h1]; rfl, hline, by rw [h2, h1]; rfl⟩
        · split
          · rename_i e; subst e
            exact e_dset k g.un g.ww (ok.e c X g W false o) (ok.e c X g W false a) (ok.e c X g W true b) ⟨hb _, by rw [h2, h1]; rfl, hline, by rw [h2, h1]; rfl⟩
          · exact pe_stk
    · exact pe_stk
theorem tr_it (ok : Ok cf k f) (g : Good cf X c) (tg e : Expr) : PI X tg e (tI X W (den cf k (trIt f c tg e)).i) := by
  unfold trIt
  split
  · rename_i x p as pos
    split
    · rename_i h
      obtain ⟨h0, h4⟩ := h
      simp only [Bool.and_eq_true, Bool.not_eq_true', decide_eq_true_eq] at h0
      obtain ⟨h1, h2, h3⟩ := h0
      have gx := gl_of g h1
      have hm := g.free x h2
      split
      · rename_i a
        obtain ⟨q1, _⟩ := any_cons h3
        have hs := star_false (es := []) (env := X.env) q1
        split
        · rename_i e; subst e
          exact i_r1 gx.gl hm (ok.e c X g W false a) hs
        · split
          · rename_i e
            simp only [Bool.and_eq_true, decide_eq_true_eq] at e
            obtain ⟨e1, e2⟩ := e
            subst e1
            cases tg with
            | Tuple elts kk tpos => exact i_enu gx.gl hm (ok.e c X g W false a) hs
            | _ => cases e2
          · exact pi_stk
      · rename_i a b
        obtain ⟨q1, q2⟩ := any_cons h3
        obtain ⟨q3, _⟩ := any_cons q2
        have hs2 := star_false (es := []) (env := X.env) q3
        have hs := star_false (es := [b]) (env := X.env) q1
        split
        · rename_i e; subst e
          exact i_r2 gx.gl hm (ok.e c X g W false a) (ok.e c X g W false b) (by rw [hs, hs2]; rfl) hs2
        · split
          · rename_i e
            simp only [Bool.and_eq_true, decide_eq_true_eq] at e
            obtain ⟨e1, e2⟩ := e
            subst e1
            cases tg with
            | Tuple elts kk tpos => exact i_zip gx.gl hm (ok.e c X g W false a) (ok.e c X g W false b) hs hs2 (back_plain (by simp [anyStar, q3]))
            | _ => cases e2
          · exact pi_stk
      · exact pi_stk
    · exact i_val g.ww (ok.e c X g W false _)
  · rename_i o m ap cp
    split
    · rename_i h
      simp only [Bool.and_eq_true, Bool.not_eq_true'] at h
      have hb : ∀ m, attributeBase o m X.env (eval o X.env) = eval o X.env := fun m => base_of (by simp [h.1])
      split
      · rename_i e; subst e
        exact i_dk1 g.ww (ok.e c X g W false o) (hb _) h.2
      · split
        · rename_i e
          simp only [Bool.and_eq_true, decide_eq_true_eq] at e
          obtain ⟨e1, e2⟩ := e
          subst e1
          cases tg with
          | Tuple elts kk tpos => exact i_dk2 g.ww (ok.e c X g W false o) (hb _) h.2
          | _ => cases e2
        · exact i_val g.ww (ok.e c X g W false _)
    · exact i_val g.ww (ok.e c X g W false _)
  · split
    · exact pi_stk
    · exact i_val g.ww (ok.e c X g W false _)
theorem set_false {e : Expr} {env : Env} (h : isSetE e = false) (x : Value) : foldedSetIterable e env x = pure x := by
  cases e <;> first | rfl | cases h
theorem asg_pr {a b : Tg} {x : PyData} {k : Nat} {p p' : Sg} (e : asg (.cons a b) (.pr x k) p = some p') : ∃ b', b = .cons b' .nil ∧ (asg a (.d x) p).bind (asg b' (.ref k)) = some p' := by
  cases b with
  | nm _ => cases e
  | nil => cases e
  | cons b1 b2 =>
    cases b2 with
    | nm _ => cases e
    | cons _ _ => cases e
    | nil => exact ⟨b1, rfl, e⟩
theorem asg_nil {v : PV} {p p' : Sg} (e : asg .nil v p = some p') : v = .d (.tuple []) ∧ p = p' := by
  cases v with
  | d x =>
    cases x with
    | tuple ds =>
      cases ds with
      | nil => cases e; exact ⟨rfl, rfl⟩
      | cons _ _ => cases e
    | _ => cases e
  | _ => cases e
mutual
theorem tr_tg (g : Good cf X c) : ∀ (n : Nat) (e : Expr) (t : Tg), trTg c n e = some t → PG X e (tG X t)
  | 0, _, _, h => by simp [trTg] at h
  | n + 1, e, t, h => by
    unfold trTg at h
    split at h
    · rename_i x p
      split at h
      · rename_i hs
        obtain ⟨i, e1, rfl⟩ := Option.map_eq_some_iff.mp h
        obtain ⟨q1, q2⟩ := g.st x hs
        exact g_nm (by rw [g.nn]; exact g.nd) (by rw [g.nn]; exact ixOf_get e1) q1 q2
      · cases h
    · rename_i es kk p
      obtain ⟨q1, q2, q3, q4, _⟩ := tr_tgs g n es t h
      exact g_tup g.calm q1 q2 q3 q4
    · cases h
theorem tr_tgs (g : Good cf X c) : ∀ (n : Nat) (es : List Expr) (t : Tg), trTgs c n es = some t → PGs X es (tGs X t) ∧ Splits t es.length ∧ (assignEach es X.env).length = es.length ∧ (assignEach es X.env).findIdx? (·.1) = none ∧ t.len = es.length
  | 0, _, _, h => by simp [trTgs] at h
  | n + 1, es, t, h => by
    unfold trTgs at h
    split at h
    · cases h
      refine ⟨g_nil, fun v p p' e => ?_, rfl, rfl, rfl⟩
      obtain ⟨rfl, rfl⟩ := asg_nil e
      exact ⟨[], rfl, rfl, .inl ⟨[], rfl, rfl⟩⟩
    · rename_i e es
      split at h
      · cases h
      · rename_i hs
        obtain ⟨a, e1, e2⟩ := Option.bind_eq_some_iff.mp h
        obtain ⟨b, e3, rfl⟩ := Option.map_eq_some_iff.mp e2
        obtain ⟨q1, q2, q3, q4, q5⟩ := tr_tgs g n es b e3
        have hae : assignEach (e :: es) X.env = (false, assign e X.env) :: assignEach es X.env := by
          cases e <;> first | rfl | exact absurd rfl hs
        refine ⟨g_cons (tr_tg g n e a e1) q1 (by rw [hae]; rfl), fun v p p' he => ?_, by rw [hae]; simp [q3], by rw [hae, List.findIdx?_cons, q4]; rfl, by show b.len + 1 = _; rw [q5]; rfl⟩
        cases v with
        | d x =>
          cases x with
          | tuple ds =>
            cases ds with
            | nil => cases he
            | cons d ds =>
              obtain ⟨p1, e5, e6⟩ := Option.bind_eq_some_iff.mp (show (asg a (.d d) p).bind (asg b (.d (.tuple ds))) = some p' from he)
              obtain ⟨qs, e7, e8, e9⟩ := q2 _ _ _ e6
              rcases e9 with ⟨ds2, e10, rfl⟩ | ⟨x, k, e10, _⟩
              · cases e10
                exact ⟨.d d :: ds.map .d, by simp [← e7], by show (asg a (.d d) p).bind (asgs b (ds.map .d)) = _; rw [e5]; exact e8, .inl ⟨_, rfl, rfl⟩⟩
              · cases e10
          | _ => cases he
        | pr x k =>
          obtain ⟨b', rfl, he⟩ := asg_pr he
          obtain ⟨p1, e5, e6⟩ := Option.bind_eq_some_iff.mp he
          refine ⟨[.d x, .ref k], by show 2 = es.length + 1; rw [← q5]; rfl, ?_, .inr ⟨x, k, rfl, rfl⟩⟩
          show (asg a (.d x) p).bind (asgs (.cons b' .nil) [.ref k]) = _
          rw [e5]
          show (asg b' (.ref k) p1).bind (asgs .nil []) = _
          rw [e6]
          rfl
        | _ => cases he
end
theorem tr_ifs (ok : Ok cf k f) (g : Good cf X c) (ifs : List Expr) (h : ifs.length ≤ 1) : PTs X ifs (tT X W (den cf k (trIfs f c ifs)).t) := by
  match ifs, h with
  | [], _ => exact ⟨fun pins s σ H Q I ⟨m, p, hh, rs, rh, hs⟩ => pts_nil.run pins s σ H Q I (now rh hs rfl)⟩
  | [e], _ => exact pts_one (ok.t c X g W e)
theorem it_set (tg e : Expr) (h : isSetE e = true) : trIt f c tg e = .stk := by
  cases e <;> first | (cases h; done) | (simp [trIt, isSetE])
theorem comp_stk {X : Cx} {mt : Bool} {own : List Nat} {t : Tg} {a b : E} {e : Expr} : PE X e (tE X W (den cf k (.comp mt own t .stk a b)).e) := ⟨fun pins s σ H Q I ⟨m, p, h, rs, rh, hs⟩ => hs.elim⟩
theorem tr_comp (ok : Ok cf k f) (g : Good cf X c) (mt : Bool) (elt tg it : Expr) (ifs : List Expr) (scope : Scope) (pos : Pos) : PE X (.ListComp elt [⟨tg, it, ifs, 0⟩] scope pos) (tE X W (den cf k (trComp f c mt elt tg it ifs scope)).e) := by
  unfold trComp
  split
  · exact pe_stk
  · rename_i t et
    split
    · rename_i h
      obtain ⟨h, hl⟩ := h
      simp only [Bool.and_eq_true, List.all_eq_true, decide_eq_true_eq] at h
      by_cases hz : isSetE it = true
      · rw [it_set tg it hz]
        exact comp_stk
      · refine (pe_lc (te := tE X Wf (den cf k (f (c.blk scope) false elt)).e) (tt := tT X Wf (den cf k (trIfs f (c.blk scope) ifs)).t) (g := tG X t) g.calm (by rw [g.nn]; exact g.nd) (tr_it (W := W) ok g tg it) (blkOk_by (by rw [g.nn, g.sc]; exact h.1)) (fun s H C cl fp => tr_tg (g.blk s H scope C cl fp) _ _ _ et) (fun s H C cl fp => tr_ifs ok (g.blk s H scope C cl fp) ifs hl) (fun s H C cl fp => ok.e _ _ (g.blk s H scope C cl fp) Wf false elt) (set_false (by simpa using hz))).imp fun σ H Q h' => ?_
        exact comp_read (W' := Wf) h.2 h'
    · exact pe_stk
theorem t_plain' {X : Cx} {a : Expr} {E1 : E} (ha : PE X a (tE X W (den cf k E1).e)) (he : ∀ whole, isTrue a X.env whole = (do let v ← whole; standAt a.pos; holding [v] (truthy v))) : PT X a (tT X W (tOf (den cf k E1).e)) := t_plain ha he
theorem tr_lk {e : Expr} (it : Expr) {A : E} (h : PE X e (tE X W (den cf k A).e)) : PE X e (tE X W (den cf k (trLk f c it A)).e) := by
  unfold trLk
  split
  · exact e_lk (D := (den cf k (f c false (dkE it))).e) h
  · exact h
theorem tr_dcp (ok : Ok cf k f) (g : Good cf X c) {x : Str} (hx : x = "dict") (gx : GlOk X x) (fx : x ∈ c.free) (as : List Expr) (hd : isDcp c as = true) (p pos : Pos) : PE X (.Call (.Name x p) as [] pos) (tE X W (den cf k (trDcp f c as)).e) := by
  unfold isDcp at hd
  split at hd
  · rename_i a b k2 p2 tg it ifs scope pos2
    simp only [Bool.and_eq_true, Bool.not_eq_true', Bool.or_eq_false_iff] at hd
    obtain ⟨_, hz, hs1, hs2⟩ := hd
    refine tr_lk it ?_
    show PE X _ (tE X W (den cf k (trDcp1 f c a b tg it ifs scope)).e)
    unfold trDcp1
    split
    · exact pe_stk
    · rename_i t et
      split
      · rename_i h
        obtain ⟨h, hl⟩ := h
        simp only [Bool.and_eq_true, List.all_eq_true, decide_eq_true_eq] at h
        have na : starEach [(.ListComp (.Tuple [a, b] k2 p2) [⟨tg, it, ifs, 0⟩] scope pos2 : Expr)] X.env = (false, eval (.ListComp (.Tuple [a, b] k2 p2) [⟨tg, it, ifs, 0⟩] scope pos2) X.env) :: starEach [] X.env := star_false (es := []) (env := X.env) (by simp [isStar])
        refine e_dcp (W' := Wf) hx g.calm g.un gx.gl (g.free x fx) h.2 ?_ na
        refine pe_lc (te := tE X Wf (pairE (den cf k (f (c.blk scope) false a)).e (den cf k (f (c.blk scope) false b)).e)) (tt := tT X Wf (den cf k (trIfs f (c.blk scope) ifs)).t) (g := tG X t) g.calm (by rw [g.nn]; exact g.nd) (tr_it (W := W) ok g tg it) (blkOk_by (by rw [g.nn, g.sc]; exact h.1)) (fun s H C cl fp => tr_tg (g.blk s H scope C cl fp) _ _ _ et) (fun s H C cl fp => tr_ifs ok (g.blk s H scope C cl fp) ifs hl) (fun s H C cl fp => ?_) (set_false hz)
        have gb := g.blk s H scope C cl fp
        exact e_pair (ok.e _ _ gb Wf false a) (ok.e _ _ gb Wf false b) (star_false (es := [b]) (by simp [hs1])) (star_false (es := []) (by simp [hs2]))
      · exact pe_stk
  · cases hd
theorem tr_call (ok : Ok cf k f) (g : Good cf X c) (mt : Bool) (x : Str) (as : List Expr) (p pos : Pos) : PE X (.Call (.Name x p) as [] pos) (tE X W (den cf k (trCall f c mt x as)).e) := by
  unfold trCall
  split
  · rename_i h
    simp only [Bool.and_eq_true, Bool.not_eq_true'] at h
    obtain ⟨h1, h2, h3⟩ := h
    have gx := gl_of g h1
    cases as with
    | nil => cases h3
    | cons e es =>
      obtain ⟨h4, h5⟩ := any_cons h2
      have he := star_false (es := es) (env := X.env) h4
      have hp := back_plain (pos := pos) (env := X.env) h5
      have ha : PA X (e :: es) (tA X W (den cf k (trA f c (e :: es))).a) := tr_A ok g (e :: es)
      split
      · rename_i hf
        obtain ⟨kk, ad, fd, ps, F, hr, hb, hk, hm, _⟩ := g.fns x hf
        split
        · exact e_call (cf := fun x => callEv (cf x)) (call_E (call_G F hr g.gd hb)) gx.gl hm hk ha gx.db he hp
        · exact e_call (call_G F hr g.gd hb) gx.gl hm hk ha gx.db he hp
      · split
        · rename_i hf
          split
          · rename_i hx
            exact tr_isi ok g hx gx hf _ p pos
          · split
            · rename_i hr
              simp only [Bool.and_eq_true, decide_eq_true_eq] at hr
              exact tr_rng ok g mt hr.1 gx hf _ hr.2 p pos
            · split
              · rename_i hr
                simp only [Bool.and_eq_true, decide_eq_true_eq] at hr
                obtain ⟨rfl, hr⟩ := hr
                exact tr_zp ok g mt gx hf _ hr p pos
              · split
                · rename_i hr
                  simp only [Bool.and_eq_true, decide_eq_true_eq] at hr
                  exact tr_dcp ok g hr.1 gx hf _ hr.2 p pos
                · split
                  · rename_i b e1
                    rcases bi_boot e1 with ⟨id, i1, i2⟩ | ⟨id, i1, i2⟩
                    · exact e_bif b i1 g.calm g.gd g.un g.ww gx.gl (g.free x hf) i2 ha gx.nn gx.db he hp
                    · exact e_bit b i1 g.calm g.gd g.un g.ww gx.gl (g.free x hf) i2 ha gx.nn gx.db he hp
                  · exact pe_stk
        · exact pe_stk
  · exact pe_stk
theorem _root_.L2.PK.imp {X : Cx} {kws : List Keyword} {t t' : TA} (h : PK X kws t) (i : ∀ σ H Q, t' σ H Q → t σ H Q) : PK X kws t' := ⟨fun pos pins s σ H Q I q => h.run pos pins s σ H Q I (i _ _ _ q)⟩
theorem tr_K (ok : Ok cf k f) (g : Good cf X c) : ∀ kws : List Keyword, PK X kws (tA X W (den cf k (trA f c (kws.map (·.value)))).a)
  | [] => pk_nil.imp fun σ H Q ⟨m, p, h, rs, rh, hs⟩ => now rh hs .nil
  | ⟨nm, e, p⟩ :: kws => by
    show PK X _ (tA X W (den cf k (trA f c (e :: kws.map (·.value)))).a)
    unfold trA
    split
    · exact ⟨fun pos pins s σ H Q I ⟨m, p, h, rs, rh, hs⟩ => hs.elim⟩
    · exact (pk_cons (ok.e c X g W false e) (tr_K ok g kws)).imp fun σ H Q ⟨m, p, hh, rs, rh, hs⟩ => (tE.bind1 rs rh hs).mono fun x H1 ⟨m1, a, h1, _, rs1, rh1, ra, s1⟩ => (tA.bind1 rs1 rh1 s1).mono fun y H2 ⟨m2, b, h2, e2, rs2, rh2, rb, s2⟩ => now rh2 s2 (.cons (ra.evo e2) rb)
theorem kw_filter {pos : Pos} {env : Env} : ∀ kws : List Keyword, (backToKw pos (keywordEach kws env)).filterMap (·.1) = kwArgs kws
  | [] => rfl
  | ⟨n, v, p⟩ :: r => by
    show ((n, _) :: backToKw pos (keywordEach r env)).filterMap (·.1) = kwArgs _
    unfold kwArgs
    rw [List.filterMap_cons, List.filterMap_cons, kw_filter r]
    rfl
theorem kw_all {pos : Pos} {env : Env} : ∀ {kws : List Keyword}, (kws.all fun q => q.arg.isSome) = true → (backToKw pos (keywordEach kws env)).all (·.1.isSome) = true ∧ (backToKw pos (keywordEach kws env)).any (·.1.isNone) = false
  | [], _ => ⟨rfl, rfl⟩
  | ⟨n, v, p⟩ :: r, h => by
    rw [List.all_cons, Bool.and_eq_true] at h
    obtain ⟨h1, h2⟩ := kw_all (pos := pos) (env := env) h.2
    have hn : n.isSome = true := h.1
    refine ⟨?_, ?_⟩
    · show (n.isSome && _) = true
      rw [hn]; exact h1
    · show (n.isNone || _) = false
      cases n with
      | none => cases hn
      | some z => exact h2
theorem zip_lookup : ∀ {ks : List Str} {ws : List Value} {n : Str} {w : Value}, n ∈ ks → ws[ks.idxOf n]? = some w → (ks.zip ws).lookup n = some w
  | y :: ks, [], n, w, _, e => by simp at e
  | y :: ks, u :: ws, n, w, h, e => by
    rw [List.zip_cons_cons, List.lookup_cons]
    by_cases q : n = y
    · subst q
      simp at e
      simp [e]
    · have e1 : (n == y) = false := by simpa using q
      have e2 : (y == n) = false := by simpa using fun z => q z.symm
      rw [e1]
      rw [List.idxOf_cons, e2] at e
      exact zip_lookup ((List.mem_cons.mp h).resolve_left q) (by simpa using e)
theorem perm_at {X : Cx} {m : Mp} {H : Hp} {vs : List V} {qs : List PV} {ws : List Value} {ks : List Str} (rv : RVs X.K m H vs qs) (r : Vals vs ws) : ∀ {ps : List Str} {ys : List PV}, (∀ n ∈ ps, n ∈ ks) → permO qs (ps.map fun n => ks.idxOf n) = some ys →
    ∃ us : List V, RVs X.K m H us ys ∧ Vals us (ps.map fun n => ((ks.zip ws).lookup n).getD .none) ∧ ∀ n ∈ ps, ((ks.zip ws).lookup n).isSome = true
  | [], ys, _, e => by cases e; exact ⟨[], .nil, .nil, fun n h => nomatch h⟩
  | p :: ps, ys, hk, e => by
    obtain ⟨x, e1, e2⟩ := Option.bind_eq_some_iff.mp (show (qs[ks.idxOf p]?).bind (fun x => (permO qs (ps.map fun n => ks.idxOf n)).map (x :: ·)) = some ys from e)
    obtain ⟨ys', e3, rfl⟩ := Option.map_eq_some_iff.mp e2
    obtain ⟨us, h1, h2, h3⟩ := perm_at rv r (fun n hn => hk n (List.mem_cons_of_mem _ hn)) e3
    obtain ⟨v, e4, h4⟩ := PairedGet rv e1
    obtain ⟨w, e5, h5⟩ := r.get e4
    have lk := zip_lookup (hk p List.mem_cons_self) e5
    refine ⟨v :: us, .cons h4 h1, ?_, fun n hn => ?_⟩
    · rw [List.map_cons, lk]
      exact .cons h5 h2
    · rcases List.mem_cons.mp hn with q | q
      · rw [q, lk]; rfl
      · exact h3 n q
theorem zip_fst_sub : ∀ {ks : List Str} {ws : List Value}, ((ks.zip ws).map (·.1)).Sublist ks
  | [], _ => by simp
  | k :: ks, [] => by simp
  | k :: ks, w :: ws => by
    rw [List.zip_cons_cons, List.map_cons]
    exact zip_fst_sub.cons₂ k
theorem tr_kw (ok : Ok cf k f) (g : Good cf X c) (x : Str) (kws : List Keyword) (p pos : Pos) : PE X (.Call (.Name x p) [] kws pos) (tE X W (den cf k (trKw f c x kws)).e) := by
  unfold trKw
  split
  · rename_i h
    unfold kwOk at h
    simp only [Bool.and_eq_true, decide_eq_true_eq] at h
    obtain ⟨h1, h2, h3, h4, h5, h6⟩ := h
    have h5 : ∀ n ∈ c.par x, n ∈ kwArgs kws := fun n hn => of_decide_eq_true (List.all_eq_true.mp h5 n hn)
    have h6 : ∀ n ∈ kwArgs kws, n ∈ c.par x := fun n hn => of_decide_eq_true (List.all_eq_true.mp h6 n hn)
    have gx := gl_of g h1
    obtain ⟨kk, ad, fd, ps, F, hr, hb, hk, hm, hp, kb⟩ := g.fns x h2
    subst hp
    obtain ⟨ha1, ha2⟩ := kw_all (pos := pos) (env := X.env) h3
    refine PE.imp (t := tCB (rs X (callP (cf x) ((c.par x).map fun n => (kwArgs kws).idxOf n))) (tA X W (den cf k (trA f c (kws.map (·.value)))).a)) ⟨fun pins s σ H Q I hq => ?_⟩ fun _ _ _ => t_args
    refine wpAny_Call_Name_kw (ld_glob I gx.gl hm ?_ gx.db)
    refine PySem.W.callWith_KW0 (h₀ := X.base) I.ok.mod.kin hk ha1 (thn ((tr_K ok g kws).run pos pins s σ H _ I hq) fun ws s1 ⟨vs, H1, I1, r, q⟩ => ⟨I1.kIn, ?_⟩) (by rw [ha2]; rfl)
    rw [kw_filter]
    obtain ⟨E, m, hh, qs, rh, rv, hs⟩ := q
    unfold callP at hs
    split at hs
    · rename_i ys ep
      obtain ⟨us, q1, q2, q3⟩ := perm_at rv r h5 ep
      refine wpAny_call (codeAny_mono (F.run X.A X.stack s1 H1 ⟨[], (kwArgs kws).zip ws⟩ ((c.par x).map fun n => (((kwArgs kws).zip ws).lookup n).getD .none) us Q hr g.gd I1.env0 (kb s1 _ I1.kIn (fun y hy => h6 _ (zip_fst_sub.subset (List.mem_map.mpr ⟨y, hy, rfl⟩))) (h4.sublist zip_fst_sub) q3) q2 ⟨E, m, hh, ys, rh, q1, hs⟩) fun r s' hq => ?_)
      cases r with
      | error e => exact False.elim hq
      | ok fl =>
        cases fl with
        | ret u => exact I1.after hq
        | next => exact False.elim hq
        | brk => exact False.elim hq
        | cont => exact False.elim hq
    · exact hs.elim
  · exact pe_stk
theorem tr_call0 (g : Good cf X c) (x : Str) (p pos : Pos) : PE X (.Call (.Name x p) [] [] pos) (tE X W (den cf k (trCall0 c x)).e) := by
  unfold trCall0
  split
  · rename_i h
    simp only [Bool.and_eq_true, decide_eq_true_eq] at h
    have gx := gl_of g h.1
    obtain ⟨kk, ad, fd, ps, F, hr, hb, hk, hm, _⟩ := g.fns x h.2
    split
    · exact e_call0 (cf := cf) (g := fun x => callEv (cf x)) (call_E (call_G F hr g.gd hb)) gx.gl hm hk gx.db
    · exact e_call0 (cf := cf) (g := cf) (call_G F hr g.gd hb) gx.gl hm hk gx.db
  · exact pe_stk
theorem step_e (ok : Ok cf k f) : OkE cf k (trStep f) := by
  intro c X g W mt e
  unfold trStep
  split
  · exact tr_name g _ _
  · exact tr_const _ _ _
  · rename_i a o b pos
    split
    · rename_i o' e1
      obtain rfl := bo_of e1
      exact e_bin o' (ok.e c X g W mt a) (ok.e c X g W false b)
    · exact pe_stk
  · exact e_not (tr_T_e ok g _)
  · exact e_neg (ok.e c X g W false _)
  · exact (tr_B ok g _ _ _).1
  · exact (tr_cmp ok g _ _ _ _).1
  · exact e_ite (ok.t c X g W _) (ok.e c X g W mt _) (ok.e c X g W mt _)
  · exact e_tup (tr_A ok g _)
  · exact e_lst mt (tr_A ok g _)
  · exact e_d1 g.un g.ww (ok.e c X g W false _) (ok.e c X g W true _)
  · split
    · exact e_dnN cf k g.ww
    · exact e_dnew cf k c.dt
  · exact tr_sub ok g _ _ _
  · exact tr_call0 g _ _ _
  · exact tr_call ok g mt _ _ _ _
  · exact tr_kw ok g _ _ _ _
  · split
    · rename_i h
      exact tr_meth ok g _ _ _ _ _ h
    · exact pe_stk
  · exact tr_lk _ (tr_comp ok g mt _ _ _ _ _ _)
  · exact pe_stk
theorem step_t (ok : Ok cf k f) : OkT cf k (trStep f) := by
  intro c X g W e
  refine tr_T_of (f := trStep f) (fun e mt hi => ?_) e
  have he := step_e ok c X g W mt e
  cases e with
  | UnaryOp o a p =>
    cases o with
    | Not => exact t_not (ok.t c X g W a)
    | _ => exact t_plain' he (fun _ => rfl)
  | BoolOp op vs p => exact (tr_B ok g op p vs).2.pt
  | Compare a ops bs p => exact (tr_cmp ok g a ops bs p).2
  | IfExp _ _ _ _ => cases hi
  | _ => exact t_plain' he (fun _ => rfl)
theorem ok_trE : ∀ n, Ok cf k (trE n)
  | 0 => ⟨fun c X g W mt e => pe_stk, fun c X g W e => by unfold trT; split <;> exact pt_stk⟩
  | n + 1 => ⟨step_e (ok_trE n), step_t (ok_trE n)⟩
end
end Iw
end

section
set_option Elab.async false
set_option linter.all false
set_option maxRecDepth 100000
/-! statements, functions: from the tree to the interpreter's own terms -/
namespace Iw
open PySem PySem.Spec PyProof.Rows L2
variable [TheW]
def isCompE : Expr → Bool
  | .ListComp _ _ _ _ => true
  | .SetComp _ _ _ _ => true
  | .DictComp _ _ _ _ _ => true
  | _ => false
def parIx (c : Cs) : List Expr → Option (List Nat)
  | [] => some []
  | .Name x _ :: es => if c.st x = true then (ixOf x c.N 0).bind fun i => (parIx c es).map (i :: ·) else none
  | _ :: _ => none
/-- which stores are exchanged; none: not told -/
def swF (kd : Str → Option NameKind) (ts vs : List Expr) : Option (Option (List Str)) :=
  if (!(ts.length == 2 || ts.length == 3) || vs.length != ts.length || false) = true then some none
  else if (vs.any fun | .Starred .. => true | _ => false) = true then some none
  else if ((ts.filterMap fun
      | .Name id pos => if (kd id == some .local && pos.line == (ts.head?.map (·.pos.line)).getD 0) = true then some id else none
      | _ => none).length != ts.length || (ts.filterMap fun
      | .Name id pos => if (kd id == some .local && pos.line == (ts.head?.map (·.pos.line)).getD 0) = true then some id else none
      | _ => none).eraseDups.length != (ts.filterMap fun
      | .Name id pos => if (kd id == some .local && pos.line == (ts.head?.map (·.pos.line)).getD 0) = true then some id else none
      | _ => none).length) = true then some none
  else if vs.all (foldedForSure 8) = true then some none
  else if vs.all (constantsAlone 8) = true then none
  else some (some (ts.filterMap fun
      | .Name id pos => if (kd id == some .local && pos.line == (ts.head?.map (·.pos.line)).getD 0) = true then some id else none
      | _ => none))
theorem swF_ok {env : Env} (hk : env.blockKind = .function) {ts vs : List Expr} {k1 k2 : Nat} {p1 p2 : Pos} {r : Option (List Str)} (h : swF env.kindOf ts vs = some r) : swappedStores [.Tuple ts k1 p1] (.Tuple vs k2 p2) env = pure r := by
  unfold swF at h
  unfold swappedStores
  simp only [hk]
  have e0 : ((ScopeKind.function != ScopeKind.function) : Bool) = false := by decide
  rw [e0]
  split at h
  · rename_i h1
    cases h
    simp only [h1, if_true]
  · rename_i h1
    refine (if_neg h1).trans ?_
    split at h
    · rename_i h2
      cases h
      exact if_pos h2
    · rename_i h2
      refine (if_neg h2).trans ?_
      split at h
      · rename_i h3
        cases h
        exact if_pos h3
      · rename_i h3
        refine (if_neg h3).trans ?_
        split at h
        · rename_i h4
          cases h
          exact if_pos h4
        · rename_i h4
          refine (if_neg h4).trans ?_
          split at h
          · cases h
          · rename_i h5
            cases h
            exact (if_neg h5)
def mns (c : Cs) : List Expr → List Bool
  | [] => []
  | .Name x _ :: es => decide (x ∈ c.mn) :: mns c es
  | _ :: es => false :: mns c es
/-- targets that are tuples among them -/
def trParT (f : Tr) (c : Cs) (ts vs : List Expr) : S := if (!anyStar vs && (decide (vs.length = ts.length) && decide (ts.length ≤ 100))) = true then
    (match swF (fun x => c.sc.names.lookup x) ts vs with
    | some none => (match trTgs c 12 ts with
      | some t => .parT t (trA f c vs)
      | none => .stk)
    | _ => .stk)
  else .stk
def trPar (f : Tr) (c : Cs) (ts vs : List Expr) : S := match parIx c ts with
  | none => trParT f c ts vs
  | some is => if (!anyStar vs && (decide (vs.length = ts.length) && decide (ts.length ≤ 100))) = true then
      (match swF (fun x => c.sc.names.lookup x) ts vs with
      | none => .stk
      | some none => .par is (trAb f c (mns c ts) vs)
      | some (some r) => match ts, is, r with
        | [.Name x _, .Name y _], [k, l], [x', y'] => if x = x' ∧ y = y' ∧ k ≠ l ∧ c.sc.names.lookup x = some .local ∧ c.sc.names.lookup y = some .local then .par [k, l] (trAb f c (mns c ts) vs) else .stk
        | [.Name x _, .Name y _, .Name z _], [k, l, n], [x', y', z'] => if x = x' ∧ y = y' ∧ z = z' ∧ k ≠ l ∧ k ≠ n ∧ l ≠ n ∧ c.sc.names.lookup x = some .local ∧ c.sc.names.lookup y = some .local ∧ c.sc.names.lookup z = some .local then .par [k, l, n] (trAb f c (mns c ts) vs) else .stk
        | _, _, _ => .stk)
    else .stk
def trLkS (n : Nat) (c : Cs) (it : Expr) (s : S) : S := if isDk c it = true then .lkS (trE n c false (dkE it)) s else s
def trAsg (n : Nat) (c : Cs) (tg e : Expr) : S := match tg with
  | .Name x _ => if c.st x = true then (match ixOf x c.N 0 with
      | none => .stk
      | some i => match e with
        | .ListComp elt [⟨tg, it, ifs, 0⟩] scope _ => trLkS n c it (.asg (.nm i) (trComp (trE n) c (decide (x ∈ c.mn)) elt tg it ifs scope))
        | e => if isCompE e = true then .stk else .asg (.nm i) (trE n c (decide (x ∈ c.mn)) e))
    else .stk
  | .Tuple ts _ _ => match e with
    | .Tuple vs _ _ => trPar (trE n) c ts vs
    | e => if isCompE e = true then .stk else (match trTg c 12 tg with
      | none => .stk
      | some t => .asg t (trE n c false e))
  | .Subscript o i _ => if isSlE i = true then .stk else .sub (trE n c false o) (trE n c false i) (trE n c false e)
  | _ => .stk
mutual
def trSt (c : Cs) (kp : Bool) : Nat → Stmt → S
  | 0, _ => .stk
  | n + 1, s => match s with
    | .Assign [tg] e _ => trAsg n c tg e
    | .AugAssign (.Name x _) .Add e _ => if c.st x = true then (match ixOf x c.N 0 with
      | none => .stk
      | some i => .aug i (trE n c false e)) else .stk
    | .Expr e _ => if isCompE e = true then .stk else .ex (trE n c false e)
    | .Return (some e) _ => .ret (trE n c kp e)
    | .Return none _ => .ret (.lit .none)
    | .If t a b _ => .ife (trT (trE n) c t) (trSs c kp n a) (trSs c kp n b)
    | .For tg it body [] _ => if isSetE it = true then .stk else (match trTg c 12 tg with
      | none => .stk
      | some t => trLkS n c it (.for_ t (trIt (trE n) c tg it) (trSs c kp n body)))
    | .While t body [] _ => .whl (trT (trE n) c t) (trSs c kp n body)
    | .Pass _ => .skip
    | .Break _ => .brk
    | .Continue _ => .cont
    | .Try body (_ :: _) [] [] _ => trSs c kp n body
    | _ => .stk
def trSs (c : Cs) (kp : Bool) : Nat → List Stmt → S
  | 0, _ => .stk
  | n + 1, ss => match ss with
    | [] => .skip
    | s :: ss => .seq (trSt c kp n s) (trSs c kp n ss)
end
section
variable {cf : Str → List PV → Hs → R PV} {k : Nat} {X : Cx} {c : Cs}
theorem ps_stk {st : Stmt} : PS X st (tSt X (evS cf k .stk)) := s_never
theorem par_gs (g : Good cf X c) : ∀ (ts : List Expr) (is : List Nat), parIx c ts = some is → PGs X ts (gNs is) ∧ is.length = ts.length ∧ (assignEach ts X.env).length = ts.length ∧ (assignEach ts X.env).findIdx? (·.1) = none
  | [], is, h => by cases h; exact ⟨gs_nil, rfl, rfl, rfl⟩
  | e :: es, is, h => by
    unfold parIx at h
    split at h
    · rename_i h0; cases h0
    · rename_i x p es' he
      cases he
      split at h
      · rename_i hs
        obtain ⟨i, e1, e2⟩ := Option.bind_eq_some_iff.mp h
        obtain ⟨is, e3, rfl⟩ := Option.map_eq_some_iff.mp e2
        obtain ⟨q1, q2, q3, q4⟩ := par_gs g _ _ e3
        obtain ⟨s1, s2⟩ := g.st x hs
        refine ⟨gs_cons (by rw [g.nn]; exact g.nd) (by rw [g.nn]; exact ixOf_get e1) s1 s2 q1, by simp [q2], ?_, ?_⟩
        · show (assignEach es X.env).length + 1 = _
          rw [q3]; rfl
        · show ((false, assign _ X.env) :: assignEach es X.env).findIdx? (·.1) = none
          rw [List.findIdx?_cons, q4]; rfl
      · cases h
    · cases h
theorem par_ix2 {x y : Str} {p q : Pos} {k l : Nat} (h : parIx c [.Name x p, .Name y q] = some [k, l]) : c.N[k]? = some x ∧ c.N[l]? = some y := by
  unfold parIx at h
  split at h
  · obtain ⟨i, e1, e2⟩ := Option.bind_eq_some_iff.mp h
    obtain ⟨is, e3, e4⟩ := Option.map_eq_some_iff.mp e2
    unfold parIx at e3
    split at e3
    · obtain ⟨j, e5, e6⟩ := Option.bind_eq_some_iff.mp e3
      obtain ⟨js, e7, e8⟩ := Option.map_eq_some_iff.mp e6
      subst e8
      cases e4
      exact ⟨ixOf_get e1, ixOf_get e5⟩
    · cases e3
  · cases h
theorem par_ix3 {x y z : Str} {p q r : Pos} {k l n : Nat} (h : parIx c [.Name x p, .Name y q, .Name z r] = some [k, l, n]) : c.N[k]? = some x ∧ c.N[l]? = some y ∧ c.N[n]? = some z := by
  unfold parIx at h
  split at h
  · obtain ⟨i, e1, e2⟩ := Option.bind_eq_some_iff.mp h
    obtain ⟨is, e3, e4⟩ := Option.map_eq_some_iff.mp e2
    subst_vars
    match is, e3, e4 with
    | [l', n'], e3, e4 =>
      cases e4
      obtain ⟨h1, h2⟩ := par_ix2 e3
      exact ⟨ixOf_get e1, h1, h2⟩
  · cases h
theorem len2 {α : Type} {l : List α} (h : l.length = 2) : ∃ a b, l = [a, b] := by
  match l, h with
  | [a, b], _ => exact ⟨a, b, rfl⟩
theorem len3 {α : Type} {l : List α} (h : l.length = 3) : ∃ a b d, l = [a, b, d] := by
  match l, h with
  | [a, b, d], _ => exact ⟨a, b, d, rfl⟩
theorem bk_of (hk : X.env.scope.kind = .function) : X.env.blockKind = .function := by
  unfold Env.blockKind
  rw [hk]; rfl
theorem tr_parT {f : Tr} (ok : Ok cf k f) (g : Good cf X c) (hk : X.env.scope.kind = .function) (ts vs : List Expr) (k1 k2 : Nat) (p1 p2 pos : Pos) : PS X (.Assign [.Tuple ts k1 p1] (.Tuple vs k2 p2) pos) (tSt X (evS cf k (trParT f c ts vs))) := by
  unfold trParT
  split
  · rename_i h
    simp only [Bool.and_eq_true, Bool.not_eq_true', decide_eq_true_eq] at h
    obtain ⟨h1, h2, h3⟩ := h
    have kd : (fun x => c.sc.names.lookup x) = X.env.kindOf := by
      funext x
      show _ = X.env.scope.names.lookup x
      rw [g.sc]
    split
    · rename_i es
      rw [kd] at es
      have hw := swF_ok (bk_of hk) (k1 := k1) (k2 := k2) (p1 := p1) (p2 := p2) es
      split
      · rename_i t et
        obtain ⟨q1, q2, q3, q4, q5⟩ := tr_tgs g 12 ts t et
        exact s_parT g.calm (Nat.le_trans h3 (by decide)) (tr_A (W := Wf) ok g vs) q1 q5 q3 q4 rfl hw
      · exact ps_stk
    · exact ps_stk
  · exact ps_stk
theorem tr_par {f : Tr} (ok : Ok cf k f) (g : Good cf X c) (hk : X.env.scope.kind = .function) (ts vs : List Expr) (k1 k2 : Nat) (p1 p2 pos : Pos) : PS X (.Assign [.Tuple ts k1 p1] (.Tuple vs k2 p2) pos) (tSt X (evS cf k (trPar f c ts vs))) := by
  unfold trPar
  split
  · exact tr_parT ok g hk ts vs k1 k2 p1 p2 pos
  · rename_i is ei
    split
    · rename_i h
      simp only [Bool.and_eq_true, Bool.not_eq_true', decide_eq_true_eq] at h
      obtain ⟨h1, h2, h3⟩ := h
      obtain ⟨q1, q2, q3, q4⟩ := par_gs g ts is ei
      have kd : (fun x => c.sc.names.lookup x) = X.env.kindOf := by
        funext x
        show _ = X.env.scope.names.lookup x
        rw [g.sc]
      split
      · exact ps_stk
      · rename_i es
        rw [kd] at es
        have hw := swF_ok (bk_of hk) (k1 := k1) (k2 := k2) (p1 := p1) (p2 := p2) es
        exact s_parN g.calm (by rw [q2]; exact Nat.le_trans h3 (by decide)) (tr_Ab (W := Wf) ok g _ vs) q1 (by rw [q3, q2]) q4 rfl hw
      · rename_i r es
        rw [kd] at es
        have hw := swF_ok (bk_of hk) (k1 := k1) (k2 := k2) (p1 := p1) (p2 := p2) es
        split
        · split
          · rename_i hc
            obtain ⟨rfl, rfl, hkl, hx, hy⟩ := hc
            obtain ⟨n1, n2⟩ := par_ix2 ei
            obtain ⟨a, b, rfl⟩ := len2 h2
            exact s_par2 g.calm (by rw [g.nn]; exact g.nd) (by rw [g.nn]; exact n1) (by rw [g.nn]; exact n2) hkl (by rw [g.sc]; exact hx) (by rw [g.sc]; exact hy) (tr_Ab (W := Wf) ok g _ [a, b]) hw rfl
          · exact ps_stk
        · split
          · rename_i hc
            obtain ⟨rfl, rfl, rfl, h4, h5, h6, hx, hy, hz⟩ := hc
            obtain ⟨n1, n2, n3⟩ := par_ix3 ei
            obtain ⟨a, b, d, rfl⟩ := len3 h2
            exact s_par3 g.calm (by rw [g.nn]; exact g.nd) (by rw [g.nn]; exact n1) (by rw [g.nn]; exact n2) (by rw [g.nn]; exact n3) h4 h5 h6 (by rw [g.sc]; exact hx) (by rw [g.sc]; exact hy) (by rw [g.sc]; exact hz) (tr_Ab (W := Wf) ok g _ [a, b, d]) hw rfl
          · exact ps_stk
        · exact ps_stk
    · exact ps_stk
theorem sw_false {e : Expr} (h : isCompE e = false) (t : Option Expr) (l : Nat) (env : Env) : swapsWith e t l env = pure false := by
  cases e <;> first | rfl | cases h
theorem s_setC {mt : Bool} {i : Nat} {y : Str} {py : Pos} {elt tg iter : Expr} {ifs : List Expr} {scope : Scope} {own : List (Str × Nat)} {pos spos : Pos} {t : Tg} {I : Sg → Hs → R Iw.It} {C : Sg → Hs → R Bool} {L : Sg → Hs → R PV} (hc : X.calm = true) (hN : X.N.Nodup) (hy : X.N[i]? = some y) (hyl : X.env.scope.names.lookup y = some .local)
    (hsw : swapsWith (.ListComp elt [⟨tg, iter, ifs, 0⟩] scope pos) (some (.Name y py)) spos.line X.env = pure true) (hi : PI X tg iter (tI X Wf I)) (ok : BlkOk X.N X.env.scope scope own) (ht0 : ∀ i ∈ tgs t, i ∈ own.map (·.2))
    (hg : ∀ (s : Shared) (H : Hp) (C : Addr) (cl : List (Str × Addr)) (fp : List Addr), PG (X.blk s H scope (compEnvC scope cl C X.env) fp) tg (tG X t)) (ht : ∀ (s : Shared) (H : Hp) (C' : Addr) (cl : List (Str × Addr)) (fp : List Addr), PTs (X.blk s H scope (compEnvC scope cl C' X.env) fp) ifs (tT X Wf C))
    (he : ∀ (s : Shared) (H : Hp) (C : Addr) (cl : List (Str × Addr)) (fp : List Addr), PE (X.blk s H scope (compEnvC scope cl C X.env) fp) elt (tE X Wf L)) (hs : ∀ x, foldedSetIterable iter X.env x = pure x) :
    PS X (.Assign [.Name y py] (.ListComp elt [⟨tg, iter, ifs, 0⟩] scope pos) spos) (tSt X (asgS (.nm i) (compE mt (own.map (·.2)) t I C L))) :=
  (ps_setLc hc hN hy hyl hsw hi ok hg ht he hs).imp fun D σ H ⟨m, p, h, rs, rh, hs⟩ =>
    comp_read (W' := Wf) ht0 ((tE_st rs rh hs).mono fun x H1 ⟨m1, a, h1, _, rs1, rh1, ra, s1⟩ => by
      have s1 : satR X.K D m1 H1 (.ok (.nx, p.set i (some a)) h1) := s1
      exact satR.nx (p := p.set i (some a)) s1 (rs1.set ra) rh1)
theorem tr_lkS {X : Cx} {st : Stmt} (n : Nat) (it : Expr) {A : S} (h : PS X st (tSt X (evS cf k A))) : PS X st (tSt X (evS cf k (trLkS n c it A))) := by
  unfold trLkS
  split
  · exact s_lk (D := evE cf k (trE n c false (dkE it))) h
  · exact h
theorem tr_asg (n : Nat) (g : Good cf X c) (hk : X.env.scope.kind = .function) (tg e : Expr) (pos : Pos) : PS X (.Assign [tg] e pos) (tSt X (evS cf k (trAsg n c tg e))) := by
  have ok := ok_trE (cf := cf) (k := k) n
  unfold trAsg
  split
  · rename_i x px
    split
    · rename_i hs
      obtain ⟨q1, q2⟩ := g.st x hs
      split
      · exact ps_stk
      · rename_i i ei
        have hi : X.N[i]? = some x := by rw [g.nn]; exact ixOf_get ei
        have hN : X.N.Nodup := by rw [g.nn]; exact g.nd
        split
        · rename_i elt tg2 it ifs scope p2
          refine tr_lkS n it ?_
          have hv := tr_comp (W := Wf) ok g (decide (x ∈ c.mn)) elt tg2 it ifs scope p2
          generalize hb : ((X.env.blockKind == .function && X.env.kindOf x == some .local && px.line == p2.line && !(scope.names.any fun (n, k) => n == x && (k == .local || k == .cell))) : Bool) = b
          have hsw : swapsWith (.ListComp elt [⟨tg2, it, ifs, 0⟩] scope p2) (some (.Name x px)) pos.line X.env = pure b := by rw [← hb]; rfl
          cases b with
          | false => exact s_set hN hi q1 hv hsw q2
          | true =>
            have hl : X.env.scope.names.lookup x = some .local := by
              simp only [Bool.and_eq_true, beq_iff_eq] at hb
              exact hb.1.1.2
            unfold trComp
            split
            · exact ⟨fun pins s σ H D I ⟨m, p, hh, rs, rh, hs⟩ => hs.elim⟩
            · rename_i t et
              split
              · rename_i h
                obtain ⟨h, hl2⟩ := h
                simp only [Bool.and_eq_true, List.all_eq_true, decide_eq_true_eq] at h
                by_cases hz : isSetE it = true
                · rw [it_set tg2 it hz]
                  exact ⟨fun pins s σ H D I ⟨m, p, hh, rs, rh, hs⟩ => hs.elim⟩
                · exact s_setC g.calm hN hi hl hsw (tr_it (W := Wf) ok g tg2 it) (blkOk_by (by rw [g.nn, g.sc]; exact h.1)) h.2 (fun s H C cl fp => tr_tg (g.blk s H scope C cl fp) _ _ _ et) (fun s H C cl fp => tr_ifs ok (g.blk s H scope C cl fp) ifs hl2) (fun s H C cl fp => ok.e _ _ (g.blk s H scope C cl fp) Wf false elt) (set_false (by simpa using hz))
              · exact ⟨fun pins s σ H D I ⟨m, p, hh, rs, rh, hs⟩ => hs.elim⟩
        · split
          · exact ps_stk
          · rename_i hz
            exact s_set hN hi q1 (ok.e c X g Wf _ e) (sw_false (by simpa using hz) _ _ _) q2
    · exact ps_stk
  · rename_i ts k1 p1
    split
    · exact tr_par ok g hk ts _ k1 _ p1 _ pos
    · rename_i hne
      split
      · exact ps_stk
      · rename_i hz
        split
        · exact ps_stk
        · rename_i t et
          refine s_asg (ok.e c X g Wf false e) (tr_tg g _ _ _ et) (by rw [swapsWithSole]; exact sw_false (by simpa using hz) _ _ _) ?_ rfl
          cases e <;> first | rfl | exact (hne _ _ _ rfl).elim
  · rename_i o i p1
    split
    · exact ps_stk
    · rename_i hz
      have h2 : isSlE i = false := by simpa using hz
      refine s_sub g.un g.ww k (ok.e c X g Wf false o) (ok.e c X g Wf false i) (ok.e c X g Wf false e) (by rw [swapsWithSole]; cases e <;> rfl) (by cases e <;> rfl) ?_
      intro v
      cases i <;> first | rfl | cases h2
  · exact ps_stk
mutual
theorem tr_st {X : Cx} (g : Good cf X c) (hk : X.env.scope.kind = .function) (hp : PassesOwn (model X.prog X.w) X.A X.env X.xe) (kp : Bool) : ∀ (n : Nat) (st : Stmt), PS X st (tSt X (evS cf k (trSt c kp n st)))
  | 0, st => ps_stk
  | n + 1, st => by
    have ok := ok_trE (cf := cf) (k := k) n
    unfold trSt
    split
    · exact tr_asg n g hk _ _ _
    · split
      · rename_i x px e pos hs
        obtain ⟨q1, q2⟩ := g.st x hs
        split
        · exact ps_stk
        · rename_i i ei
          exact s_aug (by rw [g.nn]; exact g.nd) (by rw [g.nn]; exact ixOf_get ei) q1 (ok.e c X g Wf false _) q2
      · exact ps_stk
    · split
      · exact ps_stk
      · rename_i hz
        exact s_ex (ok.e c X g Wf false _) (sw_false (by simpa using hz) _ _ _)
    · exact s_ret (ok.e c X g Wf kp _)
    · exact ps_retN.imp fun D σ H ⟨m, p, h, rs, rh, hs⟩ => hs σ H m .refl rh rs _ (.d .non)
    · exact s_if (ok.t c X g Wf _) (tr_ss g hk hp kp n _) (tr_ss g hk hp kp n _)
    · split
      · exact ps_stk
      · rename_i hz
        split
        · exact ps_stk
        · rename_i t et
          refine tr_lkS n _ ?_
          exact s_for hp g.calm (tr_it (W := Wf) ok g _ _) (tr_tg g _ _ _ et) (tr_ss g hk hp kp n _) (set_false (by simpa using hz))
    · exact s_whl hp (ok.t c X g Wf _) (tr_ss g hk hp kp n _)
    · exact s_pass
    · exact s_brk
    · exact s_cont
    · exact ps_try_thru0 (tr_ss (X := X.nox) (g.nox) hk PassesOwn.never kp n _)
    · exact ps_stk
theorem tr_ss {X : Cx} (g : Good cf X c) (hk : X.env.scope.kind = .function) (hp : PassesOwn (model X.prog X.w) X.A X.env X.xe) (kp : Bool) : ∀ (n : Nat) (ss : List Stmt), PSs X ss (tSt X (evS cf k (trSs c kp n ss)))
  | 0, ss => ss_never
  | n + 1, ss => by
    unfold trSs
    split
    · exact ss_nil
    · exact ss_cons (tr_st g hk hp kp n _) (tr_ss g hk hp kp n _)
end
end
end Iw
end

section
set_option Elab.async false
set_option linter.all false
set_option maxRecDepth 100000
/-! a whole program of plain functions -/
namespace Iw
open PySem PySem.Spec PyProof.Rows L2
variable [TheW]
def rsK (K : PySem.W.Frag) (mg : Str → Option Value) (f : List PV → Hs → R PV) : Spg := fun xs H Q => ∃ (E : Value → Hp → Prop) (m : Mp) (h : Hs) (ps : List PV), RH K m h H ∧ RVs K m H xs ps ∧ satG mg K E m H (RV K) (f ps h) Q
/-- what a function's text is put into -/
def csF (lits : List (Str × PyData)) (fns free : List Str) (par : Str → List Str) (mn : List Str) (dt : Bool) (N : List Str) (scope : Scope) : Cs := ⟨scope, scope, true, N, lits, fns, free, mn, dt, par⟩
def fuel : Nat := 60
structure FnIn (K : PySem.W.Frag) (mg : Str → Option Value) (lits : List (Str × PyData)) (fns free : List Str) (par : Str → List Str) (P : Pg) (x : Str) : Prop where
  ex : ∃ (as : List Arg) (kd : List (Option Expr)) (ds : List Expr) (body : List Stmt) (scope : Scope) (kws : List (Str × V)) (f : Addr) (fd : FuncData) (N mn : List Str) (kp dt : Bool),
    FunD K x x ⟨[], as, none, [], kd, none, ds⟩ body scope [] kws f fd ∧ mg x = some (.ref f) ∧ FnScope N (as.map (·.arg)) scope ∧ (as.map (·.arg)).Nodup ∧ par x = as.map (·.arg) ∧ P.lookup x = some ⟨as.length, N.length, kp, trSs (csF lits fns free par mn dt N scope) kp fuel body⟩
theorem funD_binds {K : PySem.W.Frag} {x qual : Str} {as : List Arg} {kd : List (Option Expr)} {ds : List Expr} {body : List Stmt} {scope : Scope} {kws : List (Str × V)} {f : Addr} {fd : FuncData} (F : FunD K x qual ⟨[], as, none, [], kd, none, ds⟩ body scope [] kws f fd) (hn : (as.map (·.arg)).Nodup) : Binds K fd (as.map (·.arg)) [] := by
  obtain ⟨oc, od, dV, kV, doc, pm, an, cdv, ct, osl, rfl, lk, hcd, hD, hK⟩ := F.ex
  rcases hD with ⟨_, rfl⟩ | ⟨e, _⟩
  · exact .all fun us hl => bind_plain hn (by rw [hl, List.length_map])
  · exact absurd rfl e
theorem funD_kw {K : PySem.W.Frag} {x qual : Str} {as : List Arg} {kd : List (Option Expr)} {ds : List Expr} {body : List Stmt} {scope : Scope} {kws : List (Str × V)} {f : Addr} {fd : FuncData} (F : FunD K x qual ⟨[], as, none, [], kd, none, ds⟩ body scope [] kws f fd) : KwB K fd (as.map (·.arg)) := by
  obtain ⟨oc, od, dV, kV, doc, pm, an, cdv, ct, osl, rfl, lk, hcd, hD, hK⟩ := F.ex
  rcases hD with ⟨_, rfl⟩ | ⟨e, _⟩
  · exact fun s kw _ h1 h2 h3 => .of_eq (bind_kw h1 h2 h3)
  · exact absurd rfl e
section
variable {P : Program} {w : World} {K : PySem.W.Frag} {mg : Str → Option Value} {base : Heap} {lits : List (Str × PyData)} {fns free : List Str} {par : Str → List Str} {Q : Pg}
def Lvl (P : Program) (w : World) (K : PySem.W.Frag) (mg : Str → Option Value) (base : Heap) (fns : List Str) (par : Str → List Str) (Q : Pg) (n : Nat) : Prop := ∀ x, x ∈ fns → ∃ (f : Addr) (fd : FuncData) (ps : List Str), FnG P w K mg base n f fd ps (rsK K mg (callN Q n x)) ∧ Binds K fd ps [] ∧ PySem.W.keepIn K (.ref f) = true ∧ mg x = some (.ref f) ∧ par x = ps ∧ KwB K fd ps
theorem fn_one (ww : w = TheW.w) (hfree : ∀ x ∈ free, mg x = none) (hl : ∀ x d, lits.lookup x = some d → ∃ u v, mg x = some u ∧ RelV v u ∧ ∀ m H, Rp m H v d) {n : Nat} (ih : Lvl P w K mg base fns par Q n) {x : Str} {as : List Arg} {kd : List (Option Expr)} {ds : List Expr} {body : List Stmt} {scope : Scope} {kws : List (Str × V)} {f : Addr} {fd : FuncData} {N mn : List Str} {kp dt : Bool}
    (F : FunD K x x ⟨[], as, none, [], kd, none, ds⟩ body scope [] kws f fd) (S : FnScope N (as.map (·.arg)) scope) (hq : Q.lookup x = some ⟨as.length, N.length, kp, trSs (csF lits fns free par mn dt N scope) kp fuel body⟩) : FnG P w K mg base (n + 1) f fd (as.map (·.arg)) (rsK K mg (callN Q (n + 1) x)) := by
  have hc : ∀ vs h, callN Q (n + 1) x vs h = if vs.length = as.length then fin kp h.length (evS (callN Q n) h.length (trSs (csF lits fns free par mn dt N scope) kp fuel body) (vs.map some ++ List.replicate (N.length - vs.length) none) h) else .bad := fun vs h => by
    show (match Q.lookup x with
      | none => (R.bad : R PV)
      | some fd => if vs.length = fd.np then fin fd.kp h.length (evS (callN Q n) h.length fd.body (vs.map some ++ List.replicate (fd.ns - vs.length) none) h) else .bad) = _
    rw [hq]
  refine fnG_of F S (fun vs H q ⟨E, m, h, ps, rh, rv, hs⟩ => ?_) (fun cdv A outer s H vs q hr hg ⟨E, m, h, ps, rh, rv, hs⟩ => ?_)
  · rw [hc] at hs
    obtain ⟨hl, _⟩ := satG_if hs
    rw [rv.len, hl, List.length_map]
  · rw [hc] at hs
    obtain ⟨_, hs⟩ := satG_if hs
    have g : Good (callN Q n) (cxOf CXn P w K mg base N x scope f cdv A outer s H En).nox (csF lits fns free par mn dt N scope) :=
      { sc := rfl
        nn := rfl
        nd := S.nd
        calm := rfl
        gd := hg
        un := hr.units
        ww := ww
        un2 := by have h := hr.un; exact (show (A.deeper (envOfC x scope s.heap.objs.size f cdv)).units + 70 < cLine by omega)
        st := fun y hy => by
          refine ⟨?_, .inl rfl⟩
          have hy : (match scope.names.lookup y with
            | some .local => true
            | some .cell => true
            | _ => false) = true := hy
          show scope.names.lookup y = some .local ∨ scope.names.lookup y = some .cell
          split at hy
          · rename_i e; exact .inl e
          · rename_i e; exact .inr e
          · cases hy
        free := hfree
        lits := hl
        fns := fun y hy => by
          obtain ⟨f', fd', ps', G, b, kk, mm, pp, kb⟩ := ih y hy
          exact ⟨n, f', fd', ps', G, hr, b, kk, mm, pp, kb⟩ }
    refine ⟨_, tr_ss (k := h.length) g S.kind PassesOwn.never kp fuel body, m, _, h, rs_start rv, rh, ?_⟩
    exact fin_sat rh (ev_evS (cf_ok Q n) _ _ h (Nat.le_refl _)) hs
theorem fns_ok (ww : w = TheW.w) (hf : ∀ x ∈ fns, FnIn K mg lits fns free par Q x) (hfree : ∀ x ∈ free, mg x = none) (hl : ∀ x d, lits.lookup x = some d → ∃ u v, mg x = some u ∧ RelV v u ∧ ∀ m H, Rp m H v d) : ∀ n, Lvl P w K mg base fns par Q n
  | 0, x, hx => by
    obtain ⟨as, kd, ds, body, scope, kws, f, fd, N, mn, kp, dt, F, hm, S, hn, hp, hq⟩ := (hf x hx).ex
    exact ⟨f, fd, _, ⟨fun vs H q ⟨E, m, h, ps, rh, rv, hs⟩ => hs.elim, fun A outer s H args us vs q hr hg he hb hv ⟨E, m, h, ps, rh, rv, hs⟩ => hs.elim⟩, funD_binds F hn, F.kp, hm, hp, funD_kw F⟩
  | n + 1, x, hx => by
    obtain ⟨as, kd, ds, body, scope, kws, f, fd, N, mn, kp, dt, F, hm, S, hn, hp, hq⟩ := (hf x hx).ex
    exact ⟨f, fd, _, fn_one ww hfree hl (fns_ok ww hf hfree hl n) F S hq, funD_binds F hn, F.kp, hm, hp, funD_kw F⟩
end
end Iw
end

section
set_option Elab.async false
set_option linter.all false
set_option maxRecDepth 100000
set_option maxHeartbeats 1000000
/-! a law's end, for promises that hold where nothing is guarded -/
namespace Iw
open PySem PySem.Spec PyProof.Rows L2
section
variable {P : Program} {w : World} {K : PySem.W.Frag} {mg mb : Str → Option Value} {k : Nat} {fa a : Addr} {fd : FuncData} {x : Str} {sp : Spg} {s₁ : Shared} {vs : List Value} {ns : List Int}
/-- the call, over an abstract heap that tracks the script at most -/
theorem law_core (KX : K.In s₁.heap) (hns : s₁.heap.Ns mainGlobals mg) (hb : s₁.heap.Ns builtinsNs mb) (hbb : ∀ x : Str, x ≠ "__name__" → mb x = bootBuiltins x) (hlim : s₁.heap.NoLimit) (hg : s₁.gens = #[])
    (ha : s₁.heap.get? a = some { cls := .type "list", data := .seq vs.toArray }) (hr : Room k callerA)
    (F : ∀ base : Heap, K.In base → base.Ns mainGlobals mg → FnG P w K mg base k fa fd [x] sp) (hbind : ∀ (s : Shared) (u : Value), BindsTo s fd ⟨[u], []⟩ [(x, u)])
    {H : Hp} (hO : Only H) (hsp : sp [.ref a] H fun v _ => v = .bl true) (hok : HOk P w H s₁.heap) (hA : ∀ b, H b ≠ none → b = a) (hK : H a ≠ none → K.lookup a = none) :
    codeAny (model P w) callerA (.call (.ref fa) ⟨[.ref a], []⟩) (fun r s' => r = .ok (.ret (.bool true)) ∧ OldK s₁.heap s'.heap ∧ s'.os = s₁.os ∧ AllBare s'.gens) s₁ := by
  have free : ∀ {b : Addr} {o : Obj}, s₁.heap.get? b = some o → (b = a → H a = none) → (hidT s₁.heap H).get? b = some o := fun {b o} e n => hidT_get e (by
    by_cases z : b = a
    · rw [z]; exact n z
    · cases q : H b with
      | none => rfl
      | some u => exact absurd (hA b (by rw [q]; simp)) z)
  have space : ∀ {b : Addr} {m : Str → Option Value}, s₁.heap.Ns b m → (hidT s₁.heap H).Ns b m := fun {b m} ⟨o, es, ep, e, d, r⟩ => ⟨o, es, ep, free e (fun z => by
    rw [z, ha] at e; cases e
    cases d), d, r⟩
  have KB : K.In (hidT s₁.heap H) := fun b o e => free (KX b o e) fun z => by
    cases q : H a with
    | none => rfl
    | some u =>
      rw [z, hK (by rw [q]; simp)] at e; cases e
  obtain ⟨ml, l1, l2⟩ := hlim
  have e0 : Env0 P w K mg (hidT s₁.heap H) callerA [] s₁ H :=
    { frames := rfl, mod := ⟨KB, space hns, ⟨mb, space hb, hbb⟩, ⟨ml, space l1, l2⟩⟩, bs := fun b o e => of_hidT e, bsz := Nat.le_of_eq (hidT_size _ _), funs := trivial, frf := (fun b z => nomatch z), hok := hok, bare := .of_eq hg }
  refine codeAny_mono ((F _ KB (space hns)).run callerA [] s₁ H ⟨[.ref a], []⟩ [.ref a] [.ref a] _ hr rfl e0 (hbind s₁ (.ref a)) (.cons rfl .nil) hsp) fun r s' h => ?_
  match r, h with
  | .error e, h => exact False.elim h
  | .ok .next, h => exact False.elim h
  | .ok .brk, h => exact False.elim h
  | .ok .cont, h => exact False.elim h
  | .ok (.ret u), ⟨v, H', os, bare, un, hok', r', q⟩ =>
    have q : v = .bl true := q
    subst q
    obtain rfl : u = Value.bool true := r'
    refine ⟨rfl, OldK.of_keep fun b o e => ?_, os, bare⟩
    rcases hO b with z | ⟨ob, xs, z⟩
    · exact un.keep b o e z (fun z => nomatch z) (by simp)
    · obtain ⟨e1, _⟩ := hok b _ z
      obtain ⟨e2, _⟩ := hok' b _ (un.frzs b ob _ z)
      rw [e] at e1; cases e1
      exact e2
/-- the object that the script is -/
theorem law_G (KX : K.In s₁.heap) (hns : s₁.heap.Ns mainGlobals mg) (hb : s₁.heap.Ns builtinsNs mb) (hbb : ∀ x : Str, x ≠ "__name__" → mb x = bootBuiltins x) (hlim : s₁.heap.NoLimit) (hg : s₁.gens = #[])
    (ha : s₁.heap.get? a = some { cls := .type "list", data := .seq vs.toArray }) (hi : IntsAre vs ns) (hl : ns.length ≤ sizeLine) (hr : Room k callerA)
    (F : ∀ base : Heap, K.In base → base.Ns mainGlobals mg → FnG P w K mg base k fa fd [x] sp) (hbind : ∀ (s : Shared) (u : Value), BindsTo s fd ⟨[u], []⟩ [(x, u)])
    (hsp : ∀ H : Hp, SqL K H a (ns.map V.int) → sp [.ref a] H fun v _ => v = .bl true) :
    codeAny (model P w) callerA (.call (.ref fa) ⟨[.ref a], []⟩) (fun r s' => r = .ok (.ret (.bool true)) ∧ OldK s₁.heap s'.heap ∧ s'.os = s₁.os ∧ AllBare s'.gens) s₁ := by
  have rv := vals_ints hi
  have lv := hi.length
  cases hk : K.lookup a with
  | some o =>
    have e := KX a o hk
    rw [ha] at e
    cases e
    have hS : SqL K (fun _ => none) a (ns.map V.int) := .inr ⟨_, vs.toArray, _, hk, rfl, rfl, rfl, by rw [List.size_toArray, lv]; exact hl, by simpa using rv⟩
    exact law_core KX hns hb hbb hlim hg ha hr F hbind (fun _ => .inl rfl) (hsp _ hS) (fun b u z => nomatch (show (none : Option HO) = some u from z)) (fun b z => absurd rfl z) fun z => absurd rfl z
  | none =>
    let u : HO := .frz { cls := .type "list", data := .seq vs.toArray } (.lst (ns.map V.int))
    have ne : ∀ {b : Addr}, b ≠ a → upd (fun _ => none) a u b = none := fun z => by rw [upd_ne z]
    refine law_core KX hns hb hbb hlim hg ha hr F hbind (H := upd (fun _ => none) a u) (fun b => ?_) (hsp _ (.inl (.inr ⟨_, upd_same⟩))) (fun b o z => ?_) (fun b z => ?_) fun _ => hk
    · by_cases z : b = a
      · rw [z]; exact .inr ⟨_, _, upd_same⟩
      · exact .inl (ne z)
    · by_cases q : b = a
      · subst q
        rw [upd_same] at z
        cases z
        exact ⟨ha, by rw [List.length_map]; exact hl, vs, _, rv, ha⟩
      · rw [ne q] at z; cases z
    · by_cases q : b = a
      · exact q
      · exact absurd (ne q) z
end
theorem walk_G {l : PySem.W.OpenLaw} {n k : Nat} {q : Program} {loose : List Str} {XP : (Str → Option Value) → Heap → Prop} {YP : World → Heap → Prop} {d : DefRec} {x : Str}
    (hn : l.most = some n) (hn2 : n ≤ sizeLine) (hdf : d.params.defaults = []) (hr : Room k callerA)
    (F : ∀ (w : World) (mg : Str → Option Value) (fa : Addr) (h : Heap), YP w h → h.Ns mainGlobals mg → mg d.name = some (.ref fa) →
      ∃ (K : PySem.W.Frag) (fd : FuncData) (sp : Spg), K.In h ∧ (∀ (s : Shared) (u : Value), BindsTo s fd ⟨[u], []⟩ [(x, u)]) ∧
        (∀ (H : Hp) (a : Addr) (ns : List Int), ns.length ≤ n → SqL K H a (ns.map V.int) → sp [.ref a] H fun v _ => v = .bl true) ∧
        ∀ base : Heap, K.In base → base.Ns mainGlobals mg → FnG l.prog w K mg base k fa fd [x] sp) :
    PySem.W.WalkO q loose XP YP l.row.toRowW d [] (fun f vs => PySem.call f vs) := by
  refine Att.attach_call hn hdf fun w s₀ s₁ mg mb fa o pm cd doc a vs ns G Y ho hd hcd hmg hobj hints hlen hg => ?_
  obtain ⟨K, fd, sp, KX, hb, hsp, hF⟩ := F w mg fa _ Y G.T.g hmg
  exact law_G KX G.T.g G.T.b G.T.builtins G.T.nolimit hg hobj hints (Nat.le_trans hlen hn2) hr hF hb fun H hS => hsp H a ns hlen hS
variable [TheW]
/-- the script's call, in the interpreter -/
theorem law_sp {K : PySem.W.Frag} {mg : Str → Option Value} {f : List PV → Hs → R PV} {H : Hp} {a : Addr} {ns : List Int} (h : f [.scr ns] [] = .ok (bool true) []) (hS : SqL K H a (ns.map V.int)) : rsK K mg f [.ref a] H fun v _ => v = .bl true := by
  have sc : Scr K ⟨[], []⟩ H a (ns.map V.int) := hS.imp (fun z => ⟨z, fun q => q.elim (fun q => nomatch q) fun q => nomatch q⟩) id
  refine ⟨fun _ _ => False, ⟨[], []⟩, [], [.scr ns], ⟨rfl, .nil, (fun b hb => nomatch hb), fun n o e => by simp at e⟩, .cons (.scr sc) .nil, ?_⟩
  rw [h]
  exact fun b H' m' _ _ r => rv_bool r
end Iw
end

section
set_option Elab.async false
set_option linter.all false
set_option maxRecDepth 100000
/-! a law's tables, the facts of its head -/
namespace Iw
open PySem PySem.Spec PyProof.Rows L2
def plainArgs (a : Arguments) : Bool := a.posonlyargs.isEmpty && (a.vararg.isNone && (a.kwonlyargs.isEmpty && a.kwarg.isNone))
theorem plain_eq {a : Arguments} (h : plainArgs a = true) : a = ⟨[], a.args, none, [], a.kw_defaults, none, a.defaults⟩ := by
  obtain ⟨p, as, va, ko, kd, kw, ds⟩ := a
  unfold plainArgs at h
  simp only [Bool.and_eq_true, List.isEmpty_iff, Option.isNone_iff_eq_none] at h
  obtain ⟨rfl, rfl, rfl, rfl⟩ := h
  rfl
def scOk (N P : List Str) (sc : Scope) : Bool :=
  decide (sc.kind = .function) && (!sc.isCoroutine && (!sc.isGenerator && (decide N.Nodup && (decide (N.take P.length = P) && ((P.all fun x => decide (sc.names.lookup x = some .local) || decide (sc.names.lookup x = some .cell)) && sc.names.all fun y => !decide (y.2 = .free))))))
theorem scOk_by {N P : List Str} {sc : Scope} (h : scOk N P sc = true) : FnScope N P sc := by
  unfold scOk at h
  simp only [Bool.and_eq_true, Bool.not_eq_true', decide_eq_true_eq, List.all_eq_true, Bool.or_eq_true, decide_eq_false_iff_not] at h
  obtain ⟨h1, h2, h3, h4, h5, h6, h7⟩ := h
  exact ⟨h1, h2, h3, h4, h5, h6, h7⟩
section
variable (top : Nat → Stmt) (recs : List Rec) (free : List Str) (lits : List (Str × PyData))
def parOf (x : Str) : List Str := match recs.find? fun r => decide (r.x = x) with
  | some r => (defArgs (top r.i)).args.map (·.arg)
  | none => []
def irOf (r : Rec) : S := trSs (csF lits (fnsOf recs) free (parOf top recs) r.mn r.dt r.N (defScope (top r.i))) r.kp fuel (defBody (top r.i))
def litOk : PyData → Bool
  | .int _ => true
  | .str _ => true
  | _ => false
def pgOf (fs : List S) : Pg := List.zipWith (fun (r : Rec) (f : S) => (r.x, (⟨(defArgs (top r.i)).args.length, r.N.length, r.kp, f⟩ : Fd))) recs fs
def okR (r : Rec) : Bool := plainArgs (defArgs (top r.i)) && (scOk r.N ((defArgs (top r.i)).args.map (·.arg)) (defScope (top r.i)) && decide ((defArgs (top r.i)).args.map (·.arg)).Nodup)
end
section
variable {top : Nat → Stmt} {recs : List Rec} {free : List Str} {lits : List (Str × PyData)} {Q : Pg} {K : PySem.W.Frag} {h : Heap} {mg : Str → Option Value}
theorem fact_of (c : He.SaysD (faOf recs free lits) (fnOf top recs) K) {f : He.Fa} (hf : f ∈ faOf recs free lits) : f.ok K = true := by
  obtain ⟨i, e⟩ := List.getElem?_of_mem hf
  exact c.fact i e
theorem def_of (c : He.SaysD (faOf recs free lits) (fnOf top recs) K) {r : Rec} (hr : r ∈ recs) : ∃ fd, FunD K r.x r.x (defArgs (top r.i)) (defBody (top r.i)) (defScope (top r.i)) [] [] (He.fAd K (r.x, none)) fd := by
  obtain ⟨i, e⟩ := List.getElem?_of_mem (List.mem_map.mpr ⟨r, hr, rfl⟩ : mkD top r ∈ fnOf top recs)
  exact c.def_ i e
theorem free_of (X : K.In h) (G : h.Ns mainGlobals mg) (c : He.SaysD (faOf recs free lits) (fnOf top recs) K) : ∀ x ∈ free, mg x = none := fun x hx =>
  He.free_ok X G (fact_of c (List.mem_append_right _ (List.mem_append_left _ (List.mem_map.mpr ⟨x, hx, rfl⟩))))
theorem glo_of (X : K.In h) (G : h.Ns mainGlobals mg) (c : He.SaysD (faOf recs free lits) (fnOf top recs) K) {r : Rec} (hr : r ∈ recs) : mg r.x = some (.ref (He.fAd K (r.x, none))) :=
  He.glo_ok X G (fact_of c (List.mem_append_left _ (List.mem_map.mpr ⟨r.x, List.mem_map.mpr ⟨r, hr, rfl⟩, rfl⟩)))
theorem lits_of (X : K.In h) (G : h.Ns mainGlobals mg) (c : He.SaysD (faOf recs free lits) (fnOf top recs) K) (ok : lits.all (fun p => litOk p.2) = true) : ∀ x d, lits.lookup x = some d → ∃ u v, mg x = some u ∧ RelV v u ∧ ∀ m H, Rp m H v d := fun x d e => by
  have hm := PySem.mem_of_lookup e
  have hk := List.all_eq_true.mp ok _ hm
  have hf := fact_of c (List.mem_append_right _ (List.mem_append_right _ (List.mem_map.mpr ⟨(x, d), hm, rfl⟩)))
  cases d with
  | int i =>
    obtain ⟨t, e1⟩ := He.int_ok X G (x := x) (i := i) hf
    exact ⟨_, .int i, e1, ⟨t, rfl⟩, fun _ _ => .int i⟩
  | str z =>
    obtain ⟨t, e1⟩ := He.str_ok X G (x := x) (z := z) hf
    exact ⟨_, .str z, e1, ⟨t, rfl⟩, fun _ _ => .str z⟩
  | _ => cases hk
theorem lookup_zip_rec {g : Rec → S → Fd} : ∀ {recs : List Rec} {f : Rec → S}, (recs.map (·.x)).Nodup → ∀ {r : Rec}, r ∈ recs → (List.zipWith (fun (r : Rec) (s : S) => (r.x, g r s)) recs (recs.map f)).lookup r.x = some (g r (f r))
  | r0 :: recs, f, hn, r, hr => by
    rw [List.map_cons, List.nodup_cons] at hn
    rw [List.map_cons, List.zipWith_cons_cons, List.lookup_cons]
    rcases List.mem_cons.mp hr with e | hr
    · subst e; simp
    · have ne : r.x ≠ r0.x := fun e => hn.1 (e ▸ List.mem_map.mpr ⟨r, hr, rfl⟩)
      have e2 : (r.x == r0.x) = false := by simpa using ne
      rw [e2]
      exact lookup_zip_rec hn.2 hr
theorem q_of {fs : List S} {ex : Pg} (hq : Q = pgOf top recs fs ++ ex) (hc : recs.map (irOf top recs free lits) = fs) (hn : (recs.map (·.x)).Nodup) {r : Rec} (hr : r ∈ recs) : Q.lookup r.x = some ⟨(defArgs (top r.i)).args.length, r.N.length, r.kp, irOf top recs free lits r⟩ := by
  subst hq hc
  have e := lookup_zip_rec (g := fun r f => (⟨(defArgs (top r.i)).args.length, r.N.length, r.kp, f⟩ : Fd)) (f := irOf top recs free lits) hn hr
  rw [List.lookup_append, show (pgOf top recs (recs.map (irOf top recs free lits))).lookup r.x = _ from e]
  rfl
theorem find_rec : ∀ {recs : List Rec}, (recs.map (·.x)).Nodup → ∀ {r : Rec}, r ∈ recs → (recs.find? fun q => decide (q.x = r.x)) = some r
  | r0 :: recs, hn, r, hr => by
    rw [List.map_cons, List.nodup_cons] at hn
    rw [List.find?_cons]
    rcases List.mem_cons.mp hr with e | hr
    · subst e; simp
    · have ne : r0.x ≠ r.x := fun e => hn.1 (e ▸ List.mem_map.mpr ⟨r, hr, rfl⟩)
      simp only [ne, decide_false]
      exact find_rec hn.2 hr
theorem par_of (hn : (recs.map (·.x)).Nodup) {r : Rec} (hr : r ∈ recs) : parOf top recs r.x = (defArgs (top r.i)).args.map (·.arg) := by
  unfold parOf
  rw [find_rec hn hr]
theorem fnIn_of {fs : List S} {ex : Pg} (X : K.In h) (G : h.Ns mainGlobals mg) (c : He.SaysD (faOf recs free lits) (fnOf top recs) K) (hq : Q = pgOf top recs fs ++ ex) (hc : recs.map (irOf top recs free lits) = fs) (hn : (recs.map (·.x)).Nodup) (hr : recs.all (okR top) = true) : ∀ x ∈ fnsOf recs, FnIn K mg lits (fnsOf recs) free (parOf top recs) Q x := fun x hx => by
  obtain ⟨r, h1, rfl⟩ := List.mem_map.mp hx
  obtain ⟨fd, F⟩ := def_of c h1
  have ok := List.all_eq_true.mp hr r h1
  unfold okR at ok
  simp only [Bool.and_eq_true, decide_eq_true_eq] at ok
  obtain ⟨o1, o2, o3⟩ := ok
  have q := q_of hq hc hn h1
  unfold irOf at q
  rw [plain_eq o1] at F
  exact ⟨_, _, _, _, _, _, _, fd, r.N, r.mn, r.kp, r.dt, F, glo_of X G c h1, scOk_by o2, o3, par_of hn h1, q⟩
/-- a law, from its run in the interpreter -/
theorem law_of {l : PySem.W.OpenLaw} {n : Nat} {fs : List S} {ex : Pg} {w : World} {fa : Addr} {x : Str} {rl : Rec} (X : K.In h) (G : h.Ns mainGlobals mg) (c : He.SaysD (faOf recs free lits) (fnOf top recs) K) (hq : Q = pgOf top recs fs ++ ex) (hc : recs.map (irOf top recs free lits) = fs) (hn : (recs.map (·.x)).Nodup) (hr : recs.all (okR top) = true) (hl : lits.all (fun p => litOk p.2) = true)
    (hrl : rl ∈ recs) (hx : rl.x = "law") (hp : (defArgs (top rl.i)).args.map (·.arg) = [x]) (hfa : mg "law" = some (.ref fa)) (pure : ∀ ns : List Int, ns.length ≤ 63 → callN Q (n + 1) "law" [.scr ns] [] = .ok (bool true) []) :
    ∃ (fd : FuncData) (sp : Spg), (∀ (s : Shared) (u : Value), BindsTo s fd ⟨[u], []⟩ [(x, u)]) ∧ (∀ (H : Hp) (a : Addr) (ns : List Int), ns.length ≤ 63 → SqL K H a (ns.map V.int) → sp [.ref a] H fun v _ => v = .bl true) ∧ ∀ base : Heap, K.In base → base.Ns mainGlobals mg → FnG l.prog w K mg base (n + 1) fa fd [x] sp := by
  obtain ⟨fd, F⟩ := def_of c hrl
  have ok := List.all_eq_true.mp hr rl hrl
  unfold okR at ok
  simp only [Bool.and_eq_true, decide_eq_true_eq] at ok
  obtain ⟨o1, o2, o3⟩ := ok
  have q := q_of hq hc hn hrl
  unfold irOf at q
  have g := glo_of X G c hrl
  rw [hx] at g q
  have ea : fa = He.fAd K (rl.x, none) := by
    rw [hfa] at g; cases g; rw [hx]
  rw [plain_eq o1] at F
  have hlen : (defArgs (top rl.i)).args.length = 1 := by rw [← List.length_map (f := fun a : Arg => a.arg), hp]; rfl
  rw [← ea, hx] at F
  have b := FunD.bindsA (ps := [x]) F fun kV doc pm an cdv ct us hl => by
    rw [bind_plain o3 (by rw [hlen]; exact hl), hp]
  letI : TheW := ⟨w⟩
  refine ⟨fd, rsK K mg (callN Q (n + 1) "law"), fun s u => b s [u] rfl, fun H a ns hl hS => law_sp (pure ns hl) hS, fun base hKb hGb => ?_⟩
  have all := fns_ok (ww := rfl) (P := l.prog) (w := w) (base := base) (fnIn_of X G c hq hc hn hr) (free_of X G c) (lits_of X G c hl)
  have one := fn_one rfl (free_of X G c) (lits_of X G c hl) (all n) F (scOk_by o2) q
  rw [hp] at one
  exact one
end
end Iw
end

section
set_option Elab.async false
set_option linter.all false
set_option maxRecDepth 100000
/-! the plain side: what a term does, by rules for its result -/
namespace Iw
open PySem L2
def Sat {α : Type} (r : R α) (Q : α → Hs → Prop) : Prop := ∃ a h, r = .ok a h ∧ Q a h
section
variable {α β : Type} {Q Q' : α → Hs → Prop} {h : Hs}
theorem Sat.mono {r : R α} (s : Sat r Q) (i : ∀ a h, Q a h → Q' a h) : Sat r Q' := let ⟨a, h, e, q⟩ := s; ⟨a, h, e, i a h q⟩
@[simp] theorem sat_ok {a : α} : Sat (.ok a h) Q ↔ Q a h := ⟨fun ⟨_, _, e, q⟩ => by cases e; exact q, fun q => ⟨_, _, rfl, q⟩⟩
@[simp] theorem sat_bad : Sat (.bad : R α) Q ↔ False := ⟨(fun ⟨_, _, e, _⟩ => nomatch e), False.elim⟩
theorem sat_bind {r : R β} {f : β → Hs → R α} : Sat (r.bind f) Q ↔ Sat r fun b h => Sat (f b h) Q := by
  constructor
  · intro ⟨a, h, e, q⟩
    cases r with
    | ok b h1 => exact ⟨b, h1, rfl, a, h, e, q⟩
    | exc _ _ => cases e
    | bad => cases e
  · intro ⟨b, h1, e, a, h, e2, q⟩
    subst e
    exact ⟨a, h, e2, q⟩
theorem sat_if {c : Prop} [Decidable c] {r : R α} : Sat (if c then r else .bad) Q ↔ c ∧ Sat r Q := by
  by_cases e : c
  · rw [if_pos e]; exact ⟨fun s => ⟨e, s⟩, fun s => s.2⟩
  · rw [if_neg e]; exact ⟨fun s => (sat_bad.mp s).elim, fun s => absurd s.1 e⟩
theorem sat_of {o : Option α} : Sat (R.of o h) Q ↔ ∃ a, o = some a ∧ Q a h := by
  cases o with
  | none => exact ⟨fun s => (sat_bad.mp s).elim, fun ⟨_, e, _⟩ => nomatch e⟩
  | some a => exact ⟨fun s => ⟨a, rfl, sat_ok.mp s⟩, fun ⟨b, e, q⟩ => by cases e; exact sat_ok.mpr q⟩
@[simp] theorem sat_some {a : α} : Sat (R.of (some a) h) Q ↔ Q a h := sat_ok
theorem Sat.eq {r : R α} {a : α} {h : Hs} (s : Sat r fun b h' => b = a ∧ h' = h) : r = .ok a h := by
  obtain ⟨_, _, e, rfl, rfl⟩ := s; exact e
end
section
variable {cf : Str → List PV → Hs → R PV} {k : Nat} {σ : Sg} {h : Hs} {Q : PV → Hs → Prop} {Qs : List PV → Hs → Prop} {Qb : Bool → Hs → Prop} {Qi : It → Hs → Prop} {Qo : Option Int → Hs → Prop} {Qf : Fl × Sg → Hs → Prop}
@[simp] theorem v_loc {i : Nat} : Sat ((den cf k (.loc i)).e σ h) Q ↔ ∃ v, σ[i]? = some (some v) ∧ Q v h := by
  show Sat (match σ[i]? with
    | some (some v) => .ok v h
    | _ => .bad) Q ↔ _
  cases e : σ[i]? with
  | none => exact ⟨fun s => (sat_bad.mp s).elim, fun ⟨v, e2, _⟩ => by cases e2⟩
  | some o =>
    cases o with
    | none => exact ⟨fun s => (sat_bad.mp s).elim, fun ⟨v, e2, _⟩ => by cases e2⟩
    | some v => exact ⟨fun s => ⟨v, rfl, sat_ok.mp s⟩, fun ⟨w, e2, q⟩ => by cases e2; exact sat_ok.mpr q⟩
@[simp] theorem v_lit {x : PyData} : Sat ((den cf k (.lit x)).e σ h) Q ↔ Q (.d x) h := sat_ok
@[simp] theorem v_bin {o : BO} {a b : E} : Sat ((den cf k (.bin o a b)).e σ h) Q ↔ Sat ((den cf k a).e σ h) fun x h1 => Sat ((den cf k b).e σ h1) fun y h2 => Sat (binop o x y h2) Q := by
  show Sat (R.bind _ _) Q ↔ _
  simp only [sat_bind]
@[simp] theorem v_neg {a : E} : Sat ((den cf k (.neg a)).e σ h) Q ↔ Sat ((den cf k a).e σ h) fun x h1 => Sat (negv x h1) Q := by
  show Sat (R.bind _ _) Q ↔ _
  simp only [sat_bind]
@[simp] theorem v_tOf {a : E} {Qb : Bool → Hs → Prop} : Sat (tOf (den cf k a).e σ h) Qb ↔ Sat ((den cf k a).e σ h) fun x h1 => ∃ b, tru h1 x = some b ∧ Qb b h1 := by
  show Sat (R.bind _ _) Qb ↔ _
  simp only [sat_bind, sat_of]
@[simp] theorem v_not {a : E} : Sat ((den cf k (.not a)).e σ h) Q ↔ Sat (tOf (den cf k a).e σ h) fun b h1 => Q (.d (.bool (!b))) h1 := by
  show Sat (R.bind _ _) Q ↔ _
  simp only [sat_bind, sat_ok]
@[simp] theorem v_and {a b : E} : Sat ((den cf k (.and a b)).e σ h) Q ↔ Sat ((den cf k a).e σ h) fun x h1 => ∃ c, tru h1 x = some c ∧ (match c with
    | true => Sat ((den cf k b).e σ h1) Q
    | false => Q x h1) := by
  show Sat (R.bind _ _) Q ↔ _
  simp only [sat_bind, sat_of]
  constructor <;> refine fun s => s.mono fun x h1 ⟨c, e, q⟩ => ⟨c, e, ?_⟩ <;> cases c
  · exact sat_ok.mp q
  · exact q
  · exact sat_ok.mpr q
  · exact q
@[simp] theorem v_or {a b : E} : Sat ((den cf k (.or a b)).e σ h) Q ↔ Sat ((den cf k a).e σ h) fun x h1 => ∃ c, tru h1 x = some c ∧ (match c with
    | true => Q x h1
    | false => Sat ((den cf k b).e σ h1) Q) := by
  show Sat (R.bind _ _) Q ↔ _
  simp only [sat_bind, sat_of]
  constructor <;> refine fun s => s.mono fun x h1 ⟨c, e, q⟩ => ⟨c, e, ?_⟩ <;> cases c
  · exact q
  · exact sat_ok.mp q
  · exact q
  · exact sat_ok.mpr q
@[simp] theorem v_cmp {o : CO} {a b : E} : Sat ((den cf k (.cmp o a b)).e σ h) Q ↔ Sat ((den cf k a).e σ h) fun x h1 => Sat ((den cf k b).e σ h1) fun y h2 => ∃ c, cmpop o x y h2 = some c ∧ Q (.d (.bool c)) h2 := by
  show Sat (R.bind _ _) Q ↔ _
  simp only [sat_bind, sat_of, Option.map_eq_some_iff]
  constructor <;> refine fun s => s.mono fun x h1 s => s.mono fun y h2 q => ?_
  · obtain ⟨_, ⟨c, e, rfl⟩, q⟩ := q
    exact ⟨c, e, q⟩
  · obtain ⟨c, e, q⟩ := q
    exact ⟨_, ⟨c, e, rfl⟩, q⟩
@[simp] theorem v_chain {o p : CO} {a b c : E} : Sat ((den cf k (.chain o p a b c)).e σ h) Q ↔ Sat ((den cf k a).e σ h) fun x h1 => Sat ((den cf k b).e σ h1) fun y h2 => ∃ t, cmpop o x y h2 = some t ∧ (match t with
    | true => Sat ((den cf k c).e σ h2) fun z h4 => ∃ t, cmpop p y z h4 = some t ∧ Q (.d (.bool t)) h4
    | false => Q (.d (.bool false)) h2) := by
  show Sat (R.bind _ _) Q ↔ _
  simp only [sat_bind, sat_of]
  constructor <;> refine fun s => s.mono fun x h1 s => s.mono fun y h2 ⟨t, e, q⟩ => ⟨t, e, ?_⟩ <;> cases t
  · exact sat_ok.mp q
  · refine (sat_bind.mp q).mono fun z h4 s => ?_
    obtain ⟨_, e, q⟩ := sat_of.mp s
    obtain ⟨t, e2, rfl⟩ := Option.map_eq_some_iff.mp e
    exact ⟨t, e2, q⟩
  · exact sat_ok.mpr q
  · exact sat_bind.mpr (Sat.mono q fun z h4 ⟨t, e, q⟩ => sat_of.mpr ⟨_, Option.map_eq_some_iff.mpr ⟨t, e, rfl⟩, q⟩)
@[simp] theorem v_isNon {a : E} : Sat ((den cf k (.isNon a)).e σ h) Q ↔ Sat ((den cf k a).e σ h) fun x h1 => Q (.d (.bool (isNonV x))) h1 := by
  show Sat (R.bind _ _) Q ↔ _
  simp only [sat_bind, sat_ok]
@[simp] theorem v_notNon {a : E} : Sat ((den cf k (.notNon a)).e σ h) Q ↔ Sat ((den cf k a).e σ h) fun x h1 => Q (.d (.bool (!isNonV x))) h1 := by
  show Sat (R.bind _ _) Q ↔ _
  simp only [sat_bind, sat_ok]
@[simp] theorem v_ite {c a b : E} : Sat ((den cf k (.ite c a b)).e σ h) Q ↔ Sat (tOf (den cf k c).e σ h) fun t h1 => match t with
    | true => Sat ((den cf k a).e σ h1) Q
    | false => Sat ((den cf k b).e σ h1) Q := by
  show Sat (R.bind _ _) Q ↔ _
  simp only [sat_bind]
  constructor <;> refine fun s => s.mono fun t h1 q => ?_ <;> cases t <;> exact q
@[simp] theorem a_nil' : Sat ((den cf k .nil).a σ h) Qs ↔ Qs [] h := sat_ok
@[simp] theorem a_cons' {a b : E} : Sat ((den cf k (.cons a b)).a σ h) Qs ↔ Sat ((den cf k a).e σ h) fun x h1 => Sat ((den cf k b).a σ h1) fun xs h2 => Qs (x :: xs) h2 := by
  show Sat (R.bind _ _) Qs ↔ _
  simp only [sat_bind, sat_ok]
@[simp] theorem v_tup {as : E} : Sat ((den cf k (.tup as)).e σ h) Q ↔ Sat ((den cf k as).a σ h) fun xs h1 => Sat (tupOf xs h1) Q := by
  show Sat (R.bind _ _) Q ↔ _
  simp only [sat_bind]
@[simp] theorem v_lst {mt : Bool} {as : E} : Sat ((den cf k (.lst mt as)).e σ h) Q ↔ Sat ((den cf k as).a σ h) fun xs h1 => Sat (lstOf mt xs h1) Q := by
  show Sat (R.bind _ _) Q ↔ _
  simp only [sat_bind]
@[simp] theorem v_isi {a : E} {T : String} : Sat ((den cf k (.isi a T)).e σ h) Q ↔ Sat ((den cf k a).e σ h) fun x h1 => ∃ b, isiT h1 T x = some b ∧ Q (.d (.bool b)) h1 := by
  show Sat (R.bind _ _) Q ↔ _
  simp only [sat_bind, sat_of, Option.map_eq_some_iff]
  constructor <;> refine fun s => s.mono fun x h1 q => ?_
  · obtain ⟨_, ⟨c, e, rfl⟩, q⟩ := q
    exact ⟨c, e, q⟩
  · obtain ⟨c, e, q⟩ := q
    exact ⟨_, ⟨c, e, rfl⟩, q⟩
@[simp] theorem callEv1 {g : List PV → Hs → R PV} {x : PyData} : callEv g [.d x] h = match g [.d x] [] with
    | .ok (.d y) _ => .ok (.d y) h
    | _ => .bad := rfl
@[simp] theorem callEv2 {g : List PV → Hs → R PV} {x y : PyData} : callEv g [.d x, .d y] h = match g [.d x, .d y] [] with
    | .ok (.d y) _ => .ok (.d y) h
    | _ => .bad := rfl
@[simp] theorem callEv3 {g : List PV → Hs → R PV} {x y z : PyData} : callEv g [.d x, .d y, .d z] h = match g [.d x, .d y, .d z] [] with
    | .ok (.d y) _ => .ok (.d y) h
    | _ => .bad := rfl
@[simp] theorem v_callE {f : Str} {as : E} : Sat ((den cf k (.callE f as)).e σ h) Q ↔ Sat ((den cf k as).a σ h) fun xs h1 => Sat (callEv (cf f) xs h1) Q := by
  show Sat (R.bind _ _) Q ↔ _
  simp only [sat_bind]
@[simp] theorem v_call {f : Str} {as : E} : Sat ((den cf k (.call f as)).e σ h) Q ↔ Sat ((den cf k as).a σ h) fun xs h1 => Sat (cf f xs h1) Q := by
  show Sat (R.bind _ _) Q ↔ _
  simp only [sat_bind]
@[simp] theorem v_bi {b : Bi} {as : E} : Sat ((den cf k (.bi b as)).e σ h) Q ↔ Sat ((den cf k as).a σ h) fun xs h1 => Sat (biop b xs h1) Q := by
  show Sat (R.bind _ _) Q ↔ _
  simp only [sat_bind]
@[simp] theorem v_ix {a i : E} : Sat ((den cf k (.ix a i)).e σ h) Q ↔ Sat ((den cf k a).e σ h) fun x h1 => Sat ((den cf k i).e σ h1) fun y h2 => Sat (ixv x y h2) Q := by
  show Sat (R.bind _ _) Q ↔ _
  simp only [sat_bind]
@[simp] theorem v_lsR {tp mt : Bool} {a b : E} : Sat ((den cf k (.lsR tp mt a b)).e σ h) Q ↔ Sat ((den cf k a).e σ h) fun x h1 => Sat ((den cf k b).e σ h1) fun y h2 => Sat (rngv tp mt x y h2) Q := by
  show Sat (R.bind _ _) Q ↔ _
  simp only [sat_bind]
@[simp] theorem v_lz {a b : E} : Sat ((den cf k (.lz a b)).e σ h) Q ↔ Sat ((den cf k a).e σ h) fun x h1 => Sat ((den cf k b).e σ h1) fun y h2 => Sat (lzv x y h2) Q := by
  show Sat (R.bind _ _) Q ↔ _
  simp only [sat_bind]
@[simp] theorem v_rev {a : E} : Sat ((den cf k (.rev a)).e σ h) Q ↔ Sat ((den cf k a).e σ h) fun x h1 => Sat (revv x h1) Q := by
  show Sat (R.bind _ _) Q ↔ _
  simp only [sat_bind]
@[simp] theorem v_idx {o x : E} : Sat ((den cf k (.idx o x)).e σ h) Q ↔ Sat ((den cf k o).e σ h) fun l h1 => isFz l = true ∧ Sat ((den cf k x).e σ h1) fun y h2 => Sat (idxv l y h2) Q := by
  show Sat (R.bind _ _) Q ↔ _
  simp only [sat_bind, sat_if]
@[simp] theorem o_nop' : Sat ((den cf k .nop).o σ h) Qo ↔ Qo none h := sat_ok
@[simp] theorem o_prt {a : E} : Sat ((den cf k (.prt a)).o σ h) Qo ↔ Sat ((den cf k a).e σ h) fun x h1 => ∃ i, optI x = some i ∧ Qo i h1 := by
  show Sat (R.bind _ _) Qo ↔ _
  simp only [sat_bind, sat_of]
@[simp] theorem t_nop : Sat ((den cf k .nop).t σ h) Qb ↔ Qb true h := sat_ok
@[simp] theorem t_cnd {a : E} : Sat ((den cf k (.cnd a)).t σ h) Qb ↔ Sat (tOf (den cf k a).e σ h) Qb := Iff.rfl
@[simp] theorem v_sl {a lo hi : E} : Sat ((den cf k (.sl a lo hi)).e σ h) Q ↔ Sat ((den cf k a).e σ h) fun x h1 => Sat ((den cf k lo).o σ h1) fun l h2 => Sat ((den cf k hi).o σ h2) fun u h3 => Sat (slice x l u h3) Q := by
  show Sat (R.bind _ _) Q ↔ _
  simp only [sat_bind]
@[simp] theorem v_app {o x : E} : Sat ((den cf k (.app o x)).e σ h) Q ↔ Sat ((den cf k o).e σ h) fun l h1 => lstAt h1 l = true ∧ Sat ((den cf k x).e σ h1) fun y h2 => Sat (appv k l y h2) Q := by
  show Sat (R.bind _ _) Q ↔ _
  simp only [sat_bind, sat_if]
@[simp] theorem v_ext {o x : E} : Sat ((den cf k (.ext o x)).e σ h) Q ↔ Sat ((den cf k o).e σ h) fun l h1 => lstAt h1 l = true ∧ Sat ((den cf k x).e σ h1) fun y h2 => Sat (extv k l y h2) Q := by
  show Sat (R.bind _ _) Q ↔ _
  simp only [sat_bind, sat_if]
@[simp] theorem v_dnew {t : Bool} : Sat ((den cf k (.dnew t)).e σ h) Q ↔ Q (.ref h.length) (h ++ [cond t (.dT []) (.dK [])]) := sat_ok
@[simp] theorem v_comp {mt : Bool} {own : List Nat} {tg : Tg} {it cnd elt : E} : Sat ((den cf k (.comp mt own tg it cnd elt)).e σ h) Q ↔ Sat ((den cf k it).i σ h) fun J h1 => Sat (compGo (compSt own tg (den cf k cnd).t (den cf k elt).e σ) J h1) fun xs h2 => Sat (lstOf mt xs h2) Q := by
  show Sat (R.bind _ _) Q ↔ _
  simp only [sat_bind]
@[simp] theorem v_dcp {own : List Nat} {tg : Tg} {it cnd x y : E} : Sat ((den cf k (.dcp own tg it cnd x y)).e σ h) Q ↔ Sat ((den cf k it).i σ h) fun J h1 => Sat (compGo (compSt own tg (den cf k cnd).t (pairE (den cf k x).e (den cf k y).e) σ) J h1) fun xs h2 => Sat (dictT xs h2) Q := by
  show Sat (R.bind _ _) Q ↔ _
  simp only [sat_bind]
@[simp] theorem v_pair {x y : E} : Sat (pairE (den cf k x).e (den cf k y).e σ h) Q ↔ Sat ((den cf k x).e σ h) fun a h1 => Sat ((den cf k y).e σ h1) fun b h2 => Sat (pairv a b h2) Q := by
  show Sat (R.bind _ _) Q ↔ _
  simp only [sat_bind]
@[simp] theorem i_iVal {e : E} : Sat ((den cf k (.iVal e)).i σ h) Qi ↔ Sat ((den cf k e).e σ h) fun x h1 => Sat (itVal x h1) Qi := by
  show Sat (R.bind _ _) Qi ↔ _
  simp only [sat_bind]
@[simp] theorem i_iR1 {e : E} : Sat ((den cf k (.iR1 e)).i σ h) Qi ↔ Sat ((den cf k e).e σ h) fun x h1 => Sat (itR1 x h1) Qi := by
  show Sat (R.bind _ _) Qi ↔ _
  simp only [sat_bind]
@[simp] theorem i_iR2 {a b : E} : Sat ((den cf k (.iR2 a b)).i σ h) Qi ↔ Sat ((den cf k a).e σ h) fun x h1 => Sat ((den cf k b).e σ h1) fun y h2 => Sat (itR2 x y h2) Qi := by
  show Sat (R.bind _ _) Qi ↔ _
  simp only [sat_bind]
@[simp] theorem i_iZip {a b : E} : Sat ((den cf k (.iZip a b)).i σ h) Qi ↔ Sat ((den cf k a).e σ h) fun x h1 => Sat ((den cf k b).e σ h1) fun y h2 => Sat (itZip x y h2) Qi := by
  show Sat (R.bind _ _) Qi ↔ _
  simp only [sat_bind]
@[simp] theorem i_iEnu {e : E} : Sat ((den cf k (.iEnu e)).i σ h) Qi ↔ Sat ((den cf k e).e σ h) fun x h1 => Sat (itEnu x h1) Qi := by
  show Sat (R.bind _ _) Qi ↔ _
  simp only [sat_bind]
/-! statements -/
@[simp] theorem s_skip : Sat (evS cf k .skip σ h) Qf ↔ Qf (.nx, σ) h := sat_ok
@[simp] theorem s_seq {a b : S} : Sat (evS cf k (.seq a b) σ h) Qf ↔ Sat (evS cf k a σ h) fun p h1 => match p.1 with
    | .nx => Sat (evS cf k b p.2 h1) Qf
    | f => Qf (f, p.2) h1 := by
  show Sat (R.bind _ _) Qf ↔ _
  simp only [sat_bind]
  constructor <;> refine fun s => s.mono fun p h1 q => ?_ <;> obtain ⟨f, σ'⟩ := p <;> cases f
  · exact q
  · exact sat_ok.mp q
  · exact sat_ok.mp q
  · exact sat_ok.mp q
  · exact q
  · exact sat_ok.mpr q
  · exact sat_ok.mpr q
  · exact sat_ok.mpr q
@[simp] theorem s_asg' {t : Tg} {e : E} : Sat (evS cf k (.asg t e) σ h) Qf ↔ Sat ((den cf k e).e σ h) fun v h1 => ∃ σ1, asg t v σ = some σ1 ∧ Qf (.nx, σ1) h1 := by
  show Sat (R.bind _ _) Qf ↔ _
  simp only [sat_bind, sat_of, Option.map_eq_some_iff]
  constructor <;> refine fun s => s.mono fun x h1 q => ?_
  · obtain ⟨_, ⟨c, e, rfl⟩, q⟩ := q
    exact ⟨c, e, q⟩
  · obtain ⟨c, e, q⟩ := q
    exact ⟨_, ⟨c, e, rfl⟩, q⟩
@[simp] theorem s_par {is : List Nat} {as : E} : Sat (evS cf k (.par is as) σ h) Qf ↔ Sat ((den cf k as).a σ h) fun vs h1 => ∃ σ1, setAll σ is vs = some σ1 ∧ Qf (.nx, σ1) h1 := by
  show Sat (R.bind _ _) Qf ↔ _
  simp only [sat_bind, sat_of, Option.map_eq_some_iff]
  constructor <;> refine fun s => s.mono fun x h1 q => ?_
  · obtain ⟨_, ⟨c, e, rfl⟩, q⟩ := q
    exact ⟨c, e, q⟩
  · obtain ⟨c, e, q⟩ := q
    exact ⟨_, ⟨c, e, rfl⟩, q⟩
@[simp] theorem s_sub' {o i v : E} : Sat (evS cf k (.sub o i v) σ h) Qf ↔ Sat ((den cf k v).e σ h) fun z h1 => Sat ((den cf k o).e σ h1) fun x h2 => Sat ((den cf k i).e σ h2) fun y h3 => Sat (setv k x y z h3) fun _ h4 => Qf (.nx, σ) h4 := by
  show Sat (R.bind _ _) Qf ↔ _
  simp only [sat_bind, sat_ok]
@[simp] theorem s_ex' {e : E} : Sat (evS cf k (.ex e) σ h) Qf ↔ Sat ((den cf k e).e σ h) fun _ h1 => Qf (.nx, σ) h1 := by
  show Sat (R.bind _ _) Qf ↔ _
  simp only [sat_bind, sat_ok]
@[simp] theorem s_ret' {e : E} : Sat (evS cf k (.ret e) σ h) Qf ↔ Sat ((den cf k e).e σ h) fun v h1 => Qf (.rt v, σ) h1 := by
  show Sat (R.bind _ _) Qf ↔ _
  simp only [sat_bind, sat_ok]
@[simp] theorem s_ife {c : E} {a b : S} : Sat (evS cf k (.ife c a b) σ h) Qf ↔ Sat (tOf (den cf k c).e σ h) fun t h1 => match t with
    | true => Sat (evS cf k a σ h1) Qf
    | false => Sat (evS cf k b σ h1) Qf := by
  show Sat (R.bind _ _) Qf ↔ _
  simp only [sat_bind]
  constructor <;> refine fun s => s.mono fun t h1 q => ?_ <;> cases t <;> exact q
@[simp] theorem s_for' {t : Tg} {it : E} {b : S} : Sat (evS cf k (.for_ t it b) σ h) Qf ↔ Sat ((den cf k it).i σ h) fun J h1 => match J with
    | .fx xs => Sat (forF t (evS cf k b) xs σ h1) Qf
    | .lv n => Sat (forV t (evS cf k b) n big 0 σ h1) Qf
    | .ld n => Sat (forL t (evS cf k b) n big 0 σ h1) Qf := by
  show Sat (R.bind _ _) Qf ↔ _
  simp only [sat_bind]
  constructor <;> refine fun s => s.mono fun t h1 q => ?_ <;> cases t <;> exact q
end
end Iw
end

section
set_option Elab.async false
set_option linter.all false
set_option maxRecDepth 100000
/-! the plain side: calls, loops, primitive operations -/
namespace Iw
open PySem L2
section
variable {P : Pg} {h : Hs} {Q : PV → Hs → Prop}
/-- what a body's end is worth, of a call that freezes what it hands back -/
def endQ (k : Nat) (Q : PV → Hs → Prop) (p : Fl × Sg) (h' : Hs) : Prop := match p.1 with
  | .rt v => ∃ w, handed h' k v = some w ∧ Q w (h'.take k)
  | .nx => Q (.d .none) (h'.take k)
  | _ => False
theorem call0 {f : Str} {a b n : Nat} {s : S} {vs : List PV} (hl : P.lookup f = some ⟨a, b, false, s⟩) (hn : vs.length = a) : Sat (callN P (n + 1) f vs h) Q ↔ Sat (evS (callN P n) h.length s (vs.map some ++ List.replicate (b - vs.length) none) h) (endQ h.length Q) := by
  have e : callN P (n + 1) f vs h = fin false h.length (evS (callN P n) h.length s (vs.map some ++ List.replicate (b - vs.length) none) h) := by
    show (match P.lookup f with
      | none => (R.bad : R PV)
      | some fd => if vs.length = fd.np then fin fd.kp h.length (evS (callN P n) h.length fd.body (vs.map some ++ List.replicate (fd.ns - vs.length) none) h) else .bad) = _
    rw [hl]
    exact if_pos hn
  rw [e]
  generalize evS (callN P n) h.length s (vs.map some ++ List.replicate (b - vs.length) none) h = r
  cases r with
  | ok p h' =>
    obtain ⟨fl, σ⟩ := p
    cases fl with
    | rt v =>
      show Sat (R.of (handed h' h.length v) (h'.take h.length)) Q ↔ _
      rw [sat_of, sat_ok]
      rfl
    | nx => rw [sat_ok]; exact sat_ok
    | bk => rw [sat_ok]; exact sat_bad
    | ct => rw [sat_ok]; exact sat_bad
  | exc _ _ => exact ⟨fun ⟨_, _, e, _⟩ => (nomatch e), fun ⟨_, _, e, _⟩ => (nomatch e)⟩
  | bad => exact ⟨fun ⟨_, _, e, _⟩ => (nomatch e), fun ⟨_, _, e, _⟩ => (nomatch e)⟩
@[simp] theorem endQ_rt {k : Nat} {v : PV} {σ : Sg} : endQ k Q (.rt v, σ) h ↔ ∃ w, handed h k v = some w ∧ Q w (h.take k) := Iff.rfl
@[simp] theorem endQ_nx {k : Nat} {σ : Sg} : endQ k Q (.nx, σ) h ↔ Q (.d .none) (h.take k) := Iff.rfl
@[simp] theorem handed_d {k : Nat} {x : PyData} : handed h k (.d x) = some (.d x) := rfl
@[simp] theorem tru_bool {b : Bool} : tru h (.d (.bool b)) = some b := rfl
@[simp] theorem tru_int {i : Int} : tru h (.d (.int i)) = some (i != 0) := rfl
@[simp] theorem b_add {i j : Int} : binop .add (.d (.int i)) (.d (.int j)) h = .ok (.d (.int (i + j))) h := rfl
@[simp] theorem b_sub {i j : Int} : binop .sub (.d (.int i)) (.d (.int j)) h = .ok (.d (.int (i - j))) h := rfl
@[simp] theorem b_mul {i j : Int} : Sat (binop .mul (.d (.int i)) (.d (.int j)) h) Q ↔ mulOk i j = true ∧ Q (.d (.int (i * j))) h := by
  show Sat (if mulOk i j = true then _ else _) Q ↔ _
  rw [sat_if, sat_ok]
@[simp] theorem b_fdv {i j : Int} : Sat (binop .fdv (.d (.int i)) (.d (.int j)) h) Q ↔ (j ≠ 0 ∧ j.natAbs < 18446744073709551616) ∧ Q (.d (.int (i.fdiv j))) h := by
  show Sat (if j ≠ 0 ∧ j.natAbs < 18446744073709551616 then _ else _) Q ↔ _
  rw [sat_if, sat_ok]
@[simp] theorem b_mod {i j : Int} : Sat (binop .mod (.d (.int i)) (.d (.int j)) h) Q ↔ j ≠ 0 ∧ Q (.d (.int (i.fmod j))) h := by
  show Sat (if j ≠ 0 then _ else _) Q ↔ _
  rw [sat_if, sat_ok]
@[simp] theorem b_pow {i j : Int} : Sat (binop .pow (.d (.int i)) (.d (.int j)) h) Q ↔ (0 ≤ j ∧ j ≤ 1000000 ∧ i.natAbs < 2 ^ 64) ∧ Q (.d (.int (i ^ j.toNat))) h := by
  show Sat (if 0 ≤ j ∧ j ≤ 1000000 ∧ i.natAbs < 2 ^ 64 then _ else _) Q ↔ _
  rw [sat_if, sat_ok]
@[simp] theorem b_addT {xs ys : List PyData} : Sat (binop .add (.d (.tuple xs)) (.d (.tuple ys)) h) Q ↔ xs.length + ys.length ≤ line ∧ Q (.d (.tuple (xs ++ ys))) h := by
  show Sat (if xs.length + ys.length ≤ line then _ else _) Q ↔ _
  rw [sat_if, sat_ok]
@[simp] theorem eqOk_int {i j : Int} : eqOk (.int i) (.int j) = true := rfl
@[simp] theorem eqOk_str {i j : Str} : eqOk (.str i) (.str j) = true := rfl
theorem toks_int (i : Int) : PySem.W.keyToks (.int i) = [.inl i] := rfl
theorem lt_int' (i j : Int) : PySem.W.dataLt (.int i) (.int j) = decide (i < j) := by
  exact PySem.W.dataLt_int i j
theorem ltOk_int {i j : Int} : ltOk (.int i) (.int j) = true := rfl
theorem cmp_d {o : CO} {x y : PyData} (ho : o ≠ .isin ∧ o ≠ .nin ∧ o ≠ .is ∧ o ≠ .isn) : cmpop o (.d x) (.d y) h = (match o with
      | .eq => if eqOk x y = true then some (PyData.eqv x y) else none
      | .ne => if eqOk x y = true then some (!PyData.eqv x y) else none
      | .lt => if ltOk x y = true then some (PySem.W.dataLt x y) else none
      | .gt => if ltOk x y = true then some (PySem.W.dataLt y x) else none
      | .le => if ltOk x y = true then some (!PySem.W.dataLt y x) else none
      | .ge => if ltOk x y = true then some (!PySem.W.dataLt x y) else none
      | _ => none) := by
  cases o <;> first | rfl | exact absurd rfl ho.1 | exact absurd rfl ho.2.1 | exact absurd rfl ho.2.2.1 | exact absurd rfl ho.2.2.2
@[simp] theorem c_lt {i j : Int} : cmpop .lt (.d (.int i)) (.d (.int j)) h = some (decide (i < j)) := by rw [cmp_d (by decide)]; simp only [ltOk_int, if_true, lt_int']
@[simp] theorem c_gt {i j : Int} : cmpop .gt (.d (.int i)) (.d (.int j)) h = some (decide (j < i)) := by rw [cmp_d (by decide)]; simp only [ltOk_int, if_true, lt_int']
@[simp] theorem c_le {i j : Int} : cmpop .le (.d (.int i)) (.d (.int j)) h = some (decide (i ≤ j)) := by
  rw [cmp_d (by decide)]; simp only [ltOk_int, if_true, lt_int']
  rw [← decide_not]; congr 2; exact propext Int.not_lt
@[simp] theorem c_ge {i j : Int} : cmpop .ge (.d (.int i)) (.d (.int j)) h = some (decide (j ≤ i)) := by
  rw [cmp_d (by decide)]; simp only [ltOk_int, if_true, lt_int']
  rw [← decide_not]; congr 2; exact propext Int.not_lt
@[simp] theorem c_eq {i j : Int} : cmpop .eq (.d (.int i)) (.d (.int j)) h = some (decide (i = j)) := by
  rw [cmp_d (by decide)]; simp only [eqOk_int, if_true]; rfl
@[simp] theorem c_eqS {i j : Str} : cmpop .eq (.d (.str i)) (.d (.str j)) h = some (i == j) := by
  rw [cmp_d (by decide)]; simp only [eqOk_str, if_true]; rfl
@[simp] theorem c_ne {i j : Int} : cmpop .ne (.d (.int i)) (.d (.int j)) h = some (!decide (i = j)) := by
  rw [cmp_d (by decide)]; simp only [eqOk_int, if_true]; rfl
@[simp] theorem isi_int {x : PyData} : isiT h "int" (.d x) = some x.isInt := rfl
@[simp] theorem isi_bool {x : PyData} : isiT h "bool" (.d x) = some x.isBool := rfl
@[simp] theorem isi_str {x : PyData} : isiT h "str" (.d x) = some x.isStr := rfl
@[simp] theorem isi_tuple {x : PyData} : isiT h "tuple" (.d x) = some x.isTuple := rfl
@[simp] theorem isi_list {x : PyData} : isiT h "list" (.d x) = some x.isList := rfl
@[simp] theorem bi_len {v : PV} : Sat (biop .len [v] h) Q ↔ ∃ n : Nat, lenOf h v = some n ∧ Q (.d (.int n)) h := by
  show Sat (R.of ((lenOf h v).map fun n : Nat => int n) h) Q ↔ _
  simp only [sat_of, Option.map_eq_some_iff]
  exact ⟨fun ⟨_, ⟨n, e, e2⟩, q⟩ => by subst e2; exact ⟨n, e, q⟩, fun ⟨n, e, q⟩ => ⟨_, ⟨n, e, rfl⟩, q⟩⟩
@[simp] theorem len_tuple {xs : List PyData} : lenOf h (.d (.tuple xs)) = some xs.length := rfl
@[simp] theorem len_scr {xs : List Int} : lenOf h (.scr xs) = some xs.length := rfl
@[simp] theorem bi_all {v : PV} : Sat (biop .all [v] h) Q ↔ ∃ bs, (getL h v).bind bools = some bs ∧ Q (.d (.bool (bs.all id))) h := by
  show Sat (R.of (((getL h v).bind bools).map fun bs => bool (bs.all id)) h) Q ↔ _
  simp only [sat_of, Option.map_eq_some_iff]
  exact ⟨fun ⟨_, ⟨n, e, e2⟩, q⟩ => by subst e2; exact ⟨n, e, q⟩, fun ⟨n, e, q⟩ => ⟨_, ⟨n, e, rfl⟩, q⟩⟩
@[simp] theorem bi_max2 {i j : Int} : biop .max2 [.d (.int i), .d (.int j)] h = .ok (.d (.int (if j > i then j else i))) h := rfl
@[simp] theorem bi_min2 {i j : Int} : biop .min2 [.d (.int i), .d (.int j)] h = .ok (.d (.int (if j < i then j else i))) h := rfl
@[simp] theorem bi_int1b {b : Bool} : biop .int1 [.d (.bool b)] h = .ok (.d (.int (cond b 1 0))) h := rfl
end
end Iw
end

section
set_option Elab.async false
set_option linter.all false
set_option maxRecDepth 100000
/-! the plain side: comprehensions, loops, lists -/
namespace Iw
open PySem L2
section
variable {α : Type} {h : Hs} {Q : PV → Hs → Prop} {Ql : List PV → Hs → Prop} {Qo : Option PV → Hs → Prop} {Qf : Fl × Sg → Hs → Prop} {Qi : It → Hs → Prop}
@[simp] theorem sat_compSt {own : List Nat} {t : Tg} {C : Sg → Hs → R Bool} {L : Sg → Hs → R PV} {σ : Sg} {x : PV} : Sat (compSt own t C L σ x h) Qo ↔ ∃ σ1, asg t x (wipe σ own) = some σ1 ∧ Sat (C σ1 h) fun b h3 => match b with
    | true => Sat (L σ1 h3) fun y h4 => Qo (some y) h4
    | false => Qo none h3 := by
  unfold compSt
  cases e : asg t x (wipe σ own) with
  | none => exact ⟨fun s => (sat_bad.mp s).elim, fun ⟨_, e, _⟩ => nomatch e⟩
  | some σ1 =>
    dsimp only
    rw [sat_bind]
    constructor
    · intro s
      refine ⟨σ1, rfl, s.mono fun b h3 q => ?_⟩
      cases b with
      | true => exact (sat_bind.mp q).mono fun y h4 q => sat_ok.mp q
      | false => exact sat_ok.mp q
    · intro ⟨_, e, s⟩
      cases e
      refine s.mono fun b h3 q => ?_
      cases b with
      | true => exact sat_bind.mpr (Sat.mono q fun y h4 q => sat_ok.mpr q)
      | false => exact sat_ok.mpr q
theorem compF_eq {st : PV → Hs → R (Option PV)} {g : PV → Option PV} : ∀ {xs : List PV}, (∀ x ∈ xs, Sat (st x h) fun o h' => o = g x ∧ h' = h) → compF st xs h = .ok (xs.filterMap g) h
  | [], _ => rfl
  | x :: xs, hs => by
    obtain ⟨o, h', e, eo, eh⟩ := hs x List.mem_cons_self
    rw [eo, eh] at e
    unfold compF
    rw [e]
    show R.bind (compF st xs h) _ = _
    rw [compF_eq (xs := xs) fun y hy => hs y (List.mem_cons_of_mem _ hy)]
    rw [List.filterMap_cons]
    cases g x <;> rfl
/-- a comprehension that leaves the store as it is -/
theorem sat_filt {st : PV → Hs → R (Option PV)} (g : PV → Option PV) {xs : List PV} (hs : ∀ x ∈ xs, Sat (st x h) fun o h' => o = g x ∧ h' = h) (q : Ql (xs.filterMap g) h) : Sat (compGo st (.fx xs) h) Ql := by
  refine ⟨_, h, ?_, q⟩
  show noExc (compF st xs h) = _
  rw [compF_eq hs]
  rfl
theorem sat_map {st : PV → Hs → R (Option PV)} (g : PV → PV) {xs : List PV} (hs : ∀ x ∈ xs, Sat (st x h) fun o h' => o = some (g x) ∧ h' = h) (q : Ql (xs.map g) h) : Sat (compGo st (.fx xs) h) Ql :=
  sat_filt (fun x => some (g x)) hs (by rw [List.filterMap_eq_map']; exact q)
@[simp] theorem datas_map' : ∀ ds : List PyData, datas (ds.map PV.d) = some ds
  | [] => rfl
  | d :: ds => by show (datas (ds.map PV.d)).map _ = _; rw [datas_map' ds]; rfl
theorem sat_lstF {ds : List PyData} {xs : List PV} (e : xs = ds.map PV.d) : Sat (lstOf false xs h) Q ↔ ds.length ≤ line ∧ Q (.d (.list ds)) h := by
  subst e
  show Sat (if (ds.map PV.d).length ≤ line then mkL false (ds.map PV.d) h else .bad) Q ↔ _
  rw [sat_if, List.length_map]
  show (_ ∧ Sat (R.of ((datas (ds.map PV.d)).map fun ds => PV.d (.list ds)) h) Q) ↔ _
  rw [datas_map']
  exact and_congr_right fun _ => sat_ok
@[simp] theorem sat_lstT {xs : List PV} : Sat (lstOf true xs h) Q ↔ xs.length ≤ line ∧ Q (.ref h.length) (h ++ [.lst xs]) := by
  show Sat (if xs.length ≤ line then mkL true xs h else .bad) Q ↔ _
  rw [sat_if]
  exact and_congr_right fun _ => sat_ok
@[simp] theorem getL_d {ds : List PyData} : getL h (.d (.list ds)) = some (ds.map .d) := rfl
theorem bools_all {α : Type} {xs : List α} : bools ((xs.map fun _ => PyData.bool true).map PV.d) = some (xs.map fun _ => true) := by
  induction xs with
  | nil => rfl
  | cons x xs ih => show (bools ((xs.map fun _ => PyData.bool true).map PV.d)).map _ = _; rw [ih]; rfl
/-- all of a comprehension, each of which is true -/
theorem sat_all {st : PV → Hs → R (Option PV)} {xs : List PV} {F : List Bool → Hs → Prop} (hl : xs.length ≤ line) (hs : ∀ x ∈ xs, Sat (st x h) fun o h' => o = some (.d (.bool true)) ∧ h' = h) (q : ∀ bs, bs.all id = true → false ∉ bs → F bs h) :
    Sat (compGo st (.fx xs) h) fun ys h2 => Sat (lstOf false ys h2) fun v h3 => ∃ bs, (getL h3 v).bind bools = some bs ∧ F bs h3 := by
  refine sat_map (fun _ => .d (.bool true)) hs ?_
  rw [sat_lstF (ds := xs.map fun _ => PyData.bool true) (by rw [List.map_map]; rfl), List.length_map]
  refine ⟨hl, xs.map fun _ => true, ?_, q _ ?_ (by simp)⟩
  · rw [getL_d]; exact bools_all
  · induction xs <;> simp_all
@[simp] theorem it_tuple {ds : List PyData} : itVal (.d (.tuple ds)) h = .ok (.fx (ds.map .d)) h := rfl
@[simp] theorem it_list {ds : List PyData} : itVal (.d (.list ds)) h = .ok (.fx (ds.map .d)) h := rfl
@[simp] theorem it_r1 {j : Int} : Sat (itR1 (.d (.int j)) h) Qi ↔ (-line ≤ j ∧ j ≤ line) ∧ Qi (.fx (rngL 0 j.toNat)) h := by
  show Sat (if -line ≤ j ∧ j ≤ line then _ else _) Qi ↔ _
  rw [sat_if, sat_ok]
@[simp] theorem it_r2 {i j : Int} : Sat (itR2 (.d (.int i)) (.d (.int j)) h) Qi ↔ (-line ≤ i ∧ i ≤ line ∧ -line ≤ j ∧ j ≤ line) ∧ Qi (.fx (rngL i (j - i).toNat)) h := by
  show Sat (if -line ≤ i ∧ i ≤ line ∧ -line ≤ j ∧ j ≤ line then _ else _) Qi ↔ _
  rw [sat_if, sat_ok]
@[simp] theorem it_zipT {xs ys : List PyData} : itZip (.d (.tuple xs)) (.d (.tuple ys)) h = .ok (.fx (pairs xs ys)) h := rfl
@[simp] theorem it_zipL {xs ys : List PyData} : itZip (.d (.list xs)) (.d (.list ys)) h = .ok (.fx (pairs xs ys)) h := rfl
@[simp] theorem it_enT {xs : List PyData} : itEnu (.d (.tuple xs)) h = .ok (.fx (enums 0 xs)) h := rfl
@[simp] theorem ix_d {x y : PyData} : ixv (.d x) (.d y) h = ixv1 (.d x) (.d y) h := rfl
@[simp] theorem ix1_tup {xs : List PyData} {i : Int} : Sat (ixv1 (.d (.tuple xs)) (.d (.int i)) h) Q ↔ ∃ d, atI xs i = some d ∧ Q (.d d) h := by
  show Sat (R.of ((atI xs i).map PV.d) h) Q ↔ _
  rw [sat_of]
  simp only [Option.map_eq_some_iff]
  exact ⟨fun ⟨_, ⟨d, e, e2⟩, q⟩ => by subst e2; exact ⟨d, e, q⟩, fun ⟨d, e, q⟩ => ⟨_, ⟨d, e, rfl⟩, q⟩⟩
@[simp] theorem ix1_lst {xs : List PyData} {i : Int} : Sat (ixv1 (.d (.list xs)) (.d (.int i)) h) Q ↔ ∃ d, atI xs i = some d ∧ Q (.d d) h := by
  show Sat (R.of ((some (xs.map PV.d)).bind fun xs => atI xs i) h) Q ↔ _
  rw [sat_of]
  have e : ((some (xs.map PV.d)).bind fun xs => atI xs i) = (atI xs i).map PV.d := by
    show atI (xs.map PV.d) i = _
    unfold atI
    rw [List.length_map]
    cases ixN xs.length i <;> simp
  rw [e]
  simp only [Option.map_eq_some_iff]
  exact ⟨fun ⟨_, ⟨d, e, e2⟩, q⟩ => by subst e2; exact ⟨d, e, q⟩, fun ⟨d, e, q⟩ => ⟨_, ⟨d, e, rfl⟩, q⟩⟩
@[simp] theorem ix_scr {xs : List Int} {i : Int} : Sat (ixv (.scr xs) (.d (.int i)) h) Q ↔ ∃ d, atI xs i = some d ∧ Q (.d (.int d)) h := by
  show Sat (R.of ((atI xs i).map int) h) Q ↔ _
  rw [sat_of]
  simp only [Option.map_eq_some_iff]
  exact ⟨fun ⟨_, ⟨d, e, e2⟩, q⟩ => by subst e2; exact ⟨d, e, q⟩, fun ⟨d, e, q⟩ => ⟨_, ⟨d, e, rfl⟩, q⟩⟩
theorem ix_ref {n : Nat} {xs : List PV} {i : Int} (e : h[n]? = some (.lst xs)) : Sat (ixv (.ref n) (.d (.int i)) h) Q ↔ ∃ v, atI xs i = some v ∧ Q v h := by
  have e1 : ixv (.ref n) (.d (.int i)) h = R.of (atI xs i) h := by
    show (match (match h[n]? with
      | some o => dgetO o (.int i)
      | none => none) with
      | some o => R.of o h
      | none => ixv1 (.ref n) (.d (.int i)) h) = _
    rw [e]
    show R.of ((match h[n]? with
      | some (.lst xs) => some xs
      | _ => none).bind fun xs => atI xs i) h = _
    rw [e]
    rfl
  rw [e1, sat_of]
@[simp] theorem sl_tup {xs : List PyData} {lo hi : Option Int} : slice (.d (.tuple xs)) lo hi h = .ok (.d (.tuple (cut xs lo hi))) h := rfl
theorem setv_ref {k n m : Nat} {xs : List PV} {i : Int} {z : PyData} {Qu : Unit → Hs → Prop} (e : h[n]? = some (.lst xs)) (hm : ixN xs.length i = some m) : Sat (setv k (.ref n) (.d (.int i)) (.d z) h) Qu ↔ Qu () (h.set n (.lst (xs.set m (.d z)))) := by
  have e1 : setv k (.ref n) (.d (.int i)) (.d z) h = .ok () (h.set n (.lst (xs.set m (.d z)))) := by
    unfold setv
    dsimp only
    rw [e]
    dsimp only
    rw [hm]
    rfl
  rw [e1, sat_ok]
theorem sat_tup {ds : List PyData} {xs : List PV} (e : xs = ds.map PV.d) : Sat (tupOf xs h) Q ↔ ds.length ≤ line ∧ Q (.d (.tuple ds)) h := by
  subst e
  unfold tupOf
  rw [datas_map']
  dsimp only
  rw [sat_if, sat_ok]
@[simp] theorem tup2 {a b : PyData} : Sat (tupOf [.d a, .d b] h) Q ↔ Q (.d (.tuple [a, b])) h :=
  (sat_tup (ds := [a, b]) rfl).trans ⟨fun q => q.2, fun q => ⟨(by decide : 2 ≤ line), q⟩⟩
@[simp] theorem tup1 {a : PyData} : Sat (tupOf [.d a] h) Q ↔ Q (.d (.tuple [a])) h :=
  (sat_tup (ds := [a]) rfl).trans ⟨fun q => q.2, fun q => ⟨(by decide : 1 ≤ line), q⟩⟩
@[simp] theorem tup3 {a b c : PyData} : Sat (tupOf [.d a, .d b, .d c] h) Q ↔ Q (.d (.tuple [a, b, c])) h :=
  (sat_tup (ds := [a, b, c]) rfl).trans ⟨fun q => q.2, fun q => ⟨(by decide : 3 ≤ line), q⟩⟩
@[simp] theorem tup6 {a b c d e f : PyData} : Sat (tupOf [.d a, .d b, .d c, .d d, .d e, .d f] h) Q ↔ Q (.d (.tuple [a, b, c, d, e, f])) h :=
  (sat_tup (ds := [a, b, c, d, e, f]) rfl).trans ⟨fun q => q.2, fun q => ⟨(by decide : 6 ≤ line), q⟩⟩
@[simp] theorem bi_tupL {ds : List PyData} : Sat (biop .tuple1 [.d (.list ds)] h) Q ↔ ds.length ≤ line ∧ Q (.d (.tuple ds)) h := by
  show Sat (match (some (ds.map PV.d)).bind datas with
    | some ds => if ds.length ≤ line then .ok (.d (.tuple ds)) h else .bad
    | none => .bad) Q ↔ _
  show Sat (match datas (ds.map PV.d) with
    | some ds => if ds.length ≤ line then .ok (.d (.tuple ds)) h else .bad
    | none => .bad) Q ↔ _
  rw [datas_map']
  dsimp only
  rw [sat_if, sat_ok]
@[simp] theorem sl_lst {xs : List PyData} {lo hi : Option Int} : slice (.d (.list xs)) lo hi h = .ok (.d (.list (cut xs lo hi))) h := by
  show mkL false (cut (xs.map PV.d) lo hi) h = _
  have e : cut (xs.map PV.d) lo hi = (cut xs lo hi).map PV.d := by
    unfold cut
    rw [List.length_map, ← List.map_drop, ← List.map_take]
  rw [e]
  show R.of ((datas ((cut xs lo hi).map PV.d)).map _) h = _
  rw [datas_map']
  rfl
@[simp] theorem cut_1 {α : Type} {xs : List α} : cut xs (some 1) none = xs.tail := by
  unfold cut HT.sIx
  simp
  cases xs with
  | nil => rfl
  | cons x xs =>
    have : min 1 ((x :: xs).length) = 1 := by simp
    simp
/-- each is less than the next -/
def RisesD : List PyData → Prop
  | [] => True
  | [_] => True
  | x :: y :: r => (ltOk x y = true ∧ PySem.W.dataLt x y = true) ∧ RisesD (y :: r)
theorem rises_pairs : ∀ {ds : List PyData}, RisesD ds → ∀ p ∈ pairs ds ds.tail, ∃ x y, p = .d (.tuple [x, y]) ∧ ltOk x y = true ∧ PySem.W.dataLt x y = true
  | [], _, p, hp => by simp [pairs] at hp
  | [_], _, p, hp => by simp [pairs] at hp
  | x :: y :: r, hr, p, hp => by
    have hp : p ∈ .d (.tuple [x, y]) :: pairs (y :: r) (y :: r).tail := hp
    rcases List.mem_cons.mp hp with e | hp
    · exact ⟨x, y, e, hr.1.1, hr.1.2⟩
    · exact rises_pairs hr.2 p hp
theorem pairs_le : ∀ (xs ys : List PyData), (pairs xs ys).length ≤ xs.length
  | [], _ => by simp [pairs]
  | _ :: _, [] => by simp [pairs]
  | x :: xs, y :: ys => by simp only [pairs, List.length_cons]; have := pairs_le xs ys; omega
theorem c_ltD {x y : PyData} (e : ltOk x y = true) : cmpop .lt (.d x) (.d y) h = some (PySem.W.dataLt x y) := by
  rw [cmp_d (by decide)]
  simp [e]
/-! loops -/
theorem forF_nil {t : Tg} {F : Sg → Hs → R (Fl × Sg)} {σ : Sg} : Sat (forF t F [] σ h) Qf ↔ Qf (.nx, σ) h := sat_ok
theorem forF_cons {t : Tg} {F : Sg → Hs → R (Fl × Sg)} {x : PV} {xs : List PV} {σ : Sg} : Sat (forF t F (x :: xs) σ h) Qf ↔ ∃ σ1, asg t x σ = some σ1 ∧ Sat (F σ1 h) fun p h2 => match p.1 with
    | .nx => Sat (forF t F xs p.2 h2) Qf
    | .ct => Sat (forF t F xs p.2 h2) Qf
    | .bk => Qf (.nx, p.2) h2
    | .rt v => Qf (.rt v, p.2) h2 := by
  show Sat (match asg t x σ with
    | none => .bad
    | some σ1 => (F σ1 h).bind fun p h2 => match p.1 with
      | .nx => forF t F xs p.2 h2
      | .ct => forF t F xs p.2 h2
      | .bk => .ok (.nx, p.2) h2
      | .rt v => .ok (.rt v, p.2) h2) Qf ↔ _
  cases e : asg t x σ with
  | none => exact ⟨fun s => (sat_bad.mp s).elim, fun ⟨_, e, _⟩ => nomatch e⟩
  | some σ1 =>
    dsimp only
    rw [sat_bind]
    constructor
    · intro s
      refine ⟨σ1, rfl, s.mono fun p h2 q => ?_⟩
      obtain ⟨f, σ'⟩ := p
      cases f with
      | nx => exact q
      | ct => exact q
      | bk => exact sat_ok.mp q
      | rt v => exact sat_ok.mp q
    · intro ⟨_, e, s⟩
      cases e
      refine s.mono fun p h2 q => ?_
      obtain ⟨f, σ'⟩ := p
      cases f with
      | nx => exact q
      | ct => exact q
      | bk => exact sat_ok.mpr q
      | rt v => exact sat_ok.mpr q
/-- a loop that always goes to its end: I by the items that are left -/
theorem forF_all {t : Tg} {F : Sg → Hs → R (Fl × Sg)} (I : List PV → Sg → Hs → Prop) (step : ∀ x xs σ h, I (x :: xs) σ h → ∃ σ1, asg t x σ = some σ1 ∧ Sat (F σ1 h) fun p h2 => (p.1 = .nx ∨ p.1 = .ct) ∧ I xs p.2 h2) :
    ∀ (xs : List PV) (σ : Sg) (h : Hs), I xs σ h → (∀ σ' h', I [] σ' h' → Qf (.nx, σ') h') → Sat (forF t F xs σ h) Qf
  | [], σ, h, i, q => forF_nil.mpr (q σ h i)
  | x :: xs, σ, h, i, q => by
    obtain ⟨σ1, e, s⟩ := step x xs σ h i
    refine forF_cons.mpr ⟨σ1, e, s.mono fun p h2 ⟨hp, i2⟩ => ?_⟩
    obtain ⟨f, σ'⟩ := p
    rcases hp with hp | hp <;> (have hp : f = _ := hp; subst hp; exact forF_all I step xs _ h2 i2 q)
end
end Iw
end

section
set_option Elab.async false
set_option linter.all false
set_option maxRecDepth 100000
namespace Hf
open PySem Iw
def f_is_whole : S := (.seq (.ret (.and (.isi (.loc 0) "int") (.not (.isi (.loc 0) "bool")))) .skip)
def f_is_among : S := (.seq (.ret (.and (.call "is_whole" (.cons (.loc 0) .nil)) (.chain .le .le (.loc 1) (.loc 0) (.loc 2)))) .skip)
def f_are_some : S := (.seq (.ret (.and (.isi (.loc 0) "tuple") (.chain .le .le (.loc 1) (.bi .len (.cons (.loc 0) .nil)) (.loc 2)))) .skip)
def f_rises : S := (.seq (.ret (.bi .all (.cons (.comp false [1, 2] (.cons (.nm 1) (.cons (.nm 2) .nil)) (.iZip (.loc 0) (.sl (.loc 0) (.prt (.lit (.int 1))) .nop)) .nop (.cmp .lt (.loc 1) (.loc 2))) .nil))) .skip)
def f_is_height : S := (.seq (.ret (.call "is_among" (.cons (.loc 0) (.cons (.lit (.int 0)) (.cons (.lit (.int 6)) .nil))))) .skip)
def f_is_gap : S := (.seq (.ret (.and (.call "are_some" (.cons (.loc 0) (.cons (.lit (.int 2)) (.cons (.lit (.int 2)) .nil)))) (.and (.bi .all (.cons (.comp false [1] (.nm 1) (.iVal (.loc 0)) .nop (.call "is_height" (.cons (.loc 1) .nil))) .nil)) (.cmp .le (.ix (.loc 0) (.lit (.int 0))) (.ix (.loc 0) (.lit (.int 1))))))) .skip)
def f_is_box_by : S := (.seq (.ret (.and (.call "are_some" (.cons (.loc 1) (.cons (.loc 0) (.cons (.loc 0) .nil)))) (.bi .all (.cons (.comp false [2] (.nm 2) (.iVal (.loc 1)) .nop (.call "is_gap" (.cons (.loc 2) .nil))) .nil)))) .skip)
def f_is_wear : S := (.seq (.ret (.and (.call "are_some" (.cons (.loc 1) (.cons (.loc 0) (.cons (.loc 0) .nil)))) (.bi .all (.cons (.comp false [2] (.nm 2) (.iVal (.loc 1)) .nop (.call "is_among" (.cons (.loc 2) (.cons (.lit (.int 0)) (.cons (.lit (.int 3)) .nil))))) .nil)))) .skip)
def f_is_door : S := (.seq (.ife (.or (.not (.call "are_some" (.cons (.loc 3) (.cons (.lit (.int 4)) (.cons (.lit (.int 4)) .nil))))) (.not (.bi .all (.cons (.comp false [4] (.nm 4) (.iVal (.tup (.cons (.ix (.loc 3) (.lit (.int 0))) (.cons (.ix (.loc 3) (.lit (.int 2))) .nil)))) .nop (.call "is_among" (.cons (.loc 4) (.cons (.lit (.int 0)) (.cons (.bin .sub (.loc 1) (.lit (.int 1))) .nil))))) .nil)))) (.seq (.ret (.lit (.bool false))) .skip) .skip) (.seq (.ret (.and (.call "is_among" (.cons (.ix (.loc 3) (.lit (.int 1))) (.cons (.lit (.int 0)) (.cons (.bin .sub (.loc 2) (.lit (.int 1))) .nil)))) (.call "is_box_by" (.cons (.loc 0) (.cons (.ix (.loc 3) (.lit (.int 3))) .nil))))) .skip))
def f_are_doors : S := (.seq (.ife (.or (.not (.call "are_some" (.cons (.loc 3) (.cons (.lit (.int 0)) (.cons (.lit (.int 10)) .nil))))) (.not (.bi .all (.cons (.comp false [5] (.nm 5) (.iVal (.loc 3)) .nop (.call "is_door" (.cons (.loc 0) (.cons (.loc 1) (.cons (.loc 2) (.cons (.loc 5) .nil)))))) .nil)))) (.seq (.ret (.lit (.bool false))) .skip) .skip) (.seq (.ret (.call "rises" (.cons (.comp false [4] (.nm 4) (.iVal (.loc 3)) .nop (.sl (.loc 4) .nop (.prt (.lit (.int 2))))) .nil))) .skip))
def f_is_smith : S := (.seq (.ife (.or (.not (.call "are_some" (.cons (.loc 1) (.cons (.lit (.int 3)) (.cons (.lit (.int 3)) .nil))))) (.not (.call "is_among" (.cons (.ix (.loc 1) (.lit (.int 0))) (.cons (.lit (.int 0)) (.cons (.bin .sub (.loc 0) (.lit (.int 1))) .nil)))))) (.seq (.ret (.lit (.bool false))) .skip) .skip) (.seq (.ret (.and (.call "is_among" (.cons (.ix (.loc 1) (.lit (.int 1))) (.cons (.lit (.int 1)) (.cons (.lit (.int 6)) .nil)))) (.call "is_among" (.cons (.ix (.loc 1) (.lit (.int 2))) (.cons (.lit (.int 1)) (.cons (.lit (.int 9)) .nil)))))) .skip))
def f_are_benches : S := (.seq (.ret (.and (.isi (.loc 1) "tuple") (.and (.bi .all (.cons (.comp false [2] (.nm 2) (.iVal (.loc 1)) .nop (.call "is_among" (.cons (.loc 2) (.cons (.lit (.int 0)) (.cons (.bin .sub (.loc 0) (.lit (.int 1))) .nil))))) .nil)) (.call "rises" (.cons (.loc 1) .nil))))) .skip)
def f_are_smiths : S := (.seq (.ife (.or (.not (.isi (.loc 1) "tuple")) (.not (.bi .all (.cons (.comp false [2] (.nm 2) (.iVal (.loc 1)) .nop (.call "is_smith" (.cons (.loc 0) (.cons (.loc 2) .nil)))) .nil)))) (.seq (.ret (.lit (.bool false))) .skip) .skip) (.seq (.ret (.call "rises" (.cons (.comp false [2] (.nm 2) (.iVal (.loc 1)) .nop (.ix (.loc 2) (.lit (.int 0)))) .nil))) .skip))
def f_is_house : S := (.seq (.ife (.or (.not (.call "are_some" (.cons (.loc 0) (.cons (.lit (.int 6)) (.cons (.lit (.int 6)) .nil))))) (.or (.not (.call "is_among" (.cons (.ix (.loc 0) (.lit (.int 0))) (.cons (.lit (.int 1)) (.cons (.lit (.int 3)) .nil))))) (.not (.call "is_among" (.cons (.ix (.loc 0) (.lit (.int 1))) (.cons (.lit (.int 1)) (.cons (.lit (.int 6)) .nil))))))) (.seq (.ret (.lit (.bool false))) .skip) .skip) (.seq (.asg (.cons (.nm 1) (.cons (.nm 2) (.cons (.nm 3) (.cons (.nm 4) (.cons (.nm 5) (.cons (.nm 6) .nil)))))) (.loc 0)) (.seq (.ife (.or (.not (.call "are_some" (.cons (.loc 3) (.cons (.lit (.int 1)) (.cons (.lit (.int 6)) .nil))))) (.not (.bi .all (.cons (.comp false [7] (.nm 7) (.iVal (.loc 3)) .nop (.call "is_wear" (.cons (.loc 1) (.cons (.loc 7) .nil)))) .nil)))) (.seq (.ret (.lit (.bool false))) .skip) .skip) (.seq (.ife (.not (.call "are_doors" (.cons (.loc 1) (.cons (.loc 2) (.cons (.bi .len (.cons (.loc 3) .nil)) (.cons (.loc 4) .nil)))))) (.seq (.ret (.lit (.bool false))) .skip) .skip) (.seq (.ret (.and (.call "are_benches" (.cons (.loc 2) (.cons (.loc 5) .nil))) (.call "are_smiths" (.cons (.loc 2) (.cons (.loc 6) .nil))))) .skip)))))
def f_need_house : S := (.seq (.ife (.not (.call "is_house" (.cons (.loc 0) .nil))) (.seq .stk .skip) .skip) .skip)
def f_is_hall : S := (.seq (.ret (.call "is_among" (.cons (.loc 1) (.cons (.lit (.int 0)) (.cons (.bin .sub (.ix (.loc 0) (.lit (.int 1))) (.lit (.int 1))) .nil))))) .skip)
def f_need_hall : S := (.seq (.ex (.call "need_house" (.cons (.loc 0) .nil))) (.seq (.ife (.not (.call "is_hall" (.cons (.loc 0) (.cons (.loc 1) .nil)))) (.seq .stk .skip) .skip) .skip))
def f_is_deed : S := (.seq (.ife (.or (.not (.call "are_some" (.cons (.loc 1) (.cons (.lit (.int 2)) (.cons (.lit (.int 2)) .nil))))) (.or (.not (.isi (.ix (.loc 1) (.lit (.int 0))) "str")) (.cmp .nin (.ix (.loc 1) (.lit (.int 0))) (.tup (.cons (.lit (.str "go")) (.cons (.lit (.str "file")) (.cons (.lit (.str "lift")) .nil))))))) (.seq (.ret (.lit (.bool false))) .skip) .skip) (.seq (.ret (.call "is_among" (.cons (.ix (.loc 1) (.lit (.int 1))) (.cons (.lit (.int 0)) (.cons (.bin .sub (.ite (.cmp .eq (.ix (.loc 1) (.lit (.int 0))) (.lit (.str "go"))) (.bi .len (.cons (.ix (.loc 0) (.lit (.int 2))) .nil)) (.ix (.loc 0) (.lit (.int 0)))) (.lit (.int 1))) .nil))))) .skip))
def f_door_at : S := (.seq (.for_ (.cons (.nm 3) (.cons (.nm 4) .nil)) (.iEnu (.ix (.loc 0) (.lit (.int 3)))) (.seq (.ife (.cmp .eq (.sl (.loc 4) .nop (.prt (.lit (.int 2)))) (.tup (.cons (.loc 1) (.cons (.loc 2) .nil)))) (.seq (.ret (.loc 3)) .skip) .skip) .skip)) (.seq (.ret (.lit .none)) .skip))
def f_smith_at : S := (.seq (.for_ (.nm 2) (.iVal (.ix (.loc 0) (.lit (.int 5)))) (.seq (.ife (.cmp .eq (.ix (.loc 2) (.lit (.int 0))) (.loc 1)) (.seq (.ret (.loc 2)) .skip) .skip) .skip)) (.seq (.ret (.lit .none)) .skip))
def f_is_away : S := (.seq (.ife (.cmp .eq (.ix (.loc 2) (.lit (.int 0))) (.lit (.str "go"))) (.seq (.ret (.isNon (.call "door_at" (.cons (.loc 0) (.cons (.loc 1) (.cons (.ix (.loc 2) (.lit (.int 1))) .nil)))))) .skip) .skip) (.seq (.ret (.ite (.cmp .eq (.ix (.loc 2) (.lit (.int 0))) (.lit (.str "file"))) (.cmp .nin (.loc 1) (.ix (.loc 0) (.lit (.int 4)))) (.isNon (.call "smith_at" (.cons (.loc 0) (.cons (.loc 1) .nil)))))) .skip))
def f_hall_behind : S := (.seq (.ret (.ite (.cmp .eq (.ix (.loc 2) (.lit (.int 0))) (.lit (.str "go"))) (.ix (.ix (.ix (.loc 0) (.lit (.int 3))) (.call "door_at" (.cons (.loc 0) (.cons (.loc 1) (.cons (.ix (.loc 2) (.lit (.int 1))) .nil))))) (.lit (.int 2))) (.loc 1))) .skip)
def f_wear_of : S := (.seq (.ife (.cmp .eq (.ix (.loc 1) (.lit (.int 0))) (.lit (.str "go"))) (.seq (.ret (.ix (.ix (.ix (.loc 0) (.lit (.int 2))) (.ix (.loc 1) (.lit (.int 1)))) (.loc 2))) .skip) .skip) (.seq (.ret (.ite (.cmp .eq (.ix (.loc 1) (.lit (.int 0))) (.lit (.str "file"))) (.bi .int1 (.cons (.cmp .eq (.ix (.loc 1) (.lit (.int 1))) (.loc 2)) .nil)) (.bin .sub (.lit (.int 0)) (.bi .int1 (.cons (.cmp .eq (.ix (.loc 1) (.lit (.int 1))) (.loc 2)) .nil))))) .skip))
def f_gap_of : S := (.seq (.ife (.cmp .eq (.ix (.loc 2) (.lit (.int 0))) (.lit (.str "go"))) (.seq (.ret (.ix (.ix (.ix (.ix (.loc 0) (.lit (.int 3))) (.call "door_at" (.cons (.loc 0) (.cons (.loc 1) (.cons (.ix (.loc 2) (.lit (.int 1))) .nil))))) (.lit (.int 3))) (.loc 3))) .skip) .skip) (.seq (.ife (.cmp .ne (.ix (.loc 2) (.lit (.int 1))) (.loc 3)) (.seq (.ret (.tup (.cons (.lit (.int 0)) (.cons (.lit (.int 6)) .nil)))) .skip) .skip) (.seq (.ret (.ite (.cmp .eq (.ix (.loc 2) (.lit (.int 0))) (.lit (.str "file"))) (.tup (.cons (.lit (.int 1)) (.cons (.lit (.int 6)) .nil))) (.tup (.cons (.lit (.int 0)) (.cons (.bin .sub (.ix (.call "smith_at" (.cons (.loc 0) (.cons (.loc 1) .nil))) (.lit (.int 1))) (.lit (.int 1))) .nil))))) .skip)))
def f_need_row : S := (.seq (.ife (.or (.not (.isi (.loc 1) "tuple")) (.not (.bi .all (.cons (.comp false [2] (.nm 2) (.iVal (.loc 1)) .nop (.call "is_deed" (.cons (.loc 0) (.cons (.loc 2) .nil)))) .nil)))) (.seq .stk .skip) .skip) .skip)
def f_away_at : S := (.seq (.for_ (.cons (.nm 3) (.cons (.nm 4) .nil)) (.iEnu (.loc 2)) (.seq (.ife (.call "is_away" (.cons (.loc 0) (.cons (.loc 1) (.cons (.loc 4) .nil)))) (.seq (.ret (.loc 3)) .skip) .skip) (.seq (.asg (.nm 1) (.call "hall_behind" (.cons (.loc 0) (.cons (.loc 1) (.cons (.loc 4) .nil))))) .skip))) (.seq (.ret (.lit .none)) .skip))
def f_first_away : S := (.seq (.ex (.call "need_hall" (.cons (.loc 0) (.cons (.loc 1) .nil)))) (.seq (.ex (.call "need_row" (.cons (.loc 0) (.cons (.loc 2) .nil)))) (.seq (.ret (.call "away_at" (.cons (.loc 0) (.cons (.loc 1) (.cons (.loc 2) .nil))))) .skip)))
def f_need_laid : S := (.seq (.ife (.notNon (.call "first_away" (.cons (.loc 0) (.cons (.loc 1) (.cons (.loc 2) .nil))))) (.seq .stk .skip) .skip) .skip)
def f_height_behind : S := (.seq (.for_ (.nm 5) (.iVal (.loc 2)) (.seq (.asg (.cons (.nm 6) (.cons (.nm 7) .nil)) (.call "gap_of" (.cons (.loc 0) (.cons (.loc 1) (.cons (.loc 5) (.cons (.loc 3) .nil)))))) (.seq (.ife (.not (.chain .le .le (.loc 6) (.loc 4) (.loc 7))) (.seq (.ret (.lit .none)) .skip) .skip) (.seq (.par [4, 1] (.cons (.bi .max2 (.cons (.lit (.int 0)) (.cons (.bin .sub (.loc 4) (.call "wear_of" (.cons (.loc 0) (.cons (.loc 5) (.cons (.loc 3) .nil))))) .nil))) (.cons (.call "hall_behind" (.cons (.loc 0) (.cons (.loc 1) (.cons (.loc 5) .nil)))) .nil))) .skip)))) (.seq (.ret (.loc 4)) .skip))
def f_does_by : S := (.seq (.asg (.nm 3) (.lst true .nil)) (.seq (.for_ (.nm 4) (.iR1 (.ix (.loc 0) (.lit (.int 0)))) (.seq (.ex (.app (.loc 3) (.bi .tuple1 (.cons (.comp false [5] (.nm 5) (.iR1 (.bin .add (.lit (.int 6)) (.lit (.int 1)))) .nop (.call "height_behind" (.cons (.loc 0) (.cons (.loc 1) (.cons (.loc 2) (.cons (.loc 4) (.cons (.loc 5) .nil))))))) .nil)))) .skip)) (.seq (.ret (.bi .tuple1 (.cons (.loc 3) .nil))) .skip)))
def f_does : S := (.seq (.ex (.call "need_laid" (.cons (.loc 0) (.cons (.loc 1) (.cons (.loc 2) .nil))))) (.seq (.ret (.call "does_by" (.cons (.loc 0) (.cons (.loc 1) (.cons (.loc 2) .nil))))) .skip))
def f_box_by : S := (.seq (.asg (.nm 1) (.comp false [2] (.nm 2) (.iVal (.loc 0)) .nop (.comp false [3, 4] (.cons (.nm 3) (.cons (.nm 4) .nil)) (.iEnu (.loc 2)) (.cnd (.notNon (.loc 4))) (.loc 3)))) (.seq (.ret (.ite (.cmp .isin (.lst false .nil) (.loc 1)) (.lit .none) (.bi .tuple1 (.cons (.comp false [5] (.nm 5) (.iVal (.loc 1)) .nop (.tup (.cons (.ix (.loc 5) (.lit (.int 0))) (.cons (.ix (.loc 5) (.neg (.lit (.int 1)))) .nil)))) .nil)))) .skip))
def f_box_of : S := (.seq (.ret (.call "box_by" (.cons (.call "does" (.cons (.loc 0) (.cons (.loc 1) (.cons (.loc 2) .nil)))) .nil))) .skip)
def f_box_behind : S := (.seq (.asg (.nm 3) (.call "does" (.cons (.loc 0) (.cons (.loc 1) (.cons (.loc 2) .nil))))) (.seq (.asg (.nm 4) (.call "box_by" (.cons (.loc 3) .nil))) (.seq (.ife (.isNon (.loc 4)) (.seq (.ret (.lit .none)) .skip) .skip) (.seq (.ret (.bi .tuple1 (.cons (.comp false [5, 6, 7] (.cons (.nm 5) (.cons (.cons (.nm 6) (.cons (.nm 7) .nil)) .nil)) (.iZip (.loc 3) (.loc 4)) .nop (.tup (.cons (.ix (.loc 5) (.loc 6)) (.cons (.ix (.loc 5) (.loc 7)) .nil)))) .nil))) .skip))))
def f_need_teeth : S := (.seq (.ife (.not (.call "is_among" (.cons (.loc 0) (.cons (.lit (.int 1)) (.cons (.lit (.int 3)) .nil))))) (.seq .stk .skip) .skip) .skip)
def f_is_key_by : S := (.seq (.ret (.and (.call "are_some" (.cons (.loc 1) (.cons (.loc 0) (.cons (.loc 0) .nil)))) (.bi .all (.cons (.comp false [2] (.nm 2) (.iVal (.loc 1)) .nop (.call "is_height" (.cons (.loc 2) .nil))) .nil)))) .skip)
def f_is_key : S := (.seq (.ex (.call "need_teeth" (.cons (.loc 0) .nil))) (.seq (.ret (.call "is_key_by" (.cons (.loc 0) (.cons (.loc 1) .nil)))) .skip))
def f_is_box : S := (.seq (.ex (.call "need_teeth" (.cons (.loc 0) .nil))) (.seq (.ret (.call "is_box_by" (.cons (.loc 0) (.cons (.loc 1) .nil)))) .skip))
def f_need_box : S := (.seq (.ife (.not (.call "is_box_by" (.cons (.loc 0) (.cons (.loc 1) .nil)))) (.seq .stk .skip) .skip) .skip)
def f_common_by : S := (.seq (.asg (.nm 2) (.bi .tuple1 (.cons (.comp false [3, 4] (.cons (.nm 3) (.cons (.nm 4) .nil)) (.iZip (.loc 0) (.loc 1)) .nop (.tup (.cons (.bi .max2 (.cons (.ix (.loc 3) (.lit (.int 0))) (.cons (.ix (.loc 4) (.lit (.int 0))) .nil))) (.cons (.bi .min2 (.cons (.ix (.loc 3) (.lit (.int 1))) (.cons (.ix (.loc 4) (.lit (.int 1))) .nil))) .nil)))) .nil))) (.seq (.ret (.ite (.bi .all (.cons (.comp false [5, 6] (.cons (.nm 5) (.cons (.nm 6) .nil)) (.iVal (.loc 2)) .nop (.cmp .le (.loc 5) (.loc 6))) .nil)) (.loc 2) (.lit .none))) .skip))
def f_common : S := (.seq (.ex (.call "need_teeth" (.cons (.loc 0) .nil))) (.seq (.ex (.call "need_box" (.cons (.loc 0) (.cons (.loc 1) .nil)))) (.seq (.ex (.call "need_box" (.cons (.loc 0) (.cons (.loc 2) .nil)))) (.seq (.ret (.call "common_by" (.cons (.loc 1) (.cons (.loc 2) .nil)))) .skip))))
def f_has_key : S := (.seq (.ret (.bi .all (.cons (.comp false [3, 4, 2] (.cons (.cons (.nm 3) (.cons (.nm 4) .nil)) (.cons (.nm 2) .nil)) (.iZip (.loc 0) (.loc 1)) .nop (.chain .le .le (.loc 3) (.loc 2) (.loc 4))) .nil))) .skip)
def f_keys_in : S := (.seq (.asg (.nm 1) (.lst false (.cons (.tup .nil) .nil))) (.seq (.for_ (.cons (.nm 2) (.cons (.nm 3) .nil)) (.iVal (.loc 0)) (.seq (.asg (.nm 4) (.lst true .nil)) (.seq (.for_ (.nm 5) (.iVal (.loc 1)) (.seq (.ex (.ext (.loc 4) (.comp false [6] (.nm 6) (.iR2 (.loc 2) (.bin .add (.loc 3) (.lit (.int 1)))) .nop (.bin .add (.loc 5) (.tup (.cons (.loc 6) .nil)))))) .skip)) (.seq (.asg (.nm 1) (.loc 4)) .skip)))) (.seq (.ret (.loc 1)) .skip)))
def f_left_out : S := (.seq (.ex (.call "need_teeth" (.cons (.loc 0) .nil))) (.seq (.ife (.or (.not (.isi (.loc 1) "tuple")) (.not (.bi .all (.cons (.comp false [4] (.nm 4) (.iVal (.loc 1)) .nop (.call "is_box_by" (.cons (.loc 0) (.cons (.loc 4) .nil)))) .nil)))) (.seq .stk .skip) .skip) (.seq (.ex (.call "need_box" (.cons (.loc 0) (.cons (.loc 2) .nil)))) (.seq (.for_ (.nm 3) (.iVal (.call "keys_in" (.cons (.loc 2) .nil))) (.seq (.ife (.not (.bi .any (.cons (.comp false [4] (.nm 4) (.iVal (.loc 1)) .nop (.call "has_key" (.cons (.loc 4) (.cons (.loc 3) .nil)))) .nil))) (.seq (.ret (.loc 3)) .skip) .skip) .skip)) (.seq (.ret (.lit .none)) .skip)))))
def f_moved_end : S := (.seq (.ret (.bin .add (.bin .add (.sl (.loc 0) .nop (.prt (.loc 1))) (.tup (.cons (.bin .add (.ix (.loc 0) (.loc 1)) (.loc 2)) .nil))) (.sl (.loc 0) (.prt (.bin .add (.loc 1) (.lit (.int 1)))) .nop))) .skip)
def f_filled_from : S := (.seq (.asg (.nm 2) (.dnew true)) (.seq (.for_ (.nm 3) (.iVal (.bi (.srt1 false) (.cons (.loc 0) .nil))) (.seq (.ife (.bi .all (.cons (.comp false [6, 7] (.cons (.nm 6) (.cons (.nm 7) .nil)) (.iZip (.loc 3) (.loc 1)) .nop (.cmp .ge (.loc 6) (.loc 7))) .nil)) (.seq (.asg (.nm 4) (.comp false [5] (.nm 5) (.iR1 (.bi .len (.cons (.loc 1) .nil))) (.cnd (.cmp .gt (.ix (.loc 3) (.loc 5)) (.ix (.loc 1) (.loc 5)))) (.loc 5))) (.seq (.ife (.bi .all (.cons (.comp false [5] (.nm 5) (.iVal (.loc 4)) .nop (.cmp .isin (.call "moved_end" (.cons (.loc 3) (.cons (.loc 5) (.cons (.neg (.lit (.int 1))) .nil)))) (.loc 2))) .nil)) (.seq (.sub (.loc 2) (.loc 3) (.lit (.bool true))) .skip) .skip) .skip)) .skip) .skip)) (.seq (.ret (.loc 2)) .skip)))
def f_is_greatest : S := (.seq (.for_ (.nm 3) (.iR1 (.bi .len (.cons (.loc 1) .nil))) (.seq (.ife (.cmp .isin (.call "moved_end" (.cons (.loc 2) (.cons (.loc 3) (.cons (.lit (.int 1)) .nil)))) (.ix (.loc 0) (.loc 1))) (.seq (.ret (.lit (.bool false))) .skip) .skip) (.seq (.ife (.cmp .isin (.loc 2) (.dget (.loc 0) (.call "moved_end" (.cons (.loc 1) (.cons (.loc 3) (.cons (.neg (.lit (.int 1))) .nil)))) (.dnew true))) (.seq (.ret (.lit (.bool false))) .skip) .skip) .skip))) (.seq (.ret (.lit (.bool true))) .skip))
def f_greatest_by : S := (.seq (.asg (.nm 1) (.lk (.loc 0) (.dcp [3] (.nm 3) (.iVal (.loc 0)) .nop (.loc 3) (.call "filled_from" (.cons (.loc 0) (.cons (.loc 3) .nil)))))) (.seq (.asg (.nm 2) (.lst true .nil)) (.seq (.lkS (.loc 1) (.for_ (.nm 3) (.iVal (.loc 1)) (.seq (.ex (.ext (.loc 2) (.lk (.ix (.loc 1) (.loc 3)) (.comp false [4] (.nm 4) (.iVal (.ix (.loc 1) (.loc 3))) (.cnd (.call "is_greatest" (.cons (.loc 1) (.cons (.loc 3) (.cons (.loc 4) .nil))))) (.bi .tuple1 (.cons (.lz (.loc 3) (.loc 4)) .nil)))))) .skip))) (.seq (.ret (.bi .tuple1 (.cons (.bi (.srt1 false) (.cons (.loc 2) .nil)) .nil))) .skip))))
def f_greatest : S := (.seq (.ex (.call "need_teeth" (.cons (.loc 0) .nil))) (.seq (.ife (.or (.not (.isi (.loc 1) "tuple")) (.or (.not (.bi .all (.cons (.comp false [2] (.nm 2) (.iVal (.loc 1)) .nop (.call "is_key_by" (.cons (.loc 0) (.cons (.loc 2) .nil)))) .nil))) (.not (.call "rises" (.cons (.loc 1) .nil))))) (.seq .stk .skip) .skip) (.seq (.ret (.call "greatest_by" (.cons (.dcp [2] (.nm 2) (.iVal (.loc 1)) .nop (.loc 2) (.lit (.bool true))) .nil))) .skip)))
def f_is_stand : S := (.seq (.ret (.and (.call "are_some" (.cons (.loc 1) (.cons (.lit (.int 2)) (.cons (.lit (.int 2)) .nil)))) (.and (.call "is_hall" (.cons (.loc 0) (.cons (.ix (.loc 1) (.lit (.int 0))) .nil))) (.call "is_key_by" (.cons (.ix (.loc 0) (.lit (.int 0))) (.cons (.ix (.loc 1) (.lit (.int 1))) .nil)))))) .skip)
def f_need_stand : S := (.seq (.ex (.call "need_house" (.cons (.loc 0) .nil))) (.seq (.ife (.not (.call "is_stand" (.cons (.loc 0) (.cons (.loc 1) .nil)))) (.seq .stk .skip) .skip) .skip))
def f_bar_of : S := (.seq (.asg (.cons (.nm 3) (.cons (.nm 4) .nil)) (.loc 1)) (.seq (.ife (.call "is_away" (.cons (.loc 0) (.cons (.loc 3) (.cons (.loc 2) .nil)))) (.seq (.ret (.tup (.cons (.lit (.str "away")) (.cons (.lit .none) .nil)))) .skip) .skip) (.seq (.for_ (.cons (.nm 5) (.cons (.nm 6) .nil)) (.iEnu (.loc 4)) (.seq (.asg (.cons (.nm 7) (.cons (.nm 8) .nil)) (.call "gap_of" (.cons (.loc 0) (.cons (.loc 3) (.cons (.loc 2) (.cons (.loc 5) .nil)))))) (.seq (.ife (.cmp .lt (.loc 6) (.loc 7)) (.seq (.ret (.tup (.cons (.lit (.str "low")) (.cons (.loc 5) .nil)))) .skip) .skip) (.seq (.ife (.cmp .gt (.loc 6) (.loc 8)) (.seq (.ret (.tup (.cons (.lit (.str "high")) (.cons (.loc 5) .nil)))) .skip) .skip) .skip)))) (.seq (.ret (.lit .none)) .skip))))
def f_done_by : S := (.seq (.asg (.cons (.nm 4) (.cons (.nm 5) .nil)) (.loc 1)) (.seq (.asg (.nm 3) (.bi .tuple1 (.cons (.comp false [6, 7] (.cons (.nm 6) (.cons (.nm 7) .nil)) (.iEnu (.loc 5)) .nop (.bi .max2 (.cons (.lit (.int 0)) (.cons (.bin .sub (.loc 7) (.call "wear_of" (.cons (.loc 0) (.cons (.loc 2) (.cons (.loc 6) .nil))))) .nil)))) .nil))) (.seq (.ret (.tup (.cons (.call "hall_behind" (.cons (.loc 0) (.cons (.loc 4) (.cons (.loc 2) .nil)))) (.cons (.loc 3) .nil)))) .skip)))
def f_bar_at : S := (.seq (.for_ (.cons (.nm 3) (.cons (.nm 4) .nil)) (.iEnu (.loc 2)) (.seq (.asg (.nm 5) (.call "bar_of" (.cons (.loc 0) (.cons (.loc 1) (.cons (.loc 4) .nil))))) (.seq (.ife (.notNon (.loc 5)) (.seq (.ret (.bin .add (.tup (.cons (.loc 3) .nil)) (.loc 5))) .skip) .skip) (.seq (.asg (.nm 1) (.call "done_by" (.cons (.loc 0) (.cons (.loc 1) (.cons (.loc 4) .nil))))) .skip)))) (.seq (.ret (.lit .none)) .skip))
def f_first_barred : S := (.seq (.ex (.call "need_stand" (.cons (.loc 0) (.cons (.loc 1) .nil)))) (.seq (.ex (.call "need_row" (.cons (.loc 0) (.cons (.loc 2) .nil)))) (.seq (.ret (.call "bar_at" (.cons (.loc 0) (.cons (.loc 1) (.cons (.loc 2) .nil))))) .skip)))
def f_behind_by : S := (.seq (.for_ (.nm 3) (.iVal (.loc 2)) (.seq (.asg (.nm 1) (.call "done_by" (.cons (.loc 0) (.cons (.loc 1) (.cons (.loc 3) .nil))))) .skip)) (.seq (.ret (.loc 1)) .skip))
def f_behind : S := (.seq (.ife (.notNon (.call "first_barred" (.cons (.loc 0) (.cons (.loc 1) (.cons (.loc 2) .nil))))) (.seq .stk .skip) .skip) (.seq (.ret (.call "behind_by" (.cons (.loc 0) (.cons (.loc 1) (.cons (.loc 2) .nil))))) .skip))
def f_halls_of : S := (.seq (.asg (.nm 3) (.lst true (.cons (.loc 1) .nil))) (.seq (.for_ (.nm 4) (.iVal (.loc 2)) (.seq (.ex (.app (.loc 3) (.call "hall_behind" (.cons (.loc 0) (.cons (.ix (.loc 3) (.neg (.lit (.int 1)))) (.cons (.loc 4) .nil)))))) .skip)) (.seq (.ret (.loc 3)) .skip)))
def f_ends_in : S := (.seq (.ex (.call "need_laid" (.cons (.loc 0) (.cons (.loc 1) (.cons (.loc 2) .nil))))) (.seq (.ret (.ix (.call "halls_of" (.cons (.loc 0) (.cons (.loc 1) (.cons (.loc 2) .nil)))) (.neg (.lit (.int 1))))) .skip))
def f_coins_by : S := (.seq (.asg (.nm 3) (.lit (.int 0))) (.seq (.for_ (.nm 4) (.iVal (.loc 2)) (.seq (.aug 3 (.ite (.cmp .eq (.ix (.loc 4) (.lit (.int 0))) (.lit (.str "lift"))) (.ix (.call "smith_at" (.cons (.loc 0) (.cons (.loc 1) .nil))) (.lit (.int 2))) (.lit (.int 0)))) (.seq (.asg (.nm 1) (.call "hall_behind" (.cons (.loc 0) (.cons (.loc 1) (.cons (.loc 4) .nil))))) .skip))) (.seq (.ret (.loc 3)) .skip)))
def f_coins_of : S := (.seq (.ex (.call "need_laid" (.cons (.loc 0) (.cons (.loc 1) (.cons (.loc 2) .nil))))) (.seq (.ret (.call "coins_by" (.cons (.loc 0) (.cons (.loc 1) (.cons (.loc 2) .nil))))) .skip))
def f_whole_box : S := (.seq (.ret (.bin .mul (.tup (.cons (.tup (.cons (.lit (.int 0)) (.cons (.lit (.int 6)) .nil))) .nil)) (.loc 0))) .skip)
def f_led : S := (.seq (.ret (.bi .tuple1 (.cons (.comp false [2, 3] (.cons (.nm 2) (.cons (.nm 3) .nil)) (.iZip (.loc 0) (.loc 1)) .nop (.ix (.loc 2) (.loc 3))) .nil))) .skip)
def f_parts : S := (.seq (.ex (.call "need_hall" (.cons (.loc 0) (.cons (.loc 1) .nil)))) (.seq (.ex (.call "need_row" (.cons (.loc 0) (.cons (.loc 2) .nil)))) (.seq (.ex (.call "need_row" (.cons (.loc 0) (.cons (.loc 3) .nil)))) (.seq (.for_ (.cons (.nm 5) (.cons (.nm 6) .nil)) (.iEnu (.tup (.cons (.loc 2) (.cons (.loc 3) .nil)))) (.seq (.ife (.notNon (.call "away_at" (.cons (.loc 0) (.cons (.loc 1) (.cons (.loc 6) .nil))))) (.seq (.ret (.tup (.cons (.lit (.str "laid")) (.cons (.loc 5) .nil)))) .skip) .skip) .skip)) (.seq (.par [7, 8] (.cons (.ix (.call "halls_of" (.cons (.loc 0) (.cons (.loc 1) (.cons (.loc 2) .nil)))) (.neg (.lit (.int 1)))) (.cons (.ix (.call "halls_of" (.cons (.loc 0) (.cons (.loc 1) (.cons (.loc 3) .nil)))) (.neg (.lit (.int 1)))) .nil))) (.seq (.ife (.cmp .ne (.loc 7) (.loc 8)) (.seq (.ret (.tup (.cons (.lit (.str "halls")) (.cons (.loc 7) (.cons (.loc 8) .nil))))) .skip) .skip) (.seq (.par [9, 10] (.cons (.call "does_by" (.cons (.loc 0) (.cons (.loc 1) (.cons (.loc 2) .nil)))) (.cons (.call "does_by" (.cons (.loc 0) (.cons (.loc 1) (.cons (.loc 3) .nil)))) .nil))) (.seq (.for_ (.nm 4) (.iVal (.call "keys_in" (.cons (.call "whole_box" (.cons (.ix (.loc 0) (.lit (.int 0))) .nil)) .nil))) (.seq (.asg (.nm 11) (.lst false (.cons (.call "led" (.cons (.loc 9) (.cons (.loc 4) .nil))) (.cons (.call "led" (.cons (.loc 10) (.cons (.loc 4) .nil))) .nil)))) (.seq (.asg (.nm 12) (.comp false [13] (.nm 13) (.iVal (.loc 11)) .nop (.ite (.cmp .isin (.lit .none) (.loc 13)) (.lit .none) (.loc 13)))) (.seq (.ife (.cmp .ne (.ix (.loc 12) (.lit (.int 0))) (.ix (.loc 12) (.lit (.int 1)))) (.seq (.ret (.tup (.cons (.lit (.str "key")) (.cons (.loc 4) .nil)))) .skip) .skip) .skip)))) (.seq (.ret (.tup (.cons (.lit (.str "same")) .nil))) .skip)))))))))
def f_need_key : S := (.seq (.ife (.not (.call "is_key_by" (.cons (.loc 0) (.cons (.loc 1) .nil)))) (.seq .stk .skip) .skip) .skip)
def f_need_round : S := (.seq (.ex (.call "need_laid" (.cons (.loc 0) (.cons (.loc 1) (.cons (.loc 2) .nil))))) (.seq (.ife (.cmp .ne (.ix (.call "halls_of" (.cons (.loc 0) (.cons (.loc 1) (.cons (.loc 2) .nil)))) (.neg (.lit (.int 1)))) (.loc 1)) (.seq .stk .skip) .skip) .skip))
def f_need_times : S := (.seq (.ife (.not (.call "is_among" (.cons (.loc 0) (.cons (.lit (.int 0)) (.cons (.lit (.int 1000000000000)) .nil))))) (.seq .stk .skip) .skip) .skip)
def f_often_by : S := (.seq (.for_ (.nm 2) (.iR1 (.lit (.int 7))) (.seq (.asg (.nm 1) (.call "led" (.cons (.loc 0) (.cons (.loc 1) .nil)))) (.seq (.ife (.cmp .isin (.lit .none) (.loc 1)) (.seq (.ret (.loc 2)) .skip) .skip) .skip))) (.seq (.ret (.lit .none)) .skip))
def f_how_often : S := (.seq (.ex (.call "need_round" (.cons (.loc 0) (.cons (.loc 1) (.cons (.loc 2) .nil))))) (.seq (.ex (.call "need_key" (.cons (.ix (.loc 0) (.lit (.int 0))) (.cons (.loc 3) .nil)))) (.seq (.ret (.call "often_by" (.cons (.call "does_by" (.cons (.loc 0) (.cons (.loc 1) (.cons (.loc 2) .nil)))) (.cons (.loc 3) .nil)))) .skip)))
def f_key_far : S := (.seq (.asg (.nm 5) (.call "how_often" (.cons (.loc 0) (.cons (.loc 1) (.cons (.loc 2) (.cons (.loc 3) .nil)))))) (.seq (.ex (.call "need_times" (.cons (.loc 4) .nil))) (.seq (.ife (.and (.notNon (.loc 5)) (.cmp .lt (.loc 5) (.loc 4))) (.seq .stk .skip) .skip) (.seq (.asg (.nm 6) (.call "does_by" (.cons (.loc 0) (.cons (.loc 1) (.cons (.loc 2) .nil))))) (.seq (.for_ (.nm 7) (.iR1 (.bi .min2 (.cons (.loc 4) (.cons (.lit (.int 7)) .nil)))) (.seq (.asg (.nm 3) (.call "led" (.cons (.loc 6) (.cons (.loc 3) .nil)))) .skip)) (.seq (.ret (.loc 3)) .skip))))))
def f_put_behind : S := (.seq (.asg (.nm 2) (.lst true .nil)) (.seq (.for_ (.cons (.nm 3) (.cons (.nm 4) .nil)) (.iZip (.loc 0) (.loc 1)) (.seq (.ex (.app (.loc 2) (.bi .tuple1 (.cons (.comp false [5] (.nm 5) (.iVal (.loc 3)) .nop (.ite (.isNon (.loc 5)) (.lit .none) (.ix (.loc 4) (.loc 5)))) .nil)))) .skip)) (.seq (.ret (.bi .tuple1 (.cons (.loc 2) .nil))) .skip)))
def f_box_far : S := (.seq (.ex (.call "need_round" (.cons (.loc 0) (.cons (.loc 1) (.cons (.loc 2) .nil))))) (.seq (.ex (.call "need_times" (.cons (.loc 3) .nil))) (.seq (.par [5, 6] (.cons (.call "does_by" (.cons (.loc 0) (.cons (.loc 1) (.cons (.loc 2) .nil)))) (.cons (.bin .mul (.tup (.cons (.lsR true false (.lit (.int 0)) (.bin .add (.lit (.int 6)) (.lit (.int 1)))) .nil)) (.ix (.loc 0) (.lit (.int 0)))) .nil))) (.seq (.for_ (.nm 4) (.iR1 (.bi .min2 (.cons (.loc 3) (.cons (.lit (.int 7)) .nil)))) (.seq (.asg (.nm 6) (.call "put_behind" (.cons (.loc 6) (.cons (.loc 5) .nil)))) .skip)) (.seq (.ret (.call "box_by" (.cons (.loc 6) .nil))) .skip)))))
def fD_law_cell_at : S := (.seq (.ife (.cmp .lt (.loc 1) (.bi .len (.cons (.loc 0) .nil))) (.seq (.ret (.ix (.loc 0) (.loc 1))) .skip) .skip) (.seq (.ret (.lit (.int 0))) .skip))
def fD_law_pen : S := (.seq (.ret (.lst true (.cons (.bi .max2 (.cons (.lit (.int 0)) (.cons (.bin .sub (.loc 0) (.bin .pow (.lit (.int 10)) (.lit (.int 18)))) .nil))) (.cons (.bin .mod (.loc 0) (.lit (.int 1000000007))) (.cons (.lit (.int 0)) .nil))))) .skip)
def fD_law_draw : S := (.seq (.ife (.cmp .gt (.ix (.loc 0) (.lit (.int 0))) (.lit (.int 0))) (.seq (.asg (.nm 3) (.bin .mod (.ix (.loc 0) (.lit (.int 0))) (.loc 1))) (.seq (.sub (.loc 0) (.lit (.int 0)) (.bin .fdv (.ix (.loc 0) (.lit (.int 0))) (.loc 1))) (.seq (.ret (.loc 3)) .skip))) .skip) (.seq (.sub (.loc 0) (.lit (.int 2)) (.bin .add (.ix (.loc 0) (.lit (.int 2))) (.lit (.int 1)))) (.seq (.asg (.nm 2) (.bin .mod (.bin .mul (.bin .add (.ix (.loc 0) (.lit (.int 1))) (.bin .mul (.lit (.int 17)) (.ix (.loc 0) (.lit (.int 2))))) (.bin .add (.lit (.int 69621)) (.bin .mul (.lit (.int 2)) (.ix (.loc 0) (.lit (.int 2)))))) (.lit (.int 2147483647)))) (.seq (.asg (.nm 2) (.bin .mod (.bin .add (.bin .add (.bin .mul (.loc 2) (.loc 2)) (.bin .mul (.lit (.int 40503)) (.ix (.loc 0) (.lit (.int 2))))) (.lit (.int 5))) (.lit (.int 2147483629)))) (.seq (.ret (.bin .mod (.bin .fdv (.bin .mod (.bin .mul (.loc 2) (.lit (.int 48271))) (.lit (.int 2147483647))) (.lit (.int 32))) (.loc 1))) .skip)))))
def fK_law_key : S := (.seq (.ret (.bi .tuple1 (.cons (.comp false [2] (.nm 2) (.iR1 (.loc 1)) .nop (.call "_law_draw" (.cons (.loc 0) (.cons (.lit (.int 7)) .nil)))) .nil))) .skip)
def fB_law_pick : S := (.seq (.ret (.ix (.loc 1) (.call "_law_draw" (.cons (.loc 0) (.cons (.bi .len (.cons (.loc 1) .nil)) .nil))))) .skip)
def fB_law_gaps : S := (.seq (.asg (.nm 2) (.lst true .nil)) (.seq (.for_ (.nm 3) (.iR1 (.loc 1)) (.seq (.asg (.nm 4) (.ix (.lst false (.cons (.lit (.int 0)) (.cons (.call "_law_draw" (.cons (.loc 0) (.cons (.lit (.int 4)) .nil))) .nil))) (.call "_law_draw" (.cons (.loc 0) (.cons (.lit (.int 2)) .nil))))) (.seq (.ex (.app (.loc 2) (.tup (.cons (.loc 4) (.cons (.ix (.lst false (.cons (.lit (.int 6)) (.cons (.bin .add (.loc 4) (.call "_law_draw" (.cons (.loc 0) (.cons (.bin .sub (.lit (.int 7)) (.loc 4)) .nil)))) .nil))) (.call "_law_draw" (.cons (.loc 0) (.cons (.lit (.int 2)) .nil)))) .nil))))) .skip))) (.seq (.ret (.bi .tuple1 (.cons (.loc 2) .nil))) .skip)))
def fB_law_drawn_house : S := (.seq (.par [7, 8, 9, 10] (.cons (.bin .add (.lit (.int 1)) (.call "_law_draw" (.cons (.loc 0) (.cons (.loc 2) .nil)))) (.cons (.bin .add (.lit (.int 1)) (.call "_law_draw" (.cons (.loc 0) (.cons (.lit (.int 3)) .nil)))) (.cons (.lst true .nil) (.cons (.lst true .nil) .nil))))) (.seq (.for_ (.nm 3) (.iR1 (.loc 8)) (.seq (.ex (.app (.loc 9) (.bi .tuple1 (.cons (.comp false [12] (.nm 12) (.iR1 (.loc 1)) .nop (.ix (.lst false (.cons (.lit (.int 0)) (.cons (.lit (.int 0)) (.cons (.lit (.int 1)) (.cons (.call "_law_draw" (.cons (.loc 0) (.cons (.lit (.int 4)) .nil))) .nil))))) (.call "_law_draw" (.cons (.loc 0) (.cons (.lit (.int 4)) .nil))))) .nil)))) .skip)) (.seq (.for_ (.nm 4) (.iR1 (.loc 7)) (.seq (.for_ (.nm 3) (.iR1 (.loc 8)) (.seq (.ife (.and (.cmp .lt (.bi .len (.cons (.loc 10) .nil)) (.lit (.int 10))) (.cmp .gt (.call "_law_draw" (.cons (.loc 0) (.cons (.lit (.int 4)) .nil))) (.lit (.int 0)))) (.seq (.ex (.app (.loc 10) (.tup (.cons (.loc 4) (.cons (.loc 3) (.cons (.call "_law_draw" (.cons (.loc 0) (.cons (.loc 7) .nil))) (.cons (.call "_law_gaps" (.cons (.loc 0) (.cons (.loc 1) .nil))) .nil))))))) .skip) .skip) .skip)) .skip)) (.seq (.asg (.nm 5) (.bi .tuple1 (.cons (.comp false [4] (.nm 4) (.iR1 (.loc 7)) (.cnd (.cmp .eq (.call "_law_draw" (.cons (.loc 0) (.cons (.lit (.int 2)) .nil))) (.lit (.int 0)))) (.loc 4)) .nil))) (.seq (.asg (.nm 6) (.comp false [4] (.nm 4) (.iR1 (.loc 7)) .nop (.tup (.cons (.loc 4) (.cons (.bin .add (.lit (.int 1)) (.call "_law_draw" (.cons (.loc 0) (.cons (.lit (.int 6)) .nil)))) (.cons (.bin .add (.lit (.int 1)) (.call "_law_draw" (.cons (.loc 0) (.cons (.lit (.int 9)) .nil)))) .nil)))))) (.seq (.asg (.nm 6) (.bi .tuple1 (.cons (.comp false [11] (.nm 11) (.iVal (.loc 6)) (.cnd (.cmp .eq (.call "_law_draw" (.cons (.loc 0) (.cons (.lit (.int 2)) .nil))) (.lit (.int 0)))) (.loc 11)) .nil))) (.seq (.ret (.tup (.cons (.loc 1) (.cons (.loc 7) (.cons (.bi .tuple1 (.cons (.loc 9) .nil)) (.cons (.bi .tuple1 (.cons (.loc 10) .nil)) (.cons (.loc 5) (.cons (.loc 6) .nil)))))))) .skip)))))))
def fB_law_doors : S := (.seq (.ret (.bi .dict1 (.cons (.comp false [2, 3, 4, 5] (.cons (.nm 2) (.cons (.nm 3) (.cons (.nm 4) (.cons (.nm 5) .nil)))) (.iVal (.ix (.loc 0) (.lit (.int 3)))) (.cnd (.cmp .eq (.loc 2) (.loc 1))) (.tup (.cons (.loc 3) (.cons (.tup (.cons (.loc 4) (.cons (.loc 5) .nil))) .nil)))) .nil))) .skip)
def fB_law_deeds : S := (.seq (.asg (.nm 2) (.comp false [4] (.nm 4) (.iVal (.bi (.srt1 false) (.cons (.call "_law_doors" (.cons (.loc 0) (.cons (.loc 1) .nil))) .nil))) .nop (.tup (.cons (.lit (.str "go")) (.cons (.loc 4) .nil))))) (.seq (.asg (.nm 3) (.lsR false false (.lit (.int 0)) (.ix (.loc 0) (.lit (.int 0))))) (.seq (.asg (.nm 2) (.bin .add (.loc 2) (.comp false [5] (.nm 5) (.iVal (.loc 3)) (.cnd (.cmp .isin (.loc 1) (.ix (.loc 0) (.lit (.int 4))))) (.tup (.cons (.lit (.str "file")) (.cons (.loc 5) .nil)))))) (.seq (.ret (.bin .add (.loc 2) (.comp false [5] (.nm 5) (.iVal (.loc 3)) (.cnd (.cmp .isin (.loc 1) (.comp false [6] (.nm 6) (.iVal (.ix (.loc 0) (.lit (.int 5)))) .nop (.ix (.loc 6) (.lit (.int 0)))))) (.tup (.cons (.lit (.str "lift")) (.cons (.loc 5) .nil)))))) .skip))))
def fB_law_to : S := (.seq (.ret (.ite (.cmp .eq (.ix (.loc 2) (.lit (.int 0))) (.lit (.str "go"))) (.ix (.ix (.call "_law_doors" (.cons (.loc 0) (.cons (.loc 1) .nil))) (.ix (.loc 2) (.lit (.int 1)))) (.lit (.int 0))) (.loc 1))) .skip)
def fB_law_laid_row : S := (.seq (.asg (.nm 4) (.tup .nil)) (.seq (.for_ (.nm 5) (.iR1 (.call "_law_draw" (.cons (.loc 0) (.cons (.bin .add (.loc 3) (.lit (.int 1))) .nil)))) (.seq (.asg (.nm 6) (.call "_law_deeds" (.cons (.loc 1) (.cons (.loc 2) .nil)))) (.seq (.ife (.cmp .ne (.loc 6) (.lst false .nil)) (.seq (.asg (.nm 4) (.bin .add (.loc 4) (.tup (.cons (.call "_law_pick" (.cons (.loc 0) (.cons (.loc 6) .nil))) .nil)))) (.seq (.asg (.nm 2) (.call "_law_to" (.cons (.loc 1) (.cons (.loc 2) (.cons (.ix (.loc 4) (.neg (.lit (.int 1)))) .nil))))) .skip)) .skip) .skip))) (.seq (.ret (.loc 4)) .skip)))
def fB_law_round_row : S := (.seq (.par [4, 5, 6] (.cons (.call "_law_laid_row" (.cons (.loc 0) (.cons (.loc 1) (.cons (.loc 2) (.cons (.loc 3) .nil))))) (.cons (.loc 2) (.cons (.tup .nil) .nil)))) (.seq (.for_ (.cons (.nm 7) (.cons (.nm 8) .nil)) (.iEnu (.loc 4)) (.seq (.asg (.nm 5) (.call "_law_to" (.cons (.loc 1) (.cons (.loc 5) (.cons (.loc 8) .nil))))) (.seq (.ife (.cmp .eq (.loc 5) (.loc 2)) (.seq (.asg (.nm 6) (.sl (.loc 4) .nop (.prt (.bin .add (.loc 7) (.lit (.int 1)))))) .skip) .skip) .skip))) (.seq (.ret (.loc 6)) .skip)))
end Hf
end

section
set_option Elab.async false
set_option linter.all false
set_option maxRecDepth 100000
namespace Hf
open PySem Iw
structure Lk (P : Pg) : Prop where
  is_whole : P.lookup ("is_whole" : Str) = some ⟨1, 1, false, f_is_whole⟩
  is_among : P.lookup ("is_among" : Str) = some ⟨3, 3, false, f_is_among⟩
  are_some : P.lookup ("are_some" : Str) = some ⟨3, 3, false, f_are_some⟩
  rises : P.lookup ("rises" : Str) = some ⟨1, 3, false, f_rises⟩
  is_height : P.lookup ("is_height" : Str) = some ⟨1, 1, false, f_is_height⟩
  is_gap : P.lookup ("is_gap" : Str) = some ⟨1, 2, false, f_is_gap⟩
  is_box_by : P.lookup ("is_box_by" : Str) = some ⟨2, 3, false, f_is_box_by⟩
  is_wear : P.lookup ("is_wear" : Str) = some ⟨2, 3, false, f_is_wear⟩
  is_door : P.lookup ("is_door" : Str) = some ⟨4, 5, false, f_is_door⟩
  are_doors : P.lookup ("are_doors" : Str) = some ⟨4, 6, false, f_are_doors⟩
  is_smith : P.lookup ("is_smith" : Str) = some ⟨2, 2, false, f_is_smith⟩
  are_benches : P.lookup ("are_benches" : Str) = some ⟨2, 3, false, f_are_benches⟩
  are_smiths : P.lookup ("are_smiths" : Str) = some ⟨2, 3, false, f_are_smiths⟩
  is_house : P.lookup ("is_house" : Str) = some ⟨1, 8, false, f_is_house⟩
  need_house : P.lookup ("need_house" : Str) = some ⟨1, 1, false, f_need_house⟩
  is_hall : P.lookup ("is_hall" : Str) = some ⟨2, 2, false, f_is_hall⟩
  need_hall : P.lookup ("need_hall" : Str) = some ⟨2, 2, false, f_need_hall⟩
  is_deed : P.lookup ("is_deed" : Str) = some ⟨2, 2, false, f_is_deed⟩
  door_at : P.lookup ("door_at" : Str) = some ⟨3, 5, false, f_door_at⟩
  smith_at : P.lookup ("smith_at" : Str) = some ⟨2, 3, false, f_smith_at⟩
  is_away : P.lookup ("is_away" : Str) = some ⟨3, 3, false, f_is_away⟩
  hall_behind : P.lookup ("hall_behind" : Str) = some ⟨3, 3, false, f_hall_behind⟩
  wear_of : P.lookup ("wear_of" : Str) = some ⟨3, 3, false, f_wear_of⟩
  gap_of : P.lookup ("gap_of" : Str) = some ⟨4, 4, false, f_gap_of⟩
  need_row : P.lookup ("need_row" : Str) = some ⟨2, 3, false, f_need_row⟩
  away_at : P.lookup ("away_at" : Str) = some ⟨3, 5, false, f_away_at⟩
  first_away : P.lookup ("first_away" : Str) = some ⟨3, 3, false, f_first_away⟩
  need_laid : P.lookup ("need_laid" : Str) = some ⟨3, 3, false, f_need_laid⟩
  height_behind : P.lookup ("height_behind" : Str) = some ⟨5, 8, false, f_height_behind⟩
  does_by : P.lookup ("does_by" : Str) = some ⟨3, 6, false, f_does_by⟩
  does : P.lookup ("does" : Str) = some ⟨3, 3, false, f_does⟩
  box_by : P.lookup ("box_by" : Str) = some ⟨1, 6, false, f_box_by⟩
  box_of : P.lookup ("box_of" : Str) = some ⟨3, 3, false, f_box_of⟩
  box_behind : P.lookup ("box_behind" : Str) = some ⟨3, 8, false, f_box_behind⟩
  need_teeth : P.lookup ("need_teeth" : Str) = some ⟨1, 1, false, f_need_teeth⟩
  is_key_by : P.lookup ("is_key_by" : Str) = some ⟨2, 3, false, f_is_key_by⟩
  is_key : P.lookup ("is_key" : Str) = some ⟨2, 2, false, f_is_key⟩
  is_box : P.lookup ("is_box" : Str) = some ⟨2, 2, false, f_is_box⟩
  need_box : P.lookup ("need_box" : Str) = some ⟨2, 2, false, f_need_box⟩
  common_by : P.lookup ("common_by" : Str) = some ⟨2, 7, false, f_common_by⟩
  common : P.lookup ("common" : Str) = some ⟨3, 3, false, f_common⟩
  has_key : P.lookup ("has_key" : Str) = some ⟨2, 5, false, f_has_key⟩
  keys_in : P.lookup ("keys_in" : Str) = some ⟨1, 7, false, f_keys_in⟩
  left_out : P.lookup ("left_out" : Str) = some ⟨3, 5, false, f_left_out⟩
  moved_end : P.lookup ("moved_end" : Str) = some ⟨3, 3, false, f_moved_end⟩
  filled_from : P.lookup ("filled_from" : Str) = some ⟨2, 8, true, f_filled_from⟩
  is_greatest : P.lookup ("is_greatest" : Str) = some ⟨3, 4, false, f_is_greatest⟩
  greatest_by : P.lookup ("greatest_by" : Str) = some ⟨1, 5, false, f_greatest_by⟩
  greatest : P.lookup ("greatest" : Str) = some ⟨2, 3, false, f_greatest⟩
  is_stand : P.lookup ("is_stand" : Str) = some ⟨2, 2, false, f_is_stand⟩
  need_stand : P.lookup ("need_stand" : Str) = some ⟨2, 2, false, f_need_stand⟩
  bar_of : P.lookup ("bar_of" : Str) = some ⟨3, 9, false, f_bar_of⟩
  done_by : P.lookup ("done_by" : Str) = some ⟨3, 8, false, f_done_by⟩
  bar_at : P.lookup ("bar_at" : Str) = some ⟨3, 6, false, f_bar_at⟩
  first_barred : P.lookup ("first_barred" : Str) = some ⟨3, 3, false, f_first_barred⟩
  behind_by : P.lookup ("behind_by" : Str) = some ⟨3, 4, false, f_behind_by⟩
  behind : P.lookup ("behind" : Str) = some ⟨3, 3, false, f_behind⟩
  halls_of : P.lookup ("halls_of" : Str) = some ⟨3, 5, false, f_halls_of⟩
  ends_in : P.lookup ("ends_in" : Str) = some ⟨3, 3, false, f_ends_in⟩
  coins_by : P.lookup ("coins_by" : Str) = some ⟨3, 5, false, f_coins_by⟩
  coins_of : P.lookup ("coins_of" : Str) = some ⟨3, 3, false, f_coins_of⟩
  whole_box : P.lookup ("whole_box" : Str) = some ⟨1, 1, false, f_whole_box⟩
  led : P.lookup ("led" : Str) = some ⟨2, 4, false, f_led⟩
  parts : P.lookup ("parts" : Str) = some ⟨4, 14, false, f_parts⟩
  need_key : P.lookup ("need_key" : Str) = some ⟨2, 2, false, f_need_key⟩
  need_round : P.lookup ("need_round" : Str) = some ⟨3, 3, false, f_need_round⟩
  need_times : P.lookup ("need_times" : Str) = some ⟨1, 1, false, f_need_times⟩
  often_by : P.lookup ("often_by" : Str) = some ⟨2, 3, false, f_often_by⟩
  how_often : P.lookup ("how_often" : Str) = some ⟨4, 4, false, f_how_often⟩
  key_far : P.lookup ("key_far" : Str) = some ⟨5, 8, false, f_key_far⟩
  put_behind : P.lookup ("put_behind" : Str) = some ⟨2, 6, false, f_put_behind⟩
  box_far : P.lookup ("box_far" : Str) = some ⟨4, 7, false, f_box_far⟩
structure LkD (P : Pg) : Prop where
  law_cell_at : P.lookup ("_law_cell_at" : Str) = some ⟨2, 2, false, fD_law_cell_at⟩
  law_pen : P.lookup ("_law_pen" : Str) = some ⟨1, 1, true, fD_law_pen⟩
  law_draw : P.lookup ("_law_draw" : Str) = some ⟨2, 4, false, fD_law_draw⟩
structure LkK (P : Pg) : Prop where
  law_key : P.lookup ("_law_key" : Str) = some ⟨2, 3, false, fK_law_key⟩
structure LkB (P : Pg) : Prop where
  law_pick : P.lookup ("_law_pick" : Str) = some ⟨2, 2, false, fB_law_pick⟩
  law_gaps : P.lookup ("_law_gaps" : Str) = some ⟨2, 5, false, fB_law_gaps⟩
  law_drawn_house : P.lookup ("_law_drawn_house" : Str) = some ⟨3, 13, false, fB_law_drawn_house⟩
  law_doors : P.lookup ("_law_doors" : Str) = some ⟨2, 6, true, fB_law_doors⟩
  law_deeds : P.lookup ("_law_deeds" : Str) = some ⟨2, 7, false, fB_law_deeds⟩
  law_to : P.lookup ("_law_to" : Str) = some ⟨3, 3, false, fB_law_to⟩
  law_laid_row : P.lookup ("_law_laid_row" : Str) = some ⟨4, 7, false, fB_law_laid_row⟩
  law_round_row : P.lookup ("_law_round_row" : Str) = some ⟨4, 9, false, fB_law_round_row⟩
end Hf
end

section
set_option Elab.async false
set_option linter.all false
set_option maxRecDepth 100000
namespace Hd
open PySem Iw
def f_is_whole : S := (.seq (.ret (.and (.isi (.loc 0) "int") (.not (.isi (.loc 0) "bool")))) .skip)
def f_is_among : S := (.seq (.ret (.and (.call "is_whole" (.cons (.loc 0) .nil)) (.chain .le .le (.loc 1) (.loc 0) (.loc 2)))) .skip)
def f_are_some : S := (.seq (.ret (.and (.isi (.loc 0) "tuple") (.chain .le .le (.loc 1) (.bi .len (.cons (.loc 0) .nil)) (.loc 2)))) .skip)
def f_rises : S := (.seq (.ret (.bi .all (.cons (.comp false [1, 2] (.cons (.nm 1) (.cons (.nm 2) .nil)) (.iZip (.loc 0) (.sl (.loc 0) (.prt (.lit (.int 1))) .nop)) .nop (.cmp .lt (.loc 1) (.loc 2))) .nil))) .skip)
def f_is_height : S := (.seq (.ret (.call "is_among" (.cons (.loc 0) (.cons (.lit (.int 0)) (.cons (.lit (.int 6)) .nil))))) .skip)
def f_is_key_by : S := (.seq (.ret (.and (.call "are_some" (.cons (.loc 1) (.cons (.loc 0) (.cons (.loc 0) .nil)))) (.bi .all (.cons (.comp false [2] (.nm 2) (.iVal (.loc 1)) .nop (.call "is_height" (.cons (.loc 2) .nil))) .nil)))) .skip)
def f_need_key : S := (.seq (.ife (.not (.call "is_key_by" (.cons (.loc 0) (.cons (.loc 1) .nil)))) (.seq .stk .skip) .skip) .skip)
def f_is_gap : S := (.seq (.ret (.and (.call "are_some" (.cons (.loc 0) (.cons (.lit (.int 2)) (.cons (.lit (.int 2)) .nil)))) (.and (.bi .all (.cons (.comp false [1] (.nm 1) (.iVal (.loc 0)) .nop (.call "is_height" (.cons (.loc 1) .nil))) .nil)) (.cmp .le (.ix (.loc 0) (.lit (.int 0))) (.ix (.loc 0) (.lit (.int 1))))))) .skip)
def f_is_box_by : S := (.seq (.ret (.and (.call "are_some" (.cons (.loc 1) (.cons (.loc 0) (.cons (.loc 0) .nil)))) (.bi .all (.cons (.comp false [2] (.nm 2) (.iVal (.loc 1)) .nop (.call "is_gap" (.cons (.loc 2) .nil))) .nil)))) .skip)
def f_whole_box : S := (.seq (.ret (.bin .mul (.tup (.cons (.tup (.cons (.lit (.int 0)) (.cons (.lit (.int 6)) .nil))) .nil)) (.loc 0))) .skip)
def f_common_by : S := (.seq (.asg (.nm 2) (.bi .tuple1 (.cons (.comp false [3, 4] (.cons (.nm 3) (.cons (.nm 4) .nil)) (.iZip (.loc 0) (.loc 1)) .nop (.tup (.cons (.bi .max2 (.cons (.ix (.loc 3) (.lit (.int 0))) (.cons (.ix (.loc 4) (.lit (.int 0))) .nil))) (.cons (.bi .min2 (.cons (.ix (.loc 3) (.lit (.int 1))) (.cons (.ix (.loc 4) (.lit (.int 1))) .nil))) .nil)))) .nil))) (.seq (.ret (.ite (.bi .all (.cons (.comp false [5, 6] (.cons (.nm 5) (.cons (.nm 6) .nil)) (.iVal (.loc 2)) .nop (.cmp .le (.loc 5) (.loc 6))) .nil)) (.loc 2) (.lit .none))) .skip))
def f_has_key : S := (.seq (.ret (.bi .all (.cons (.comp false [3, 4, 2] (.cons (.cons (.nm 3) (.cons (.nm 4) .nil)) (.cons (.nm 2) .nil)) (.iZip (.loc 0) (.loc 1)) .nop (.chain .le .le (.loc 3) (.loc 2) (.loc 4))) .nil))) .skip)
def f_has_box : S := (.seq (.ret (.bi .all (.cons (.comp false [3, 4, 2] (.cons (.cons (.nm 3) (.cons (.nm 4) .nil)) (.cons (.nm 2) .nil)) (.iZip (.loc 0) (.loc 1)) .nop (.and (.cmp .le (.loc 3) (.ix (.loc 2) (.lit (.int 0)))) (.cmp .le (.ix (.loc 2) (.lit (.int 1))) (.loc 4)))) .nil))) .skip)
def f_keys_in : S := (.seq (.asg (.nm 1) (.lst false (.cons (.tup .nil) .nil))) (.seq (.for_ (.cons (.nm 2) (.cons (.nm 3) .nil)) (.iVal (.loc 0)) (.seq (.asg (.nm 4) (.lst true .nil)) (.seq (.for_ (.nm 5) (.iVal (.loc 1)) (.seq (.ex (.ext (.loc 4) (.comp false [6] (.nm 6) (.iR2 (.loc 2) (.bin .add (.loc 3) (.lit (.int 1)))) .nop (.bin .add (.loc 5) (.tup (.cons (.loc 6) .nil)))))) .skip)) (.seq (.asg (.nm 1) (.loc 4)) .skip)))) (.seq (.ret (.loc 1)) .skip)))
def f_moved_end : S := (.seq (.ret (.bin .add (.bin .add (.sl (.loc 0) .nop (.prt (.loc 1))) (.tup (.cons (.bin .add (.ix (.loc 0) (.loc 1)) (.loc 2)) .nil))) (.sl (.loc 0) (.prt (.bin .add (.loc 1) (.lit (.int 1)))) .nop))) .skip)
def f_filled_from : S := (.seq (.asg (.nm 2) (.dnew true)) (.seq (.for_ (.nm 3) (.iVal (.bi (.srt1 false) (.cons (.loc 0) .nil))) (.seq (.ife (.bi .all (.cons (.comp false [6, 7] (.cons (.nm 6) (.cons (.nm 7) .nil)) (.iZip (.loc 3) (.loc 1)) .nop (.cmp .ge (.loc 6) (.loc 7))) .nil)) (.seq (.asg (.nm 4) (.comp false [5] (.nm 5) (.iR1 (.bi .len (.cons (.loc 1) .nil))) (.cnd (.cmp .gt (.ix (.loc 3) (.loc 5)) (.ix (.loc 1) (.loc 5)))) (.loc 5))) (.seq (.ife (.bi .all (.cons (.comp false [5] (.nm 5) (.iVal (.loc 4)) .nop (.cmp .isin (.call "moved_end" (.cons (.loc 3) (.cons (.loc 5) (.cons (.neg (.lit (.int 1))) .nil)))) (.loc 2))) .nil)) (.seq (.sub (.loc 2) (.loc 3) (.lit (.bool true))) .skip) .skip) .skip)) .skip) .skip)) (.seq (.ret (.loc 2)) .skip)))
def f_is_greatest : S := (.seq (.for_ (.nm 3) (.iR1 (.bi .len (.cons (.loc 1) .nil))) (.seq (.ife (.cmp .isin (.call "moved_end" (.cons (.loc 2) (.cons (.loc 3) (.cons (.lit (.int 1)) .nil)))) (.ix (.loc 0) (.loc 1))) (.seq (.ret (.lit (.bool false))) .skip) .skip) (.seq (.ife (.cmp .isin (.loc 2) (.dget (.loc 0) (.call "moved_end" (.cons (.loc 1) (.cons (.loc 3) (.cons (.neg (.lit (.int 1))) .nil)))) (.dnew true))) (.seq (.ret (.lit (.bool false))) .skip) .skip) .skip))) (.seq (.ret (.lit (.bool true))) .skip))
def f_greatest_by : S := (.seq (.asg (.nm 1) (.lk (.loc 0) (.dcp [3] (.nm 3) (.iVal (.loc 0)) .nop (.loc 3) (.call "filled_from" (.cons (.loc 0) (.cons (.loc 3) .nil)))))) (.seq (.asg (.nm 2) (.lst true .nil)) (.seq (.lkS (.loc 1) (.for_ (.nm 3) (.iVal (.loc 1)) (.seq (.ex (.ext (.loc 2) (.lk (.ix (.loc 1) (.loc 3)) (.comp false [4] (.nm 4) (.iVal (.ix (.loc 1) (.loc 3))) (.cnd (.call "is_greatest" (.cons (.loc 1) (.cons (.loc 3) (.cons (.loc 4) .nil))))) (.bi .tuple1 (.cons (.lz (.loc 3) (.loc 4)) .nil)))))) .skip))) (.seq (.ret (.bi .tuple1 (.cons (.bi (.srt1 false) (.cons (.loc 2) .nil)) .nil))) .skip))))
def f_is_wear : S := (.seq (.ret (.and (.call "are_some" (.cons (.loc 1) (.cons (.loc 0) (.cons (.loc 0) .nil)))) (.bi .all (.cons (.comp false [2] (.nm 2) (.iVal (.loc 1)) .nop (.call "is_among" (.cons (.loc 2) (.cons (.lit (.int 0)) (.cons (.lit (.int 3)) .nil))))) .nil)))) .skip)
def f_is_door : S := (.seq (.ife (.or (.not (.call "are_some" (.cons (.loc 3) (.cons (.lit (.int 4)) (.cons (.lit (.int 4)) .nil))))) (.not (.bi .all (.cons (.comp false [4] (.nm 4) (.iVal (.tup (.cons (.ix (.loc 3) (.lit (.int 0))) (.cons (.ix (.loc 3) (.lit (.int 2))) .nil)))) .nop (.call "is_among" (.cons (.loc 4) (.cons (.lit (.int 0)) (.cons (.bin .sub (.loc 1) (.lit (.int 1))) .nil))))) .nil)))) (.seq (.ret (.lit (.bool false))) .skip) .skip) (.seq (.ret (.and (.call "is_among" (.cons (.ix (.loc 3) (.lit (.int 1))) (.cons (.lit (.int 0)) (.cons (.bin .sub (.loc 2) (.lit (.int 1))) .nil)))) (.call "is_box_by" (.cons (.loc 0) (.cons (.ix (.loc 3) (.lit (.int 3))) .nil))))) .skip))
def f_are_doors : S := (.seq (.ife (.or (.not (.call "are_some" (.cons (.loc 3) (.cons (.lit (.int 0)) (.cons (.lit (.int 10)) .nil))))) (.not (.bi .all (.cons (.comp false [5] (.nm 5) (.iVal (.loc 3)) .nop (.call "is_door" (.cons (.loc 0) (.cons (.loc 1) (.cons (.loc 2) (.cons (.loc 5) .nil)))))) .nil)))) (.seq (.ret (.lit (.bool false))) .skip) .skip) (.seq (.ret (.call "rises" (.cons (.comp false [4] (.nm 4) (.iVal (.loc 3)) .nop (.sl (.loc 4) .nop (.prt (.lit (.int 2))))) .nil))) .skip))
def f_is_smith : S := (.seq (.ife (.or (.not (.call "are_some" (.cons (.loc 1) (.cons (.lit (.int 3)) (.cons (.lit (.int 3)) .nil))))) (.not (.call "is_among" (.cons (.ix (.loc 1) (.lit (.int 0))) (.cons (.lit (.int 0)) (.cons (.bin .sub (.loc 0) (.lit (.int 1))) .nil)))))) (.seq (.ret (.lit (.bool false))) .skip) .skip) (.seq (.ret (.and (.call "is_among" (.cons (.ix (.loc 1) (.lit (.int 1))) (.cons (.lit (.int 1)) (.cons (.lit (.int 6)) .nil)))) (.call "is_among" (.cons (.ix (.loc 1) (.lit (.int 2))) (.cons (.lit (.int 1)) (.cons (.lit (.int 9)) .nil)))))) .skip))
def f_are_benches : S := (.seq (.ret (.and (.isi (.loc 1) "tuple") (.and (.bi .all (.cons (.comp false [2] (.nm 2) (.iVal (.loc 1)) .nop (.call "is_among" (.cons (.loc 2) (.cons (.lit (.int 0)) (.cons (.bin .sub (.loc 0) (.lit (.int 1))) .nil))))) .nil)) (.call "rises" (.cons (.loc 1) .nil))))) .skip)
def f_are_smiths : S := (.seq (.ife (.or (.not (.isi (.loc 1) "tuple")) (.not (.bi .all (.cons (.comp false [2] (.nm 2) (.iVal (.loc 1)) .nop (.call "is_smith" (.cons (.loc 0) (.cons (.loc 2) .nil)))) .nil)))) (.seq (.ret (.lit (.bool false))) .skip) .skip) (.seq (.ret (.call "rises" (.cons (.comp false [2] (.nm 2) (.iVal (.loc 1)) .nop (.ix (.loc 2) (.lit (.int 0)))) .nil))) .skip))
def f_is_house : S := (.seq (.ife (.or (.not (.call "are_some" (.cons (.loc 0) (.cons (.lit (.int 6)) (.cons (.lit (.int 6)) .nil))))) (.or (.not (.call "is_among" (.cons (.ix (.loc 0) (.lit (.int 0))) (.cons (.lit (.int 1)) (.cons (.lit (.int 3)) .nil))))) (.not (.call "is_among" (.cons (.ix (.loc 0) (.lit (.int 1))) (.cons (.lit (.int 1)) (.cons (.lit (.int 6)) .nil))))))) (.seq (.ret (.lit (.bool false))) .skip) .skip) (.seq (.asg (.cons (.nm 1) (.cons (.nm 2) (.cons (.nm 3) (.cons (.nm 4) (.cons (.nm 5) (.cons (.nm 6) .nil)))))) (.loc 0)) (.seq (.ife (.or (.not (.call "are_some" (.cons (.loc 3) (.cons (.lit (.int 1)) (.cons (.lit (.int 6)) .nil))))) (.not (.bi .all (.cons (.comp false [7] (.nm 7) (.iVal (.loc 3)) .nop (.call "is_wear" (.cons (.loc 1) (.cons (.loc 7) .nil)))) .nil)))) (.seq (.ret (.lit (.bool false))) .skip) .skip) (.seq (.ife (.not (.call "are_doors" (.cons (.loc 1) (.cons (.loc 2) (.cons (.bi .len (.cons (.loc 3) .nil)) (.cons (.loc 4) .nil)))))) (.seq (.ret (.lit (.bool false))) .skip) .skip) (.seq (.ret (.and (.call "are_benches" (.cons (.loc 2) (.cons (.loc 5) .nil))) (.call "are_smiths" (.cons (.loc 2) (.cons (.loc 6) .nil))))) .skip)))))
def f_need_house : S := (.seq (.ife (.not (.call "is_house" (.cons (.loc 0) .nil))) (.seq .stk .skip) .skip) .skip)
def f_is_hall : S := (.seq (.ret (.call "is_among" (.cons (.loc 1) (.cons (.lit (.int 0)) (.cons (.bin .sub (.ix (.loc 0) (.lit (.int 1))) (.lit (.int 1))) .nil))))) .skip)
def f_need_hall : S := (.seq (.ex (.call "need_house" (.cons (.loc 0) .nil))) (.seq (.ife (.not (.call "is_hall" (.cons (.loc 0) (.cons (.loc 1) .nil)))) (.seq .stk .skip) .skip) .skip))
def f_is_deed : S := (.seq (.ife (.or (.not (.call "are_some" (.cons (.loc 1) (.cons (.lit (.int 2)) (.cons (.lit (.int 2)) .nil))))) (.or (.not (.isi (.ix (.loc 1) (.lit (.int 0))) "str")) (.cmp .nin (.ix (.loc 1) (.lit (.int 0))) (.tup (.cons (.lit (.str "go")) (.cons (.lit (.str "file")) (.cons (.lit (.str "lift")) .nil))))))) (.seq (.ret (.lit (.bool false))) .skip) .skip) (.seq (.ret (.call "is_among" (.cons (.ix (.loc 1) (.lit (.int 1))) (.cons (.lit (.int 0)) (.cons (.bin .sub (.ite (.cmp .eq (.ix (.loc 1) (.lit (.int 0))) (.lit (.str "go"))) (.bi .len (.cons (.ix (.loc 0) (.lit (.int 2))) .nil)) (.ix (.loc 0) (.lit (.int 0)))) (.lit (.int 1))) .nil))))) .skip))
def f_door_at : S := (.seq (.for_ (.cons (.nm 3) (.cons (.nm 4) .nil)) (.iEnu (.ix (.loc 0) (.lit (.int 3)))) (.seq (.ife (.cmp .eq (.sl (.loc 4) .nop (.prt (.lit (.int 2)))) (.tup (.cons (.loc 1) (.cons (.loc 2) .nil)))) (.seq (.ret (.loc 3)) .skip) .skip) .skip)) (.seq (.ret (.lit .none)) .skip))
def f_smith_at : S := (.seq (.for_ (.nm 2) (.iVal (.ix (.loc 0) (.lit (.int 5)))) (.seq (.ife (.cmp .eq (.ix (.loc 2) (.lit (.int 0))) (.loc 1)) (.seq (.ret (.loc 2)) .skip) .skip) .skip)) (.seq (.ret (.lit .none)) .skip))
def f_is_away : S := (.seq (.ife (.cmp .eq (.ix (.loc 2) (.lit (.int 0))) (.lit (.str "go"))) (.seq (.ret (.isNon (.call "door_at" (.cons (.loc 0) (.cons (.loc 1) (.cons (.ix (.loc 2) (.lit (.int 1))) .nil)))))) .skip) .skip) (.seq (.ret (.ite (.cmp .eq (.ix (.loc 2) (.lit (.int 0))) (.lit (.str "file"))) (.cmp .nin (.loc 1) (.ix (.loc 0) (.lit (.int 4)))) (.isNon (.call "smith_at" (.cons (.loc 0) (.cons (.loc 1) .nil)))))) .skip))
def f_hall_behind : S := (.seq (.ret (.ite (.cmp .eq (.ix (.loc 2) (.lit (.int 0))) (.lit (.str "go"))) (.ix (.ix (.ix (.loc 0) (.lit (.int 3))) (.call "door_at" (.cons (.loc 0) (.cons (.loc 1) (.cons (.ix (.loc 2) (.lit (.int 1))) .nil))))) (.lit (.int 2))) (.loc 1))) .skip)
def f_wear_of : S := (.seq (.ife (.cmp .eq (.ix (.loc 1) (.lit (.int 0))) (.lit (.str "go"))) (.seq (.ret (.ix (.ix (.ix (.loc 0) (.lit (.int 2))) (.ix (.loc 1) (.lit (.int 1)))) (.loc 2))) .skip) .skip) (.seq (.ret (.ite (.cmp .eq (.ix (.loc 1) (.lit (.int 0))) (.lit (.str "file"))) (.bi .int1 (.cons (.cmp .eq (.ix (.loc 1) (.lit (.int 1))) (.loc 2)) .nil)) (.bin .sub (.lit (.int 0)) (.bi .int1 (.cons (.cmp .eq (.ix (.loc 1) (.lit (.int 1))) (.loc 2)) .nil))))) .skip))
def f_gap_of : S := (.seq (.ife (.cmp .eq (.ix (.loc 2) (.lit (.int 0))) (.lit (.str "go"))) (.seq (.ret (.ix (.ix (.ix (.ix (.loc 0) (.lit (.int 3))) (.call "door_at" (.cons (.loc 0) (.cons (.loc 1) (.cons (.ix (.loc 2) (.lit (.int 1))) .nil))))) (.lit (.int 3))) (.loc 3))) .skip) .skip) (.seq (.ife (.cmp .ne (.ix (.loc 2) (.lit (.int 1))) (.loc 3)) (.seq (.ret (.tup (.cons (.lit (.int 0)) (.cons (.lit (.int 6)) .nil)))) .skip) .skip) (.seq (.ret (.ite (.cmp .eq (.ix (.loc 2) (.lit (.int 0))) (.lit (.str "file"))) (.tup (.cons (.lit (.int 1)) (.cons (.lit (.int 6)) .nil))) (.tup (.cons (.lit (.int 0)) (.cons (.bin .sub (.ix (.call "smith_at" (.cons (.loc 0) (.cons (.loc 1) .nil))) (.lit (.int 1))) (.lit (.int 1))) .nil))))) .skip)))
def f_need_row : S := (.seq (.ife (.or (.not (.isi (.loc 1) "tuple")) (.not (.bi .all (.cons (.comp false [2] (.nm 2) (.iVal (.loc 1)) .nop (.call "is_deed" (.cons (.loc 0) (.cons (.loc 2) .nil)))) .nil)))) (.seq .stk .skip) .skip) .skip)
def f_away_at : S := (.seq (.for_ (.cons (.nm 3) (.cons (.nm 4) .nil)) (.iEnu (.loc 2)) (.seq (.ife (.call "is_away" (.cons (.loc 0) (.cons (.loc 1) (.cons (.loc 4) .nil)))) (.seq (.ret (.loc 3)) .skip) .skip) (.seq (.asg (.nm 1) (.call "hall_behind" (.cons (.loc 0) (.cons (.loc 1) (.cons (.loc 4) .nil))))) .skip))) (.seq (.ret (.lit .none)) .skip))
def f_first_away : S := (.seq (.ex (.call "need_hall" (.cons (.loc 0) (.cons (.loc 1) .nil)))) (.seq (.ex (.call "need_row" (.cons (.loc 0) (.cons (.loc 2) .nil)))) (.seq (.ret (.call "away_at" (.cons (.loc 0) (.cons (.loc 1) (.cons (.loc 2) .nil))))) .skip)))
def f_need_laid : S := (.seq (.ife (.notNon (.call "first_away" (.cons (.loc 0) (.cons (.loc 1) (.cons (.loc 2) .nil))))) (.seq .stk .skip) .skip) .skip)
def f_halls_of : S := (.seq (.asg (.nm 3) (.lst true (.cons (.loc 1) .nil))) (.seq (.for_ (.nm 4) (.iVal (.loc 2)) (.seq (.ex (.app (.loc 3) (.call "hall_behind" (.cons (.loc 0) (.cons (.ix (.loc 3) (.neg (.lit (.int 1)))) (.cons (.loc 4) .nil)))))) .skip)) (.seq (.ret (.loc 3)) .skip)))
def f_height_behind : S := (.seq (.for_ (.nm 5) (.iVal (.loc 2)) (.seq (.asg (.cons (.nm 6) (.cons (.nm 7) .nil)) (.call "gap_of" (.cons (.loc 0) (.cons (.loc 1) (.cons (.loc 5) (.cons (.loc 3) .nil)))))) (.seq (.ife (.not (.chain .le .le (.loc 6) (.loc 4) (.loc 7))) (.seq (.ret (.lit .none)) .skip) .skip) (.seq (.par [4, 1] (.cons (.bi .max2 (.cons (.lit (.int 0)) (.cons (.bin .sub (.loc 4) (.call "wear_of" (.cons (.loc 0) (.cons (.loc 5) (.cons (.loc 3) .nil))))) .nil))) (.cons (.call "hall_behind" (.cons (.loc 0) (.cons (.loc 1) (.cons (.loc 5) .nil)))) .nil))) .skip)))) (.seq (.ret (.loc 4)) .skip))
def f_does_by : S := (.seq (.asg (.nm 3) (.lst true .nil)) (.seq (.for_ (.nm 4) (.iR1 (.ix (.loc 0) (.lit (.int 0)))) (.seq (.ex (.app (.loc 3) (.bi .tuple1 (.cons (.comp false [5] (.nm 5) (.iR1 (.bin .add (.lit (.int 6)) (.lit (.int 1)))) .nop (.call "height_behind" (.cons (.loc 0) (.cons (.loc 1) (.cons (.loc 2) (.cons (.loc 4) (.cons (.loc 5) .nil))))))) .nil)))) .skip)) (.seq (.ret (.bi .tuple1 (.cons (.loc 3) .nil))) .skip)))
def f_box_by : S := (.seq (.asg (.nm 1) (.comp false [2] (.nm 2) (.iVal (.loc 0)) .nop (.comp false [3, 4] (.cons (.nm 3) (.cons (.nm 4) .nil)) (.iEnu (.loc 2)) (.cnd (.notNon (.loc 4))) (.loc 3)))) (.seq (.ret (.ite (.cmp .isin (.lst false .nil) (.loc 1)) (.lit .none) (.bi .tuple1 (.cons (.comp false [5] (.nm 5) (.iVal (.loc 1)) .nop (.tup (.cons (.ix (.loc 5) (.lit (.int 0))) (.cons (.ix (.loc 5) (.neg (.lit (.int 1)))) .nil)))) .nil)))) .skip))
def f_led : S := (.seq (.ret (.bi .tuple1 (.cons (.comp false [2, 3] (.cons (.nm 2) (.cons (.nm 3) .nil)) (.iZip (.loc 0) (.loc 1)) .nop (.ix (.loc 2) (.loc 3))) .nil))) .skip)
def f_need_round : S := (.seq (.ex (.call "need_laid" (.cons (.loc 0) (.cons (.loc 1) (.cons (.loc 2) .nil))))) (.seq (.ife (.cmp .ne (.ix (.call "halls_of" (.cons (.loc 0) (.cons (.loc 1) (.cons (.loc 2) .nil)))) (.neg (.lit (.int 1)))) (.loc 1)) (.seq .stk .skip) .skip) .skip))
def f_need_times : S := (.seq (.ife (.not (.call "is_among" (.cons (.loc 0) (.cons (.lit (.int 0)) (.cons (.lit (.int 1000000000000)) .nil))))) (.seq .stk .skip) .skip) .skip)
def f_often_by : S := (.seq (.for_ (.nm 2) (.iR1 (.lit (.int 7))) (.seq (.asg (.nm 1) (.call "led" (.cons (.loc 0) (.cons (.loc 1) .nil)))) (.seq (.ife (.cmp .isin (.lit .none) (.loc 1)) (.seq (.ret (.loc 2)) .skip) .skip) .skip))) (.seq (.ret (.lit .none)) .skip))
def f_how_often : S := (.seq (.ex (.call "need_round" (.cons (.loc 0) (.cons (.loc 1) (.cons (.loc 2) .nil))))) (.seq (.ex (.call "need_key" (.cons (.ix (.loc 0) (.lit (.int 0))) (.cons (.loc 3) .nil)))) (.seq (.ret (.call "often_by" (.cons (.call "does_by" (.cons (.loc 0) (.cons (.loc 1) (.cons (.loc 2) .nil)))) (.cons (.loc 3) .nil)))) .skip)))
def f_key_far : S := (.seq (.asg (.nm 5) (.call "how_often" (.cons (.loc 0) (.cons (.loc 1) (.cons (.loc 2) (.cons (.loc 3) .nil)))))) (.seq (.ex (.call "need_times" (.cons (.loc 4) .nil))) (.seq (.ife (.and (.notNon (.loc 5)) (.cmp .lt (.loc 5) (.loc 4))) (.seq .stk .skip) .skip) (.seq (.asg (.nm 6) (.call "does_by" (.cons (.loc 0) (.cons (.loc 1) (.cons (.loc 2) .nil))))) (.seq (.for_ (.nm 7) (.iR1 (.bi .min2 (.cons (.loc 4) (.cons (.lit (.int 7)) .nil)))) (.seq (.asg (.nm 3) (.call "led" (.cons (.loc 6) (.cons (.loc 3) .nil)))) .skip)) (.seq (.ret (.loc 3)) .skip))))))
def f_put_behind : S := (.seq (.asg (.nm 2) (.lst true .nil)) (.seq (.for_ (.cons (.nm 3) (.cons (.nm 4) .nil)) (.iZip (.loc 0) (.loc 1)) (.seq (.ex (.app (.loc 2) (.bi .tuple1 (.cons (.comp false [5] (.nm 5) (.iVal (.loc 3)) .nop (.ite (.isNon (.loc 5)) (.lit .none) (.ix (.loc 4) (.loc 5)))) .nil)))) .skip)) (.seq (.ret (.bi .tuple1 (.cons (.loc 2) .nil))) .skip)))
def f_box_far : S := (.seq (.ex (.call "need_round" (.cons (.loc 0) (.cons (.loc 1) (.cons (.loc 2) .nil))))) (.seq (.ex (.call "need_times" (.cons (.loc 3) .nil))) (.seq (.par [5, 6] (.cons (.call "does_by" (.cons (.loc 0) (.cons (.loc 1) (.cons (.loc 2) .nil)))) (.cons (.bin .mul (.tup (.cons (.lsR true false (.lit (.int 0)) (.bin .add (.lit (.int 6)) (.lit (.int 1)))) .nil)) (.ix (.loc 0) (.lit (.int 0)))) .nil))) (.seq (.for_ (.nm 4) (.iR1 (.bi .min2 (.cons (.loc 3) (.cons (.lit (.int 7)) .nil)))) (.seq (.asg (.nm 6) (.call "put_behind" (.cons (.loc 6) (.cons (.loc 5) .nil)))) .skip)) (.seq (.ret (.call "box_by" (.cons (.loc 6) .nil))) .skip)))))
def f_need_halls : S := (.seq (.ex (.call "need_hall" (.cons (.loc 0) (.cons (.loc 1) .nil)))) (.seq (.ex (.call "need_hall" (.cons (.loc 0) (.cons (.loc 2) .nil)))) .skip))
def f_door_of : S := (.seq (.asg (.nm 3) (.call "door_at" (.cons (.loc 0) (.cons (.loc 1) (.cons (.loc 2) .nil))))) (.seq (.ret (.ite (.isNon (.loc 3)) (.lit .none) (.sl (.ix (.ix (.loc 0) (.lit (.int 3))) (.loc 3)) (.prt (.lit (.int 2))) .nop))) .skip))
def f_let_by : S := (.seq (.asg (.nm 4) (.call "door_of" (.cons (.loc 0) (.cons (.loc 1) (.cons (.loc 2) .nil))))) (.seq (.ret (.ite (.and (.notNon (.loc 4)) (.call "has_key" (.cons (.ix (.loc 4) (.lit (.int 1))) (.cons (.loc 3) .nil)))) (.ix (.loc 4) (.lit (.int 0))) (.lit .none))) .skip))
def f_worn : S := (.seq (.ret (.bi .tuple1 (.cons (.comp false [3, 4] (.cons (.nm 3) (.cons (.nm 4) .nil)) (.iZip (.loc 2) (.ix (.ix (.loc 0) (.lit (.int 2))) (.loc 1))) .nop (.bi .max2 (.cons (.lit (.int 0)) (.cons (.bin .sub (.loc 3) (.loc 4)) .nil)))) .nil))) .skip)
def f_next_place : S := (.seq (.asg (.cons (.nm 3) (.cons (.nm 4) (.cons (.nm 5) .nil))) (.loc 1)) (.seq (.par [6, 7] (.cons (.call "let_by" (.cons (.loc 0) (.cons (.loc 3) (.cons (.loc 2) (.cons (.loc 5) .nil))))) (.cons (.call "let_by" (.cons (.loc 0) (.cons (.loc 4) (.cons (.loc 2) (.cons (.loc 5) .nil))))) .nil))) (.seq (.ife (.cmp .ne (.isNon (.loc 6)) (.isNon (.loc 7))) (.seq (.ret (.lit (.bool false))) .skip) .skip) (.seq (.ret (.ite (.isNon (.loc 6)) (.lit .none) (.tup (.cons (.loc 6) (.cons (.loc 7) (.cons (.call "worn" (.cons (.loc 0) (.cons (.loc 2) (.cons (.loc 5) .nil)))) .nil)))))) .skip))))
def f_spread : S := (.seq (.par [3, 4] (.cons (.comp true [6] (.nm 6) (.iVal (.call "keys_in" (.cons (.call "whole_box" (.cons (.ix (.loc 0) (.lit (.int 0))) .nil)) .nil))) .nop (.tup (.cons (.loc 1) (.cons (.loc 2) (.cons (.loc 6) .nil))))) (.cons .dnN .nil))) (.seq (.whl (.cmp .ne (.loc 3) (.lst false .nil)) (.seq (.asg (.nm 5) (.pop (.loc 3))) (.seq (.ife (.cmp .nin (.loc 5) (.loc 4)) (.seq (.sub (.loc 4) (.loc 5) (.comp false [7] (.nm 7) (.iR1 (.bi .len (.cons (.ix (.loc 0) (.lit (.int 2))) .nil))) .nop (.call "next_place" (.cons (.loc 0) (.cons (.loc 5) (.cons (.loc 7) .nil)))))) (.seq (.ex (.ext (.loc 3) (.comp false [8] (.nm 8) (.iVal (.ix (.loc 4) (.loc 5))) (.cnd (.loc 8)) (.loc 8)))) .skip)) .skip) .skip))) (.seq (.ret (.loc 4)) .skip)))
def f_parted : S := (.seq (.par [3, 4] (.cons .dnN (.cons .dnN .nil))) (.seq (.lkS (.loc 0) (.for_ (.cons (.nm 5) (.cons (.nm 6) .nil)) (.iDk 2 (.loc 0)) (.seq (.for_ (.nm 7) (.iVal (.loc 6)) (.seq (.ife (.loc 7) (.seq (.ex (.app (.dsetd (.loc 3) (.loc 7) (.lst true .nil)) (.loc 5))) .skip) .skip) .skip)) .skip))) (.seq (.lkS (.loc 0) (.asg (.nm 1) (.comp false [5, 6] (.cons (.nm 5) (.cons (.nm 6) .nil)) (.iDk 2 (.loc 0)) (.cnd (.bi .any (.cons (.comp false [7] (.nm 7) (.iVal (.loc 6)) .nop (.cmp .is (.loc 7) (.lit (.bool false)))) .nil))) (.loc 5)))) (.seq (.asg (.nm 2) (.lit (.int 0))) (.seq (.whl (.cmp .ne (.loc 1) (.lst false .nil)) (.seq (.asg (.nm 2) (.bin .add (.loc 2) (.lit (.int 1)))) (.seq (.ex (.dupd (.loc 4) (.comp false [5] (.nm 5) (.iVal (.loc 1)) .nop (.tup (.cons (.loc 5) (.cons (.loc 2) .nil)))))) (.seq (.asg (.nm 8) .dnN) (.seq (.for_ (.nm 5) (.iVal (.loc 1)) (.seq (.ex (.dupd (.loc 8) (.comp false [9] (.nm 9) (.iVal (.dget (.loc 3) (.loc 5) (.lst false .nil))) (.cnd (.cmp .nin (.loc 9) (.loc 4))) (.tup (.cons (.loc 9) (.cons (.lit (.bool true)) .nil)))))) .skip)) (.seq (.asg (.nm 1) (.bi (.list1 false) (.cons (.loc 8) .nil))) .skip)))))) (.seq (.ret (.loc 4)) .skip))))))
def f_word_from : S := (.seq (.asg (.nm 3) (.tup .nil)) (.seq (.whl (.cmp .gt (.ix (.loc 1) (.loc 2)) (.lit (.int 1))) (.seq (.asg (.nm 4) (.comp false [6] (.nm 6) (.iVal (.ix (.loc 0) (.loc 2))) .nop (.and (.bi .bool1 (.cons (.loc 6) .nil)) (.cmp .eq (.dget (.loc 1) (.loc 6) (.lit (.int 0))) (.bin .sub (.ix (.loc 1) (.loc 2)) (.lit (.int 1))))))) (.seq (.asg (.nm 5) (.idx (.loc 4) (.lit (.bool true)))) (.seq (.par [3, 2] (.cons (.bin .add (.loc 3) (.tup (.cons (.loc 5) .nil))) (.cons (.ix (.ix (.loc 0) (.loc 2)) (.loc 5)) .nil))) .skip)))) (.seq (.ret (.bin .add (.loc 3) (.tup (.cons (.idx (.ix (.loc 0) (.loc 2)) (.lit (.bool false))) .nil)))) .skip)))
def f_lot_of : S := (.seq (.asg (.nm 1) (.dnew true)) (.seq (.lkS (.loc 0) (.for_ (.cons (.nm 3) (.cons (.nm 4) (.cons (.nm 5) .nil))) (.iVal (.loc 0)) (.seq (.sub (.dsetd (.loc 1) (.tup (.cons (.loc 3) (.cons (.loc 4) .nil))) (.dnew true)) (.loc 5) (.lit (.bool true))) .skip))) (.seq (.asg (.nm 2) (.lst true .nil)) (.seq (.lkS (.loc 1) (.for_ (.cons (.cons (.nm 3) (.cons (.nm 4) .nil)) (.cons (.nm 6) .nil)) (.iDk 2 (.loc 1)) (.seq (.ex (.ext (.loc 2) (.comp false [7] (.nm 7) (.iVal (.call "greatest_by" (.cons (.loc 6) .nil))) .nop (.tup (.cons (.loc 3) (.cons (.loc 4) (.cons (.loc 7) .nil))))))) .skip))) (.seq (.ret (.bi .tuple1 (.cons (.bi (.srt1 false) (.cons (.loc 2) .nil)) .nil))) .skip)))))
def f_apart : S := (.seq (.ex (.call "need_halls" (.cons (.loc 0) (.cons (.loc 1) (.cons (.loc 2) .nil))))) (.seq (.asg (.nm 3) (.call "spread" (.cons (.loc 0) (.cons (.loc 1) (.cons (.loc 2) .nil))))) (.seq (.asg (.nm 4) (.call "parted" (.cons (.loc 3) .nil))) (.seq (.asg (.nm 5) (.comp false [6] (.nm 6) (.iVal (.call "keys_in" (.cons (.call "whole_box" (.cons (.ix (.loc 0) (.lit (.int 0))) .nil)) .nil))) (.cnd (.cmp .isin (.tup (.cons (.loc 1) (.cons (.loc 2) (.cons (.loc 6) .nil)))) (.loc 4))) (.loc 6))) (.seq (.ife (.cmp .eq (.loc 5) (.lst false .nil)) (.seq (.ret (.tup (.cons (.lit (.str "alike")) (.cons (.call "lot_of" (.cons (.loc 3) .nil)) .nil)))) .skip) .skip) (.seq (.ret (.tup (.cons (.lit (.str "apart")) (.cons (.ix (.loc 5) (.lit (.int 0))) (.cons (.call "word_from" (.cons (.loc 3) (.cons (.loc 4) (.cons (.tup (.cons (.loc 1) (.cons (.loc 2) (.cons (.ix (.loc 5) (.lit (.int 0))) .nil)))) .nil)))) .nil))))) .skip))))))
def f_lets : S := (.seq (.for_ (.nm 4) (.iVal (.loc 3)) (.seq (.asg (.nm 1) (.call "let_by" (.cons (.loc 0) (.cons (.loc 1) (.cons (.loc 4) (.cons (.loc 2) .nil)))))) (.seq (.ife (.isNon (.loc 1)) (.seq (.ret (.lit (.bool false))) .skip) .skip) (.seq (.asg (.nm 2) (.call "worn" (.cons (.loc 0) (.cons (.loc 4) (.cons (.loc 2) .nil))))) .skip)))) (.seq (.ret (.lit (.bool true))) .skip))
def f_do_part : S := (.seq (.ife (.or (.not (.call "is_key_by" (.cons (.ix (.loc 0) (.lit (.int 0))) (.cons (.loc 3) .nil)))) (.not (.isi (.loc 4) "tuple"))) (.seq (.ret (.lit (.bool false))) .skip) .skip) (.seq (.ife (.not (.bi .all (.cons (.comp false [5] (.nm 5) (.iVal (.loc 4)) .nop (.call "is_among" (.cons (.loc 5) (.cons (.lit (.int 0)) (.cons (.bin .sub (.bi .len (.cons (.ix (.loc 0) (.lit (.int 2))) .nil)) (.lit (.int 1))) .nil))))) .nil))) (.seq (.ret (.lit (.bool false))) .skip) .skip) (.seq (.ret (.cmp .ne (.call "lets" (.cons (.loc 0) (.cons (.loc 1) (.cons (.loc 3) (.cons (.loc 4) .nil))))) (.call "lets" (.cons (.loc 0) (.cons (.loc 2) (.cons (.loc 3) (.cons (.loc 4) .nil))))))) .skip)))
def f_is_place : S := (.seq (.ife (.or (.not (.call "are_some" (.cons (.loc 1) (.cons (.lit (.int 3)) (.cons (.lit (.int 3)) .nil))))) (.or (.not (.call "is_hall" (.cons (.loc 0) (.cons (.ix (.loc 1) (.lit (.int 0))) .nil)))) (.not (.call "is_hall" (.cons (.loc 0) (.cons (.ix (.loc 1) (.lit (.int 1))) .nil)))))) (.seq (.ret (.lit (.bool false))) .skip) .skip) (.seq (.ret (.call "is_box_by" (.cons (.ix (.loc 0) (.lit (.int 0))) (.cons (.ix (.loc 1) (.lit (.int 2))) .nil)))) .skip))
def f_is_kept : S := (.seq (.asg (.cons (.nm 8) (.cons (.nm 9) (.cons (.nm 10) .nil))) (.loc 2)) (.seq (.asg (.nm 4) (.comp false [11] (.nm 11) (.iVal (.tup (.cons (.loc 8) (.cons (.loc 9) .nil)))) .nop (.call "door_of" (.cons (.loc 0) (.cons (.loc 11) (.cons (.loc 3) .nil)))))) (.seq (.asg (.nm 5) (.comp false [12] (.nm 12) (.iVal (.loc 4)) .nop (.ite (.isNon (.loc 12)) (.lit .none) (.call "common_by" (.cons (.loc 10) (.cons (.ix (.loc 12) (.lit (.int 1))) .nil)))))) (.seq (.ife (.or (.isNon (.ix (.loc 5) (.lit (.int 0)))) (.cmp .ne (.ix (.loc 5) (.lit (.int 0))) (.ix (.loc 5) (.lit (.int 1))))) (.seq (.ret (.and (.isNon (.ix (.loc 5) (.lit (.int 0)))) (.isNon (.ix (.loc 5) (.lit (.int 1)))))) .skip) .skip) (.seq (.asg (.nm 6) (.ix (.ix (.loc 0) (.lit (.int 2))) (.loc 3))) (.seq (.asg (.nm 7) (.bi .tuple1 (.cons (.comp false [15, 16, 14] (.cons (.cons (.nm 15) (.cons (.nm 16) .nil)) (.cons (.nm 14) .nil)) (.iZip (.ix (.loc 5) (.lit (.int 0))) (.loc 6)) .nop (.tup (.cons (.bi .max2 (.cons (.lit (.int 0)) (.cons (.bin .sub (.loc 15) (.loc 14)) .nil))) (.cons (.bi .max2 (.cons (.lit (.int 0)) (.cons (.bin .sub (.loc 16) (.loc 14)) .nil))) .nil)))) .nil))) (.seq (.ret (.bi .any (.cons (.comp false [13] (.nm 13) (.iVal (.loc 1)) .nop (.and (.cmp .eq (.sl (.loc 13) .nop (.prt (.lit (.int 2)))) (.tup (.cons (.ix (.ix (.loc 4) (.lit (.int 0))) (.lit (.int 0))) (.cons (.ix (.ix (.loc 4) (.lit (.int 1))) (.lit (.int 0))) .nil)))) (.call "has_box" (.cons (.ix (.loc 13) (.lit (.int 2))) (.cons (.loc 7) .nil))))) .nil))) .skip)))))))
def f_are_alike : S := (.seq (.ife (.or (.not (.isi (.loc 3) "tuple")) (.or (.not (.bi .all (.cons (.comp false [5] (.nm 5) (.iVal (.loc 3)) .nop (.call "is_place" (.cons (.loc 0) (.cons (.loc 5) .nil)))) .nil))) (.not (.call "rises" (.cons (.loc 3) .nil))))) (.seq (.ret (.lit (.bool false))) .skip) .skip) (.seq (.ife (.cmp .nin (.tup (.cons (.loc 1) (.cons (.loc 2) (.cons (.call "whole_box" (.cons (.ix (.loc 0) (.lit (.int 0))) .nil)) .nil)))) (.loc 3)) (.seq (.ret (.lit (.bool false))) .skip) .skip) (.seq (.asg (.nm 4) (.lsR false false (.lit (.int 0)) (.bi .len (.cons (.ix (.loc 0) (.lit (.int 2))) .nil)))) (.seq (.ret (.bi .all (.cons (.comp false [5] (.nm 5) (.iVal (.loc 3)) .nop (.bi .all (.cons (.comp false [6] (.nm 6) (.iVal (.loc 4)) .nop (.call "is_kept" (.cons (.loc 0) (.cons (.loc 3) (.cons (.loc 5) (.cons (.loc 6) .nil)))))) .nil))) .nil))) .skip))))
def f_shows_apart : S := (.seq (.ex (.call "need_halls" (.cons (.loc 0) (.cons (.loc 1) (.cons (.loc 2) .nil))))) (.seq (.ife (.or (.not (.call "are_some" (.cons (.loc 3) (.cons (.lit (.int 2)) (.cons (.lit (.int 3)) .nil))))) (.not (.isi (.ix (.loc 3) (.lit (.int 0))) "str"))) (.seq (.ret (.lit (.bool false))) .skip) .skip) (.seq (.ife (.cmp .eq (.ix (.loc 3) (.lit (.int 0))) (.lit (.str "apart"))) (.seq (.ret (.and (.cmp .eq (.bi .len (.cons (.loc 3) .nil)) (.lit (.int 3))) (.call "do_part" (.cons (.loc 0) (.cons (.loc 1) (.cons (.loc 2) (.cons (.ix (.loc 3) (.lit (.int 1))) (.cons (.ix (.loc 3) (.lit (.int 2))) .nil)))))))) .skip) .skip) (.seq (.ret (.and (.cmp .eq (.ix (.loc 3) (.lit (.int 0))) (.lit (.str "alike"))) (.and (.cmp .eq (.bi .len (.cons (.loc 3) .nil)) (.lit (.int 2))) (.call "are_alike" (.cons (.loc 0) (.cons (.loc 1) (.cons (.loc 2) (.cons (.ix (.loc 3) (.lit (.int 1))) .nil)))))))) .skip))))
def f_law_cell_at : S := (.seq (.ife (.cmp .lt (.loc 1) (.bi .len (.cons (.loc 0) .nil))) (.seq (.ret (.ix (.loc 0) (.loc 1))) .skip) .skip) (.seq (.ret (.lit (.int 0))) .skip))
def f_law_pen : S := (.seq (.ret (.lst true (.cons (.bi .max2 (.cons (.lit (.int 0)) (.cons (.bin .sub (.loc 0) (.bin .pow (.lit (.int 10)) (.lit (.int 18)))) .nil))) (.cons (.bin .mod (.loc 0) (.lit (.int 1000000007))) (.cons (.lit (.int 0)) .nil))))) .skip)
def f_law_draw : S := (.seq (.ife (.cmp .gt (.ix (.loc 0) (.lit (.int 0))) (.lit (.int 0))) (.seq (.asg (.nm 3) (.bin .mod (.ix (.loc 0) (.lit (.int 0))) (.loc 1))) (.seq (.sub (.loc 0) (.lit (.int 0)) (.bin .fdv (.ix (.loc 0) (.lit (.int 0))) (.loc 1))) (.seq (.ret (.loc 3)) .skip))) .skip) (.seq (.sub (.loc 0) (.lit (.int 2)) (.bin .add (.ix (.loc 0) (.lit (.int 2))) (.lit (.int 1)))) (.seq (.asg (.nm 2) (.bin .mod (.bin .mul (.bin .add (.ix (.loc 0) (.lit (.int 1))) (.bin .mul (.lit (.int 17)) (.ix (.loc 0) (.lit (.int 2))))) (.bin .add (.lit (.int 69621)) (.bin .mul (.lit (.int 2)) (.ix (.loc 0) (.lit (.int 2)))))) (.lit (.int 2147483647)))) (.seq (.asg (.nm 2) (.bin .mod (.bin .add (.bin .add (.bin .mul (.loc 2) (.loc 2)) (.bin .mul (.lit (.int 40503)) (.ix (.loc 0) (.lit (.int 2))))) (.lit (.int 5))) (.lit (.int 2147483629)))) (.seq (.ret (.bin .mod (.bin .fdv (.bin .mod (.bin .mul (.loc 2) (.lit (.int 48271))) (.lit (.int 2147483647))) (.lit (.int 32))) (.loc 1))) .skip)))))
def f_law_ground : S := (.seq (.asg (.nm 1) (.tup (.cons (.tup (.cons (.lit (.int 0)) (.cons (.lit (.int 0)) (.cons (.lit (.int 0)) (.cons (.tup (.cons (.tup (.cons (.lit (.int 1)) (.cons (.lit (.int 6)) .nil))) .nil)) .nil))))) (.cons (.tup (.cons (.lit (.int 1)) (.cons (.lit (.int 0)) (.cons (.lit (.int 1)) (.cons (.tup (.cons (.tup (.cons (.lit (.int 2)) (.cons (.lit (.int 6)) .nil))) .nil)) .nil))))) (.cons (.tup (.cons (.lit (.int 2)) (.cons (.lit (.int 0)) (.cons (.lit (.int 2)) (.cons (.tup (.cons (.tup (.cons (.lit (.int 0)) (.cons (.lit (.int 6)) .nil))) .nil)) .nil))))) .nil))))) (.seq (.ret (.tup (.cons (.lit (.int 1)) (.cons (.lit (.int 3)) (.cons (.tup (.cons (.tup (.cons (.lit (.int 1)) .nil)) .nil)) (.cons (.loc 1) (.cons (.tup (.cons (.lit (.int 2)) .nil)) (.cons (.tup (.cons (.tup (.cons (.lit (.int 2)) (.cons (.lit (.int 5)) (.cons (.loc 0) .nil)))) .nil)) .nil)))))))) .skip))
def f_law_again_right : S := (.seq (.par [1, 2] (.cons (.tup (.cons (.tup (.cons (.lit (.str "go")) (.cons (.lit (.int 0)) .nil))) .nil)) (.cons (.tup (.cons (.tup (.cons (.lit (.str "file")) (.cons (.lit (.int 0)) .nil))) (.cons (.tup (.cons (.lit (.str "lift")) (.cons (.lit (.int 0)) .nil))) (.cons (.tup (.cons (.lit (.str "lift")) (.cons (.lit (.int 0)) .nil))) .nil)))) .nil))) (.seq (.ife (.cmp .ne (.comp false [3] (.nm 3) (.iR1 (.lit (.int 7))) .nop (.callp "how_often" [3, 2, 1, 0] (.cons (.tup (.cons (.loc 3) .nil)) (.cons (.loc 1) (.cons (.lit (.int 0)) (.cons (.loc 0) .nil)))))) (.lsR false false (.lit (.int 0)) (.lit (.int 7)))) (.seq (.ret (.lit (.bool false))) .skip) .skip) (.seq (.ife (.notNon (.callp "how_often" [3, 2, 1, 0] (.cons (.tup (.cons (.lit (.int 0)) .nil)) (.cons (.loc 1) (.cons (.lit (.int 2)) (.cons (.loc 0) .nil)))))) (.seq (.ret (.lit (.bool false))) .skip) .skip) (.seq (.ife (.cmp .ne (.callp "key_far" [4, 3, 2, 1, 0] (.cons (.lit (.int 3)) (.cons (.tup (.cons (.lit (.int 5)) .nil)) (.cons (.loc 1) (.cons (.lit (.int 0)) (.cons (.loc 0) .nil)))))) (.tup (.cons (.lit (.int 2)) .nil))) (.seq (.ret (.lit (.bool false))) .skip) .skip) (.seq (.ife (.cmp .ne (.callp "key_far" [4, 3, 2, 1, 0] (.cons (.bin .pow (.lit (.int 10)) (.lit (.int 12))) (.cons (.tup (.cons (.lit (.int 5)) .nil)) (.cons (.loc 1) (.cons (.lit (.int 2)) (.cons (.loc 0) .nil)))))) (.tup (.cons (.lit (.int 0)) .nil))) (.seq (.ret (.lit (.bool false))) .skip) .skip) (.seq (.ife (.cmp .ne (.callp "box_far" [3, 2, 1, 0] (.cons (.lit (.int 4)) (.cons (.loc 1) (.cons (.lit (.int 0)) (.cons (.loc 0) .nil))))) (.tup (.cons (.tup (.cons (.lit (.int 4)) (.cons (.lit (.int 6)) .nil))) .nil))) (.seq (.ret (.lit (.bool false))) .skip) .skip) (.seq (.ife (.notNon (.callp "box_far" [3, 2, 1, 0] (.cons (.lit (.int 7)) (.cons (.loc 1) (.cons (.lit (.int 0)) (.cons (.loc 0) .nil)))))) (.seq (.ret (.lit (.bool false))) .skip) .skip) (.seq (.ife (.cmp .ne (.callp "box_far" [3, 2, 1, 0] (.cons (.bin .pow (.lit (.int 10)) (.lit (.int 12))) (.cons (.loc 1) (.cons (.lit (.int 2)) (.cons (.loc 0) .nil))))) (.tup (.cons (.tup (.cons (.lit (.int 0)) (.cons (.lit (.int 6)) .nil))) .nil))) (.seq (.ret (.lit (.bool false))) .skip) .skip) (.seq (.ife (.cmp .ne (.comp false [3] (.nm 3) (.iR1 (.lit (.int 7))) .nop (.callp "how_often" [3, 2, 1, 0] (.cons (.tup (.cons (.loc 3) .nil)) (.cons (.loc 2) (.cons (.lit (.int 2)) (.cons (.loc 0) .nil)))))) (.lst false (.cons (.lit (.int 0)) (.cons (.lit (.int 4)) (.cons (.lit (.int 3)) (.cons (.lit (.int 2)) (.cons (.lit (.int 1)) (.cons (.lit (.int 0)) (.cons (.lit (.int 0)) .nil))))))))) (.seq (.ret (.lit (.bool false))) .skip) .skip) (.seq (.ret (.cmp .eq (.callp "box_far" [3, 2, 1, 0] (.cons (.lit (.int 2)) (.cons (.loc 2) (.cons (.lit (.int 2)) (.cons (.loc 0) .nil))))) (.tup (.cons (.tup (.cons (.lit (.int 1)) (.cons (.lit (.int 3)) .nil))) .nil)))) .skip))))))))))
def f_law_halls_right : S := (.seq (.ife (.cmp .ne (.callp "apart" [2, 1, 0] (.cons (.lit (.int 1)) (.cons (.lit (.int 0)) (.cons (.loc 0) .nil)))) (.tup (.cons (.lit (.str "apart")) (.cons (.tup (.cons (.lit (.int 1)) .nil)) (.cons (.tup (.cons (.lit (.int 0)) .nil)) .nil))))) (.seq (.ret (.lit (.bool false))) .skip) .skip) (.seq (.ife (.cmp .ne (.callp "apart" [2, 1, 0] (.cons (.lit (.int 2)) (.cons (.lit (.int 0)) (.cons (.loc 0) .nil)))) (.tup (.cons (.lit (.str "apart")) (.cons (.tup (.cons (.lit (.int 0)) .nil)) (.cons (.tup (.cons (.lit (.int 0)) .nil)) .nil))))) (.seq (.ret (.lit (.bool false))) .skip) .skip) (.seq (.ife (.cmp .ne (.callp "apart" [2, 1, 0] (.cons (.lit (.int 0)) (.cons (.lit (.int 0)) (.cons (.loc 0) .nil)))) (.tup (.cons (.lit (.str "alike")) (.cons (.tup (.cons (.tup (.cons (.lit (.int 0)) (.cons (.lit (.int 0)) (.cons (.tup (.cons (.tup (.cons (.lit (.int 0)) (.cons (.lit (.int 6)) .nil))) .nil)) .nil)))) .nil)) .nil)))) (.seq (.ret (.lit (.bool false))) .skip) .skip) (.seq (.ife (.cmp .isn (.callp "shows_apart" [3, 2, 1, 0] (.cons (.tup (.cons (.lit (.str "apart")) (.cons (.tup (.cons (.lit (.int 3)) .nil)) (.cons (.tup (.cons (.lit (.int 0)) (.cons (.lit (.int 0)) .nil))) .nil)))) (.cons (.lit (.int 1)) (.cons (.lit (.int 0)) (.cons (.loc 0) .nil))))) (.lit (.bool false))) (.seq (.ret (.lit (.bool false))) .skip) .skip) (.seq (.ife (.cmp .isn (.callp "shows_apart" [3, 2, 1, 0] (.cons (.tup (.cons (.lit (.str "apart")) (.cons (.tup (.cons (.lit (.int 3)) .nil)) (.cons (.tup (.cons (.lit (.int 0)) (.cons (.lit (.int 0)) (.cons (.lit (.int 0)) .nil)))) .nil)))) (.cons (.lit (.int 1)) (.cons (.lit (.int 0)) (.cons (.loc 0) .nil))))) (.lit (.bool true))) (.seq (.ret (.lit (.bool false))) .skip) .skip) (.seq (.ret (.cmp .is (.callp "shows_apart" [3, 2, 1, 0] (.cons (.tup (.cons (.lit (.str "alike")) (.cons (.tup (.cons (.tup (.cons (.lit (.int 2)) (.cons (.lit (.int 2)) (.cons (.tup (.cons (.tup (.cons (.lit (.int 0)) (.cons (.lit (.int 6)) .nil))) .nil)) .nil)))) .nil)) .nil))) (.cons (.lit (.int 2)) (.cons (.lit (.int 2)) (.cons (.loc 0) .nil))))) (.lit (.bool true)))) .skip))))))
def f_law : S := (.seq (.for_ (.nm 1) (.iR1 (.bi .max2 (.cons (.lit (.int 1)) (.cons (.bi .min2 (.cons (.bi .len (.cons (.loc 0) .nil)) (.cons (.lit (.int 3)) .nil))) .nil)))) (.seq (.asg (.nm 2) (.callE "_law_ground" (.cons (.bin .add (.lit (.int 1)) (.call "_law_draw" (.cons (.call "_law_pen" (.cons (.call "_law_cell_at" (.cons (.loc 0) (.cons (.loc 1) .nil))) .nil)) (.cons (.lit (.int 9)) .nil)))) .nil))) (.seq (.ife (.or (.not (.callE "_law_again_right" (.cons (.loc 2) .nil))) (.not (.callE "_law_halls_right" (.cons (.loc 2) .nil)))) (.seq (.ret (.lit (.bool false))) .skip) .skip) .skip))) (.seq (.ret (.lit (.bool true))) .skip))
def fd (x : Str) (a b : Nat) (k : Bool) (s : S) : Str × Fd := (x, ⟨a, b, k, s⟩)
def Q0 : Pg := [
  fd "is_whole" 1 1 false f_is_whole,
  fd "is_among" 3 3 false f_is_among,
  fd "are_some" 3 3 false f_are_some,
  fd "rises" 1 3 false f_rises,
  fd "is_height" 1 1 false f_is_height,
  fd "is_key_by" 2 3 false f_is_key_by,
  fd "need_key" 2 2 false f_need_key,
  fd "is_gap" 1 2 false f_is_gap,
  fd "is_box_by" 2 3 false f_is_box_by,
  fd "whole_box" 1 1 false f_whole_box,
  fd "common_by" 2 7 false f_common_by,
  fd "has_key" 2 5 false f_has_key,
  fd "has_box" 2 5 false f_has_box,
  fd "keys_in" 1 7 false f_keys_in,
  fd "moved_end" 3 3 false f_moved_end,
  fd "filled_from" 2 8 true f_filled_from,
  fd "is_greatest" 3 4 false f_is_greatest,
  fd "greatest_by" 1 5 false f_greatest_by,
  fd "is_wear" 2 3 false f_is_wear,
  fd "is_door" 4 5 false f_is_door,
  fd "are_doors" 4 6 false f_are_doors,
  fd "is_smith" 2 2 false f_is_smith,
  fd "are_benches" 2 3 false f_are_benches,
  fd "are_smiths" 2 3 false f_are_smiths,
  fd "is_house" 1 8 false f_is_house,
  fd "need_house" 1 1 false f_need_house,
  fd "is_hall" 2 2 false f_is_hall,
  fd "need_hall" 2 2 false f_need_hall,
  fd "is_deed" 2 2 false f_is_deed,
  fd "door_at" 3 5 false f_door_at,
  fd "smith_at" 2 3 false f_smith_at,
  fd "is_away" 3 3 false f_is_away,
  fd "hall_behind" 3 3 false f_hall_behind,
  fd "wear_of" 3 3 false f_wear_of,
  fd "gap_of" 4 4 false f_gap_of,
  fd "need_row" 2 3 false f_need_row,
  fd "away_at" 3 5 false f_away_at,
  fd "first_away" 3 3 false f_first_away,
  fd "need_laid" 3 3 false f_need_laid,
  fd "halls_of" 3 5 false f_halls_of,
  fd "height_behind" 5 8 false f_height_behind,
  fd "does_by" 3 6 false f_does_by,
  fd "box_by" 1 6 false f_box_by,
  fd "led" 2 4 false f_led,
  fd "need_round" 3 3 false f_need_round,
  fd "need_times" 1 1 false f_need_times,
  fd "often_by" 2 3 false f_often_by,
  fd "how_often" 4 4 false f_how_often,
  fd "key_far" 5 8 false f_key_far,
  fd "put_behind" 2 6 false f_put_behind,
  fd "box_far" 4 7 false f_box_far,
  fd "need_halls" 3 3 false f_need_halls,
  fd "door_of" 3 4 false f_door_of,
  fd "let_by" 4 5 false f_let_by,
  fd "worn" 3 5 false f_worn,
  fd "next_place" 3 8 false f_next_place,
  fd "spread" 3 9 true f_spread,
  fd "parted" 1 10 true f_parted,
  fd "word_from" 3 7 false f_word_from,
  fd "lot_of" 1 8 false f_lot_of,
  fd "apart" 3 7 false f_apart,
  fd "lets" 4 5 false f_lets,
  fd "do_part" 5 6 false f_do_part,
  fd "is_place" 2 2 false f_is_place,
  fd "is_kept" 4 17 false f_is_kept,
  fd "are_alike" 4 7 false f_are_alike,
  fd "shows_apart" 4 4 false f_shows_apart,
  fd "_law_cell_at" 2 2 false f_law_cell_at,
  fd "_law_pen" 1 1 true f_law_pen,
  fd "_law_draw" 2 4 false f_law_draw,
  fd "_law_ground" 1 2 false f_law_ground,
  fd "_law_again_right" 1 4 false f_law_again_right,
  fd "_law_halls_right" 1 1 false f_law_halls_right,
  fd "law" 1 3 false f_law]
def ex : Pg := [
  ]
def Q : Pg := Q0 ++ ex
theorem lkD : Hf.LkD Q := by constructor <;> rfl
def fs : List S := [f_is_whole, f_is_among, f_are_some, f_rises, f_is_height, f_is_key_by, f_need_key, f_is_gap, f_is_box_by, f_whole_box, f_common_by, f_has_key, f_has_box, f_keys_in, f_moved_end, f_filled_from, f_is_greatest, f_greatest_by, f_is_wear, f_is_door, f_are_doors, f_is_smith, f_are_benches, f_are_smiths, f_is_house, f_need_house, f_is_hall, f_need_hall, f_is_deed, f_door_at, f_smith_at, f_is_away, f_hall_behind, f_wear_of, f_gap_of, f_need_row, f_away_at, f_first_away, f_need_laid, f_halls_of, f_height_behind, f_does_by, f_box_by, f_led, f_need_round, f_need_times, f_often_by, f_how_often, f_key_far, f_put_behind, f_box_far, f_need_halls, f_door_of, f_let_by, f_worn, f_next_place, f_spread, f_parted, f_word_from, f_lot_of, f_apart, f_lets, f_do_part, f_is_place, f_is_kept, f_are_alike, f_shows_apart, f_law_cell_at, f_law_pen, f_law_draw, f_law_ground, f_law_again_right, f_law_halls_right, f_law]
end Hd
end

section
set_option Elab.async false
set_option linter.all false
set_option maxRecDepth 100000
set_option maxHeartbeats 0
namespace Hd
open PySem PySem.Spec PyProof.Rows L2 Iw
theorem chk : recs.map (irOf top recs free lits) = fs := by kernel_rfl
theorem chkQ : Q = pgOf top recs fs ++ ex := congrArg (· ++ ex) (show Q0 = pgOf top recs fs by kernel_rfl)
theorem chkR : recs.all (okR top) = true := by kernel_rfl
theorem chkN : (recs.map (·.x)).Nodup := by decide +kernel
theorem chkL : lits.all (fun p => litOk p.2) = true := by kernel_rfl
end Hd
end

section
set_option Elab.async false
set_option linter.all false
set_option maxRecDepth 100000
/-! houses: what the program's looks say of good ones -/
namespace Hf
open PySem Iw
/-- a door: from, letter, to, gaps -/
structure Dr where
  a : Int
  l : Int
  b : Int
  bx : List (Int × Int)
structure Ho where
  t : Int
  n : Int
  ws : List (List Int)
  ds : List Dr
  bs : List Int
  ss : List (Int × Int × Int)
def kD (k : List Int) : PyData := .tuple (k.map .int)
def gD (g : Int × Int) : PyData := .tuple [.int g.1, .int g.2]
def bD (b : List (Int × Int)) : PyData := .tuple (b.map gD)
def Dr.d (x : Dr) : PyData := .tuple [.int x.a, .int x.l, .int x.b, bD x.bx]
def sD (s : Int × Int × Int) : PyData := .tuple [.int s.1, .int s.2.1, .int s.2.2]
def Ho.d (H : Ho) : PyData := .tuple [.int H.t, .int H.n, .tuple (H.ws.map kD), .tuple (H.ds.map Dr.d), kD H.bs, .tuple (H.ss.map sD)]
def KeyOk (t : Int) (k : List Int) : Prop := (k.length : Int) = t ∧ ∀ x ∈ k, 0 ≤ x ∧ x ≤ 6
def BoxOk (t : Int) (b : List (Int × Int)) : Prop := (b.length : Int) = t ∧ ∀ g ∈ b, 0 ≤ g.1 ∧ g.1 ≤ g.2 ∧ g.2 ≤ 6
section
variable {P : Pg} (L : Lk P) {Q : PV → Hs → Prop} {h : Hs} {n : Nat}
include L
theorem is_whole_ok (i : Int) : callN P (n + 1) "is_whole" [.d (.int i)] h = .ok (.d (.bool true)) h := by
  refine Sat.eq ?_
  rw [call0 L.is_whole rfl]
  simp [f_is_whole, PyData.isInt, PyData.isBool]
theorem is_among_ok {i a b : Int} (h1 : a ≤ i) (h2 : i ≤ b) : callN P (n + 2) "is_among" [.d (.int i), .d (.int a), .d (.int b)] h = .ok (.d (.bool true)) h := by
  refine Sat.eq ?_
  rw [call0 L.is_among rfl]
  simp [f_is_among, is_whole_ok L, h1, h2]
theorem are_some_ok {xs : List PyData} {a b : Int} (h1 : a ≤ xs.length) (h2 : xs.length ≤ b) : callN P (n + 1) "are_some" [.d (.tuple xs), .d (.int a), .d (.int b)] h = .ok (.d (.bool true)) h := by
  refine Sat.eq ?_
  rw [call0 L.are_some rfl]
  simp [f_are_some, PyData.isTuple, h1, h2]
theorem is_height_ok {i : Int} (h1 : 0 ≤ i) (h2 : i ≤ 6) : callN P (n + 3) "is_height" [.d (.int i)] h = .ok (.d (.bool true)) h := by
  refine Sat.eq ?_
  rw [call0 L.is_height rfl]
  simp [f_is_height, is_among_ok L h1 h2]
theorem is_key_by_S {t : Int} {k : List Int} (hk : KeyOk t k) (hl : k.length ≤ line) (q : Q (.d (.bool true)) h) : Sat (callN P (n + 4) "is_key_by" [.d (.int t), .d (kD k)] h) Q := by
  rw [call0 L.is_key_by rfl]
  obtain ⟨h1, h2⟩ := hk
  simp [f_is_key_by, kD, are_some_ok L (xs := k.map PyData.int) (a := t) (b := t) (by simp [h1]) (by simp [h1])]
  refine sat_all (by simpa using hl) ?_ (fun bs e e2 => by rw [e]; simpa using q)
  intro x hx
  obtain ⟨i, hi, rfl⟩ : ∃ i, i ∈ k ∧ x = .d (.int i) := by simpa [eq_comm] using hx
  obtain ⟨q1, q2⟩ := h2 i hi
  simp [Iw.wipe, asg, is_height_ok L q1 q2]
theorem is_key_by_ok {t : Int} {k : List Int} (hk : KeyOk t k) (hl : k.length ≤ line) : callN P (n + 4) "is_key_by" [.d (.int t), .d (kD k)] h = .ok (.d (.bool true)) h := Sat.eq (is_key_by_S L hk hl ⟨rfl, rfl⟩)
theorem is_gap_S {g : Int × Int} (h1 : 0 ≤ g.1) (h2 : g.1 ≤ g.2) (h3 : g.2 ≤ 6) (q : Q (.d (.bool true)) h) : Sat (callN P (n + 4) "is_gap" [.d (gD g)] h) Q := by
  rw [call0 L.is_gap rfl]
  simp [f_is_gap, gD, are_some_ok L (xs := [.int g.1, .int g.2]) (a := 2) (b := 2) (by simp) (by simp)]
  refine sat_all (show 2 ≤ line by decide) ?_ ?_
  · intro x hx
    have : ∃ i, (0 ≤ i ∧ i ≤ 6) ∧ x = .d (.int i) := by
      rcases List.mem_cons.mp hx with e | hx
      · exact ⟨g.1, ⟨h1, by omega⟩, e⟩
      · rcases List.mem_cons.mp hx with e | hx
        · exact ⟨g.2, ⟨by omega, h3⟩, e⟩
        · cases hx
    obtain ⟨i, ⟨q1, q2⟩, rfl⟩ := this
    simp [Iw.wipe, asg, is_height_ok L q1 q2]
  · intro bs e e2
    simp [L2.atI, L2.ixN, h2, q, e2]
theorem is_gap_ok {g : Int × Int} (h1 : 0 ≤ g.1) (h2 : g.1 ≤ g.2) (h3 : g.2 ≤ 6) : callN P (n + 4) "is_gap" [.d (gD g)] h = .ok (.d (.bool true)) h := Sat.eq (is_gap_S L h1 h2 h3 ⟨rfl, rfl⟩)
theorem is_box_by_S {t : Int} {b : List (Int × Int)} (hb : BoxOk t b) (hl : b.length ≤ line) (q : Q (.d (.bool true)) h) : Sat (callN P (n + 5) "is_box_by" [.d (.int t), .d (bD b)] h) Q := by
  rw [call0 L.is_box_by rfl]
  obtain ⟨h1, h2⟩ := hb
  simp [f_is_box_by, bD, are_some_ok L (xs := b.map gD) (a := t) (b := t) (by simp [h1]) (by simp [h1])]
  refine sat_all (by simpa using hl) ?_ (fun bs e e2 => by rw [e]; simpa using q)
  intro x hx
  obtain ⟨g, hg, rfl⟩ := List.mem_map.mp hx
  obtain ⟨q1, q2, q3⟩ := h2 g hg
  simp [Iw.wipe, asg, is_gap_ok L q1 q2 q3]
theorem is_box_by_ok {t : Int} {b : List (Int × Int)} (hb : BoxOk t b) (hl : b.length ≤ line) : callN P (n + 5) "is_box_by" [.d (.int t), .d (bD b)] h = .ok (.d (.bool true)) h := Sat.eq (is_box_by_S L hb hl ⟨rfl, rfl⟩)
theorem rises_S {ds : List PyData} {t : Bool} (hr : RisesD ds) (hl : ds.length ≤ line) (q : Q (.d (.bool true)) h) : Sat (callN P (n + 1) "rises" [.d (cond t (.tuple ds) (.list ds))] h) Q := by
  rw [call0 L.rises rfl]
  have go : Sat (compGo (compSt [1, 2] (.cons (.nm 1) (.cons (.nm 2) .nil)) (den (callN P n) h.length .nop).t (den (callN P n) h.length (.cmp .lt (.loc 1) (.loc 2))).e [some (.d (cond t (.tuple ds) (.list ds))), none, none]) (.fx (pairs ds ds.tail)) h) fun ys h2 => Sat (lstOf false ys h2) fun v h3 => ∃ bs, (getL h3 v).bind bools = some bs ∧ Q (.d (.bool (bs.all id))) (h3.take h.length) := by
    refine sat_all (Nat.le_trans (pairs_le _ _) hl) ?_ (fun bs e e2 => by rw [e]; simpa using q)
    intro p hp
    obtain ⟨x, y, rfl, h1, h2⟩ := rises_pairs hr p hp
    simp [Iw.wipe, asg, c_ltD h1, h2]
  cases t with
  | true => simpa [f_rises, optI] using go
  | false => simpa [f_rises, optI] using go
theorem is_wear_S {t : Int} {w : List Int} (h1 : (w.length : Int) = t) (h2 : ∀ x ∈ w, 0 ≤ x ∧ x ≤ 3) (hl : w.length ≤ line) (q : Q (.d (.bool true)) h) : Sat (callN P (n + 3) "is_wear" [.d (.int t), .d (kD w)] h) Q := by
  rw [call0 L.is_wear rfl]
  simp [f_is_wear, kD, are_some_ok L (xs := w.map PyData.int) (a := t) (b := t) (by simp [h1]) (by simp [h1])]
  refine sat_all (by simpa using hl) ?_ (fun bs e e2 => by rw [e]; simpa using q)
  intro x hx
  obtain ⟨i, hi, rfl⟩ := List.mem_map.mp hx
  obtain ⟨q1, q2⟩ := h2 i hi
  simp [Iw.wipe, asg, is_among_ok L q1 q2]
structure DrOk (t n k : Int) (x : Dr) : Prop where
  a : 0 ≤ x.a ∧ x.a < n
  l : 0 ≤ x.l ∧ x.l < k
  b : 0 ≤ x.b ∧ x.b < n
  bx : BoxOk t x.bx
  ll : x.bx.length ≤ line
theorem is_door_S {t m k : Int} {x : Dr} (hx : DrOk t m k x) (q : Q (.d (.bool true)) h) : Sat (callN P (n + 6) "is_door" [.d (.int t), .d (.int m), .d (.int k), .d x.d] h) Q := by
  rw [call0 L.is_door rfl]
  simp [f_is_door, Dr.d, L2.atI, L2.ixN, are_some_ok L (xs := [.int x.a, .int x.l, .int x.b, bD x.bx]) (a := 4) (b := 4) (by simp) (by simp)]
  refine sat_all (show 2 ≤ line by decide) ?_ ?_
  · intro v hv
    have : ∃ i, (0 ≤ i ∧ i ≤ m - 1) ∧ v = .d (.int i) := by
      rcases List.mem_cons.mp hv with e | hv
      · exact ⟨x.a, ⟨hx.a.1, by have := hx.a.2; omega⟩, e⟩
      · rcases List.mem_cons.mp hv with e | hv
        · exact ⟨x.b, ⟨hx.b.1, by have := hx.b.2; omega⟩, e⟩
        · cases hv
    obtain ⟨i, ⟨q1, q2⟩, rfl⟩ := this
    simp [Iw.wipe, asg, is_among_ok L q1 q2]
  · intro bs e e2
    simp [e2, is_among_ok L hx.l.1 (show x.l ≤ k - 1 by have := hx.l.2; omega), is_box_by_ok L hx.bx hx.ll, q]
def pairI (x : Dr) : PyData := .tuple [.int x.a, .int x.l]
theorem are_doors_S {t m k : Int} {ds : List Dr} (h0 : ds.length ≤ 10) (hd : ∀ x ∈ ds, DrOk t m k x) (hr : RisesD (ds.map pairI)) (q : Q (.d (.bool true)) h) : Sat (callN P (n + 7) "are_doors" [.d (.int t), .d (.int m), .d (.int k), .d (.tuple (ds.map Dr.d))] h) Q := by
  have hl : ds.length ≤ line := Nat.le_trans h0 (by decide)
  rw [call0 L.are_doors rfl]
  simp [f_are_doors, are_some_ok L (xs := ds.map Dr.d) (a := 0) (b := 10) (by omega) (by simp; omega)]
  refine sat_all (by simpa using hl) ?_ ?_
  · intro v hv
    obtain ⟨x, hx, rfl⟩ := List.mem_map.mp hv
    simp [Iw.wipe, asg]
    exact is_door_S L (hd x hx) (by simp)
  · intro bs e e2
    simp [e2]
    refine sat_map (fun v => match v with | .d (.tuple xs) => .d (.tuple (xs.take 2)) | v => v) ?_ ?_
    · intro v hv
      obtain ⟨x, hx, rfl⟩ := List.mem_map.mp hv
      simp [Iw.wipe, asg, Dr.d, cut, HT.sIx, optI]
    · rw [sat_lstF (ds := ds.map pairI) (by rw [List.map_map, List.map_map]; rfl)]
      refine ⟨by simpa using hl, rises_S L (t := false) hr (by simpa using hl) (by simpa using q)⟩
structure SmOk (m : Int) (s : Int × Int × Int) : Prop where
  a : 0 ≤ s.1 ∧ s.1 < m
  l : 1 ≤ s.2.1 ∧ s.2.1 ≤ 6
  c : 1 ≤ s.2.2 ∧ s.2.2 ≤ 9
theorem is_smith_S {m : Int} {s : Int × Int × Int} (hs : SmOk m s) (q : Q (.d (.bool true)) h) : Sat (callN P (n + 3) "is_smith" [.d (.int m), .d (sD s)] h) Q := by
  rw [call0 L.is_smith rfl]
  simp [f_is_smith, sD, L2.atI, L2.ixN, are_some_ok L (xs := [.int s.1, .int s.2.1, .int s.2.2]) (a := 3) (b := 3) (by simp) (by simp), is_among_ok L hs.a.1 (show s.1 ≤ m - 1 by have := hs.a.2; omega), is_among_ok L hs.l.1 hs.l.2, is_among_ok L hs.c.1 hs.c.2, q]
theorem are_benches_S {m : Int} {bs : List Int} (hb : ∀ x ∈ bs, 0 ≤ x ∧ x < m) (hr : RisesD (bs.map .int)) (hl : bs.length ≤ line) (q : Q (.d (.bool true)) h) : Sat (callN P (n + 3) "are_benches" [.d (.int m), .d (kD bs)] h) Q := by
  rw [call0 L.are_benches rfl]
  simp [f_are_benches, kD, PyData.isTuple]
  refine sat_all (by simpa using hl) ?_ ?_
  · intro v hv
    obtain ⟨i, hi, rfl⟩ := List.mem_map.mp hv
    obtain ⟨q1, q2⟩ := hb i hi
    simp [Iw.wipe, asg, is_among_ok L q1 (show i ≤ m - 1 by omega)]
  · intro cs e e2
    simp [e2]
    exact rises_S L (t := true) hr (by simpa using hl) (by simpa using q)
theorem are_smiths_S {m : Int} {ss : List (Int × Int × Int)} (hs : ∀ s ∈ ss, SmOk m s) (hr : RisesD (ss.map fun s => .int s.1)) (hl : ss.length ≤ line) (q : Q (.d (.bool true)) h) : Sat (callN P (n + 4) "are_smiths" [.d (.int m), .d (.tuple (ss.map sD))] h) Q := by
  rw [call0 L.are_smiths rfl]
  simp [f_are_smiths, PyData.isTuple]
  refine sat_all (by simpa using hl) ?_ ?_
  · intro v hv
    obtain ⟨x, hx, rfl⟩ := List.mem_map.mp hv
    simp [Iw.wipe, asg]
    exact is_smith_S L (hs x hx) (by simp)
  · intro bs e e2
    simp [e2]
    refine sat_map (fun v => match v with | .d (.tuple (x :: _)) => .d x | v => v) ?_ ?_
    · intro v hv
      obtain ⟨x, hx, rfl⟩ := List.mem_map.mp hv
      simp [Iw.wipe, asg, sD, L2.atI, L2.ixN]
    · rw [sat_lstF (ds := ss.map fun s => .int s.1) (by rw [List.map_map, List.map_map]; rfl)]
      refine ⟨by simpa using hl, rises_S L (t := false) hr (by simpa using hl) (by simpa using q)⟩
structure HoOk (H : Ho) : Prop where
  t : 1 ≤ H.t ∧ H.t ≤ 3
  n : 1 ≤ H.n ∧ H.n ≤ 6
  w0 : 1 ≤ H.ws.length ∧ H.ws.length ≤ 6
  w : ∀ w ∈ H.ws, (w.length : Int) = H.t ∧ ∀ x ∈ w, 0 ≤ x ∧ x ≤ 3
  d0 : H.ds.length ≤ 10
  d : ∀ x ∈ H.ds, DrOk H.t H.n H.ws.length x
  dr : RisesD (H.ds.map pairI)
  b : ∀ x ∈ H.bs, 0 ≤ x ∧ x < H.n
  br : RisesD (H.bs.map .int)
  bl : H.bs.length ≤ line
  s : ∀ s ∈ H.ss, SmOk H.n s
  sr : RisesD (H.ss.map fun s => .int s.1)
  sl : H.ss.length ≤ line
theorem is_house_S {H : Ho} (ok : HoOk H) (q : Q (.d (.bool true)) h) : Sat (callN P (n + 8) "is_house" [.d H.d] h) Q := by
  rw [call0 L.is_house rfl]
  simp [f_is_house, Ho.d, L2.atI, L2.ixN, are_some_ok L (xs := [.int H.t, .int H.n, .tuple (H.ws.map kD), .tuple (H.ds.map Dr.d), kD H.bs, .tuple (H.ss.map sD)]) (a := 6) (b := 6) (by simp) (by simp), is_among_ok L ok.t.1 ok.t.2, is_among_ok L ok.n.1 ok.n.2, asg,
    are_some_ok L (xs := H.ws.map kD) (a := 1) (b := 6) (by simp; have := ok.w0.1; omega) (by simp; have := ok.w0.2; omega)]
  refine sat_all (by simp; exact Nat.le_trans ok.w0.2 (by decide)) ?_ ?_
  · intro v hv
    obtain ⟨w, hw, rfl⟩ := List.mem_map.mp hv
    obtain ⟨q1, q2⟩ := ok.w w hw
    simp [Iw.wipe, asg]
    exact is_wear_S L q1 q2 (by have := ok.t.2; have : line = 16777216 := rfl; omega) (by simp)
  · intro bs e e2
    simp [e2]
    refine are_doors_S L ok.d0 ok.d ok.dr ?_
    simp
    refine are_benches_S L ok.b ok.br ok.bl ?_
    simp
    exact are_smiths_S L ok.s ok.sr ok.sl (by simpa using q)
end
end Hf
end

section
set_option Elab.async false
set_option linter.all false
set_option maxRecDepth 100000
/-! deeds and rows -/
namespace Hf
open PySem Iw
inductive De where
  | go (l : Int)
  | file (t : Int)
  | lift (t : Int)
def De.d : De → PyData
  | .go l => .tuple [.str "go", .int l]
  | .file t => .tuple [.str "file", .int t]
  | .lift t => .tuple [.str "lift", .int t]
@[simp] theorem gg : ((Str.ofString "go") == (Str.ofString "go")) = true := by decide
@[simp] theorem gf : ((Str.ofString "go") == (Str.ofString "file")) = false := by decide
@[simp] theorem fg : ((Str.ofString "file") == (Str.ofString "go")) = false := by decide
@[simp] theorem ff : ((Str.ofString "file") == (Str.ofString "file")) = true := by decide
@[simp] theorem lg : ((Str.ofString "lift") == (Str.ofString "go")) = false := by decide
@[simp] theorem lf : ((Str.ofString "lift") == (Str.ofString "file")) = false := by decide
@[simp] theorem c_eqII {a b c d : Int} {h : Hs} : cmpop .eq (.d (.tuple [.int a, .int b])) (.d (.tuple [.int c, .int d])) h = some (decide (a = c) && decide (b = d)) := by
  rw [cmp_d (by decide)]
  show (if true = true then some (PyData.eqv _ _) else none) = _
  rw [if_pos rfl]
  show some ((a == c) && ((b == d) && true)) = _
  rw [Bool.and_true]
  rfl
/-- the first door of that hall and letter, with its place -/
def fdI (a l : Int) : Nat → List Dr → Option (Nat × Dr)
  | _, [] => none
  | k, x :: r => if x.a = a ∧ x.l = l then some (k, x) else fdI a l (k + 1) r
theorem fdI_get {a l : Int} : ∀ {ds : List Dr} {k i : Nat} {x : Dr}, fdI a l k ds = some (i, x) → k ≤ i ∧ ds[i - k]? = some x ∧ x.a = a ∧ x.l = l
  | [], _, _, _, e => nomatch e
  | y :: ds, k, i, x, e => by
    unfold fdI at e
    split at e
    · rename_i c
      cases e
      exact ⟨Nat.le_refl _, by simp, c⟩
    · obtain ⟨h1, h2, h3⟩ := fdI_get e
      refine ⟨by omega, ?_, h3⟩
      rw [show i - k = (i - (k + 1)) + 1 by omega]
      simpa using h2
def Ho.dr (H : Ho) (a l : Int) : Option (Nat × Dr) := fdI a l 0 H.ds
def fsm (a : Int) : List (Int × Int × Int) → Option (Int × Int × Int)
  | [] => none
  | s :: r => if s.1 = a then some s else fsm a r
def Ho.sm (H : Ho) (a : Int) : Option (Int × Int × Int) := fsm a H.ss
def Ho.away (H : Ho) (a : Int) : De → Bool
  | .go l => (H.dr a l).isNone
  | .file _ => !decide (a ∈ H.bs)
  | .lift _ => (H.sm a).isNone
def Ho.gap (H : Ho) (a : Int) (e : De) (j : Nat) : Int × Int := match e with
  | .go l => match H.dr a l with
    | some (_, x) => x.bx.getD j (0, 0)
    | none => (0, 0)
  | .file t => if t = j then (1, 6) else (0, 6)
  | .lift t => if t = j then (0, match H.sm a with | some s => s.2.1 - 1 | none => 0) else (0, 6)
def Ho.wear (H : Ho) (e : De) (j : Nat) : Int := match e with
  | .go l => (H.ws.getD l.toNat []).getD j 0
  | .file t => if t = j then 1 else 0
  | .lift t => if t = j then -1 else 0
def Ho.to (H : Ho) (a : Int) : De → Int
  | .go l => match H.dr a l with
    | some (_, x) => x.b
    | none => a
  | _ => a
/-- a deed of the house -/
def DeOk (H : Ho) : De → Prop
  | .go l => 0 ≤ l ∧ l < H.ws.length
  | .file t => 0 ≤ t ∧ t < H.t
  | .lift t => 0 ≤ t ∧ t < H.t
section
variable {P : Pg} (L : Lk P) {Q : PV → Hs → Prop} {h : Hs} {n : Nat}
include L
theorem need_house_S {H : Ho} (ok : HoOk H) (q : Q (.d .none) h) : Sat (callN P (n + 9) "need_house" [.d H.d] h) Q := by
  rw [call0 L.need_house rfl]
  simp [f_need_house]
  exact is_house_S L ok (by simpa using q)
theorem is_hall_S {H : Ho} {a : Int} (h1 : 0 ≤ a) (h2 : a < H.n) (q : Q (.d (.bool true)) h) : Sat (callN P (n + 3) "is_hall" [.d H.d, .d (.int a)] h) Q := by
  rw [call0 L.is_hall rfl]
  simp [f_is_hall, Ho.d, L2.atI, L2.ixN, is_among_ok L h1 (show a ≤ H.n - 1 by omega), q]
def stD (a : Int) (k : List Int) : PyData := .tuple [.int a, kD k]
theorem is_stand_S {H : Ho} {a : Int} {k : List Int} (h1 : 0 ≤ a) (h2 : a < H.n) (hk : KeyOk H.t k) (hl : k.length ≤ line) (q : Q (.d (.bool true)) h) : Sat (callN P (n + 5) "is_stand" [.d H.d, .d (stD a k)] h) Q := by
  rw [call0 L.is_stand rfl]
  simp [f_is_stand, stD, L2.atI, L2.ixN, are_some_ok L (xs := [.int a, kD k]) (a := 2) (b := 2) (by simp) (by simp)]
  refine is_hall_S L h1 h2 ?_
  simp [Ho.d, L2.atI, L2.ixN]
  exact is_key_by_S L hk hl (by simpa using q)
theorem need_stand_S {H : Ho} {a : Int} {k : List Int} (ok : HoOk H) (h1 : 0 ≤ a) (h2 : a < H.n) (hk : KeyOk H.t k) (hl : k.length ≤ line) (q : Q (.d .none) h) : Sat (callN P (n + 10) "need_stand" [.d H.d, .d (stD a k)] h) Q := by
  rw [call0 L.need_stand rfl]
  simp [f_need_stand]
  refine need_house_S L ok ?_
  exact is_stand_S L h1 h2 hk hl (by simpa using q)
theorem is_deed_S {H : Ho} {e : De} (he : DeOk H e) (q : Q (.d (.bool true)) h) : Sat (callN P (n + 3) "is_deed" [.d H.d, .d e.d] h) Q := by
  rw [call0 L.is_deed rfl]
  have nin : ∀ x : Str, (x = "go" ∨ x = "file" ∨ x = "lift") → cmpop .nin (.d (.str x)) (.d (.tuple [.str "go", .str "file", .str "lift"])) h = some false := fun x hx => by
    rcases hx with rfl | rfl | rfl <;> rfl
  cases e with
  | go l => simp [f_is_deed, De.d, L2.atI, L2.ixN, are_some_ok L (xs := [.str "go", .int l]) (a := 2) (b := 2) (by simp) (by simp), PyData.isStr, nin, Ho.d, is_among_ok L he.1 (show l ≤ (H.ws.length : Int) - 1 by have := he.2; omega), q]
  | file t => simp [f_is_deed, De.d, L2.atI, L2.ixN, are_some_ok L (xs := [.str "file", .int t]) (a := 2) (b := 2) (by simp) (by simp), PyData.isStr, nin, Ho.d, is_among_ok L he.1 (show t ≤ H.t - 1 by have := he.2; omega), q]
  | lift t => simp [f_is_deed, De.d, L2.atI, L2.ixN, are_some_ok L (xs := [.str "lift", .int t]) (a := 2) (b := 2) (by simp) (by simp), PyData.isStr, nin, Ho.d, is_among_ok L he.1 (show t ≤ H.t - 1 by have := he.2; omega), q]
def rwD (r : List De) : PyData := .tuple (r.map De.d)
theorem need_row_S {H : Ho} {r : List De} (hr : ∀ e ∈ r, DeOk H e) (hl : r.length ≤ line) (q : Q (.d .none) h) : Sat (callN P (n + 4) "need_row" [.d H.d, .d (rwD r)] h) Q := by
  rw [call0 L.need_row rfl]
  simp [f_need_row, rwD, PyData.isTuple]
  refine sat_all (by simpa using hl) ?_ ?_
  · intro v hv
    obtain ⟨x, hx, rfl⟩ := List.mem_map.mp hv
    simp [Iw.wipe, asg]
    exact is_deed_S L (hr x hx) (by simp)
  · intro bs e e2
    simp [e2]
    exact q
theorem door_at_S {H : Ho} {a l : Int} (q : Q (match H.dr a l with | some (i, _) => .d (.int i) | none => .d .none) h) : Sat (callN P (n + 1) "door_at" [.d H.d, .d (.int a), .d (.int l)] h) Q := by
  rw [call0 L.door_at rfl]
  simp [f_door_at, Ho.d, L2.atI, L2.ixN]
  have go : ∀ (ds : List Dr) (k : Nat) (u v : Option PV) {F : Fl × Sg → Hs → Prop}, (match fdI a l k ds with
      | some (i, _) => ∀ σ, F (.rt (.d (.int i)), σ) h
      | none => ∀ u v, F (.nx, [some (.d H.d), some (.d (.int a)), some (.d (.int l)), u, v]) h) →
      Sat (forF (.cons (.nm 3) (.cons (.nm 4) .nil)) (evS (callN P n) h.length (.seq (.ife (.cmp .eq (.sl (.loc 4) .nop (.prt (.lit (.int 2)))) (.tup (.cons (.loc 1) (.cons (.loc 2) .nil)))) (.seq (.ret (.loc 3)) .skip) .skip) .skip)) (enums k (ds.map Dr.d)) [some (.d H.d), some (.d (.int a)), some (.d (.int l)), u, v] h) F := by
    intro ds
    induction ds with
    | nil => intro k u v F q; exact forF_nil.mpr (q u v)
    | cons x ds ih =>
      intro k u v F q
      refine forF_cons.mpr ⟨[some (.d H.d), some (.d (.int a)), some (.d (.int l)), some (.d (.int k)), some (.d x.d)], by simp [asg], ?_⟩
      unfold fdI at q
      by_cases c : x.a = a ∧ x.l = l
      · rw [if_pos c] at q
        simp [Dr.d, cut, HT.sIx, optI, c.1, c.2]
        exact q _
      · rw [if_neg c] at q
        have c' : (decide (x.a = a) && decide (x.l = l)) = false := by simpa using c
        simp [Dr.d, cut, HT.sIx, optI, c']
        exact ih (k + 1) _ _ q
  refine go H.ds 0 none none ?_
  unfold Ho.dr at q
  cases e : fdI a l 0 H.ds with
  | none => rw [e] at q; intro u v; simpa using q
  | some p => rw [e] at q; intro σ; simpa using q
theorem smith_at_S {H : Ho} {a : Int} (q : Q (match H.sm a with | some s => .d (sD s) | none => .d .none) h) : Sat (callN P (n + 1) "smith_at" [.d H.d, .d (.int a)] h) Q := by
  rw [call0 L.smith_at rfl]
  simp [f_smith_at, Ho.d, L2.atI, L2.ixN]
  have go : ∀ (ss : List (Int × Int × Int)) (u : Option PV) {F : Fl × Sg → Hs → Prop}, (match fsm a ss with
      | some s => ∀ σ, F (.rt (.d (sD s)), σ) h
      | none => ∀ u, F (.nx, [some (.d H.d), some (.d (.int a)), u]) h) →
      Sat (forF (.nm 2) (evS (callN P n) h.length (.seq (.ife (.cmp .eq (.ix (.loc 2) (.lit (.int 0))) (.loc 1)) (.seq (.ret (.loc 2)) .skip) .skip) .skip)) (ss.map (PV.d ∘ sD)) [some (.d H.d), some (.d (.int a)), u] h) F := by
    intro ss
    induction ss with
    | nil => intro u F q; exact forF_nil.mpr (q u)
    | cons x ss ih =>
      intro u F q
      refine forF_cons.mpr ⟨[some (.d H.d), some (.d (.int a)), some (.d (sD x))], by simp [asg], ?_⟩
      unfold fsm at q
      by_cases c : x.1 = a
      · rw [if_pos c] at q
        simp [sD, L2.atI, L2.ixN, c]
        have := q [some (.d H.d), some (.d (.int a)), some (.d (sD x))]
        simpa [sD, c] using this
      · rw [if_neg c] at q
        simp [sD, L2.atI, L2.ixN, c]
        exact ih _ q
  refine go H.ss none ?_
  unfold Ho.sm at q
  cases e : fsm a H.ss with
  | none => rw [e] at q; intro u; simpa using q
  | some p => rw [e] at q; intro σ; simpa using q
end
end Hf
end

section
set_option Elab.async false
set_option linter.all false
set_option maxRecDepth 100000
/-! what a deed does -/
namespace Hf
open PySem Iw
theorem atI_nat {α : Type} {xs : List α} {i : Nat} {x : α} (e : xs[i]? = some x) : L2.atI xs (i : Int) = some x := by
  have hi := (List.getElem?_eq_some_iff.mp e).1
  unfold L2.atI L2.ixN
  simp only [show (0 : Int) ≤ (i : Int) by omega, if_true, show (i : Int) < (xs.length : Int) by omega, Int.toNat_natCast]
  exact e
theorem atI_int {α : Type} {xs : List α} {i : Int} {x : α} (h0 : 0 ≤ i) (e : xs[i.toNat]? = some x) : L2.atI xs i = some x := by
  have := atI_nat e
  rwa [Int.toNat_of_nonneg h0] at this
theorem plain_ints : ∀ xs : List Int, PyData.plainAll (xs.map PyData.int) = true
  | [] => rfl
  | x :: xs => by show (true && PyData.plainAll (xs.map PyData.int)) = true; rw [plain_ints xs]; rfl
theorem any_ints (a : Int) : ∀ xs : List Int, ((xs.map PyData.int).any fun y => PyData.eqv y (.int a)) = decide (a ∈ xs)
  | [] => by simp
  | x :: xs => by
    rw [List.map_cons, List.any_cons, any_ints a xs]
    show ((x == a) || decide (a ∈ xs)) = _
    by_cases e : x = a
    · subst e; simp
    · have : (x == a) = false := by simpa using e
      rw [this]
      have e' : ¬ a = x := fun z => e z.symm
      simp [e']
theorem nin_ints {a : Int} {xs : List Int} {h : Hs} : cmpop .nin (.d (.int a)) (.d (kD xs)) h = some (!decide (a ∈ xs)) := by
  show (isIn1 h (.d (.int a)) (.d (.tuple (xs.map PyData.int)))).map (!·) = _
  have e : isIn1 h (.d (.int a)) (.d (.tuple (xs.map PyData.int))) = some (decide (a ∈ xs)) := by
    show (if (true && (PyData.plainAll (xs.map PyData.int) && decide (0 ≤ deep))) = true then some ((xs.map PyData.int).any fun y => PyData.eqv y (.int a)) else none) = _
    rw [plain_ints, any_ints]
    rfl
  rw [e]; rfl
section
variable {H : Ho} {Q : PV → Hs → Prop} {h : Hs}
@[simp] theorem ho_0 : Sat (ixv1 (.d H.d) (.d (.int 0)) h) Q ↔ Q (.d (.int H.t)) h := by
  simp [Ho.d, L2.atI, L2.ixN]
@[simp] theorem ho_1 : Sat (ixv1 (.d H.d) (.d (.int 1)) h) Q ↔ Q (.d (.int H.n)) h := by
  simp [Ho.d, L2.atI, L2.ixN]
@[simp] theorem ho_2 : Sat (ixv1 (.d H.d) (.d (.int 2)) h) Q ↔ Q (.d (.tuple (H.ws.map kD))) h := by
  simp [Ho.d, L2.atI, L2.ixN]
@[simp] theorem ho_3 : Sat (ixv1 (.d H.d) (.d (.int 3)) h) Q ↔ Q (.d (.tuple (H.ds.map Dr.d))) h := by
  simp [Ho.d, L2.atI, L2.ixN]
@[simp] theorem ho_4 : Sat (ixv1 (.d H.d) (.d (.int 4)) h) Q ↔ Q (.d (kD H.bs)) h := by
  simp [Ho.d, L2.atI, L2.ixN]
@[simp] theorem ho_5 : Sat (ixv1 (.d H.d) (.d (.int 5)) h) Q ↔ Q (.d (.tuple (H.ss.map sD))) h := by
  simp [Ho.d, L2.atI, L2.ixN]
@[simp] theorem dr_0 {x : Dr} : Sat (ixv1 (.d x.d) (.d (.int 0)) h) Q ↔ Q (.d (.int x.a)) h := by
  simp [Dr.d, L2.atI, L2.ixN]
@[simp] theorem dr_1 {x : Dr} : Sat (ixv1 (.d x.d) (.d (.int 1)) h) Q ↔ Q (.d (.int x.l)) h := by
  simp [Dr.d, L2.atI, L2.ixN]
@[simp] theorem dr_2 {x : Dr} : Sat (ixv1 (.d x.d) (.d (.int 2)) h) Q ↔ Q (.d (.int x.b)) h := by
  simp [Dr.d, L2.atI, L2.ixN]
@[simp] theorem dr_3 {x : Dr} : Sat (ixv1 (.d x.d) (.d (.int 3)) h) Q ↔ Q (.d (bD x.bx)) h := by
  simp [Dr.d, L2.atI, L2.ixN]
@[simp] theorem de_g0 {l : Int} : Sat (ixv1 (.d (De.go l).d) (.d (.int 0)) h) Q ↔ Q (.d (.str "go")) h := by
  simp [De.d, L2.atI, L2.ixN]
@[simp] theorem de_g1 {l : Int} : Sat (ixv1 (.d (De.go l).d) (.d (.int 1)) h) Q ↔ Q (.d (.int l)) h := by
  simp [De.d, L2.atI, L2.ixN]
@[simp] theorem de_f0 {l : Int} : Sat (ixv1 (.d (De.file l).d) (.d (.int 0)) h) Q ↔ Q (.d (.str "file")) h := by
  simp [De.d, L2.atI, L2.ixN]
@[simp] theorem de_f1 {l : Int} : Sat (ixv1 (.d (De.file l).d) (.d (.int 1)) h) Q ↔ Q (.d (.int l)) h := by
  simp [De.d, L2.atI, L2.ixN]
@[simp] theorem de_l0 {l : Int} : Sat (ixv1 (.d (De.lift l).d) (.d (.int 0)) h) Q ↔ Q (.d (.str "lift")) h := by
  simp [De.d, L2.atI, L2.ixN]
@[simp] theorem de_l1 {l : Int} : Sat (ixv1 (.d (De.lift l).d) (.d (.int 1)) h) Q ↔ Q (.d (.int l)) h := by
  simp [De.d, L2.atI, L2.ixN]
@[simp] theorem sm_1 {s : Int × Int × Int} : Sat (ixv1 (.d (sD s)) (.d (.int 1)) h) Q ↔ Q (.d (.int s.2.1)) h := by
  simp [sD, L2.atI, L2.ixN]
@[simp] theorem sm_0 {s : Int × Int × Int} : Sat (ixv1 (.d (sD s)) (.d (.int 0)) h) Q ↔ Q (.d (.int s.1)) h := by
  simp [sD, L2.atI, L2.ixN]
end
section
variable {P : Pg} (L : Lk P) {Q : PV → Hs → Prop} {h : Hs} {n : Nat}
include L
theorem is_away_S {H : Ho} {a : Int} {e : De} (q : Q (.d (.bool (H.away a e))) h) : Sat (callN P (n + 2) "is_away" [.d H.d, .d (.int a), .d e.d] h) Q := by
  rw [call0 L.is_away rfl]
  cases e with
  | go l =>
    simp [f_is_away, De.d, L2.atI, L2.ixN]
    refine door_at_S L ?_
    have q : Q (.d (.bool ((H.dr a l).isNone))) h := q
    cases e : H.dr a l with
    | none => rw [e] at q; simpa [isNonV] using q
    | some p => rw [e] at q; simpa [isNonV] using q
  | file t =>
    have q : Q (.d (.bool (!decide (a ∈ H.bs)))) h := q
    simp [f_is_away, De.d, L2.atI, L2.ixN, nin_ints]
    by_cases c : a ∈ H.bs <;> simp_all
  | lift t =>
    simp [f_is_away, De.d, L2.atI, L2.ixN]
    refine smith_at_S L ?_
    have q : Q (.d (.bool ((H.sm a).isNone))) h := q
    cases e : H.sm a with
    | none => rw [e] at q; simpa [isNonV] using q
    | some p => rw [e] at q; simpa [isNonV, sD] using q
theorem hall_behind_S {H : Ho} {a : Int} {e : De} (he : H.away a e = false) (q : Q (.d (.int (H.to a e))) h) : Sat (callN P (n + 2) "hall_behind" [.d H.d, .d (.int a), .d e.d] h) Q := by
  rw [call0 L.hall_behind rfl]
  cases e with
  | go l =>
    have he : (H.dr a l).isNone = false := he
    have q : Q (.d (.int (match H.dr a l with
      | some (_, x) => x.b
      | none => a))) h := q
    cases e : H.dr a l with
    | none => rw [e] at he; cases he
    | some p =>
      obtain ⟨i, x⟩ := p
      rw [e] at q
      obtain ⟨_, g, _⟩ := fdI_get e
      have ei : (H.ds.map Dr.d)[i]? = some x.d := by rw [List.getElem?_map, show H.ds[i]? = some x from g]; rfl
      simp [f_hall_behind, De.d, L2.atI, L2.ixN]
      refine door_at_S (H := H) L ?_
      rw [e]
      simp
      rw [show L2.atI (H.ds.map Dr.d) (i : Int) = some x.d from atI_nat ei]
      simpa [Dr.d, L2.atI, L2.ixN] using q
  | file t => simpa [f_hall_behind, De.d, L2.atI, L2.ixN] using (show Q (.d (.int a)) h from q)
  | lift t => simpa [f_hall_behind, De.d, L2.atI, L2.ixN] using (show Q (.d (.int a)) h from q)
end
end Hf
end

section
set_option Elab.async false
set_option linter.all false
set_option maxRecDepth 100000
/-! bars and rows -/
namespace Hf
open PySem Iw
def Ho.bar (H : Ho) (a : Int) (e : De) : Nat → List Int → Option (Bool × Nat)
  | _, [] => none
  | j, x :: r => if x < (H.gap a e j).1 then some (false, j) else if (H.gap a e j).2 < x then some (true, j) else Ho.bar H a e (j + 1) r
def Ho.step (H : Ho) (e : De) : Nat → List Int → List Int
  | _, [] => []
  | j, x :: r => (if x - H.wear e j > 0 then x - H.wear e j else 0) :: Ho.step H e (j + 1) r
theorem step_len (H : Ho) (e : De) : ∀ (k : List Int) (j : Nat), (H.step e j k).length = k.length
  | [], _ => rfl
  | _ :: k, j => congrArg (· + 1) (step_len H e k (j + 1))
def Ho.bars (H : Ho) : Int → List Int → Nat → List De → Option (Nat × Bool × Nat)
  | _, _, _, [] => none
  | a, k, i, e :: r => match H.bar a e 0 k with
    | some (b, j) => some (i, b, j)
    | none => Ho.bars H (H.to a e) (H.step e 0 k) (i + 1) r
def Ho.ends (H : Ho) : Int → List Int → List De → Int × List Int
  | a, k, [] => (a, k)
  | a, k, e :: r => Ho.ends H (H.to a e) (H.step e 0 k) r
def Laid (H : Ho) : Int → List De → Prop
  | _, [] => True
  | a, e :: r => DeOk H e ∧ H.away a e = false ∧ Laid H (H.to a e) r
theorem Laid.ok {H : Ho} : ∀ {r : List De} {a : Int}, Laid H a r → ∀ e ∈ r, DeOk H e
  | e :: r, a, l, d, hd => by
    rcases List.mem_cons.mp hd with z | hd
    · subst z; exact l.1
    · exact Laid.ok l.2.2 d hd
def bwD (b : Bool) (j : Nat) : PyData := .tuple [.str (cond b "high" "low"), .int j]
section
variable {P : Pg} (L : Lk P) {Q : PV → Hs → Prop} {h : Hs} {n : Nat}
include L
theorem wear_of_S {H : Ho} {e : De} {j : Nat} (ok : HoOk H) (he : DeOk H e) (hj : (j : Int) < H.t) (q : Q (.d (.int (H.wear e j))) h) : Sat (callN P (n + 1) "wear_of" [.d H.d, .d e.d, .d (.int j)] h) Q := by
  rw [call0 L.wear_of rfl]
  cases e with
  | go l =>
    have h1 : l.toNat < H.ws.length := by have h1 := he.1; have h2 := he.2; omega
    have ew : H.ws[l.toNat]? = some H.ws[l.toNat] := by simp [h1]
    have hw := ok.w _ (List.getElem_mem h1)
    have h2 : j < (H.ws[l.toNat]).length := by have := hw.1; omega
    have e1 : L2.atI (H.ws.map kD) l = some (kD H.ws[l.toNat]) := atI_int he.1 (by rw [List.getElem?_map, ew]; rfl)
    have e2 : L2.atI ((H.ws[l.toNat]).map PyData.int) (j : Int) = some (.int (H.ws[l.toNat])[j]) := atI_nat (by rw [List.getElem?_map, List.getElem?_eq_getElem h2]; rfl)
    have ev : H.wear (.go l) j = (H.ws[l.toNat])[j] := by
      show (H.ws.getD l.toNat []).getD j 0 = _
      simp [List.getD, ew, h2]
    rw [ev] at q
    simp [f_wear_of]
    rw [show L2.atI (H.ws.map kD) l = _ from e1]
    simp [kD]
    rw [e2]
    simpa using q
  | file t =>
    have q : Q (.d (.int (if t = j then 1 else 0))) h := q
    simp [f_wear_of]
    by_cases c : t = (j : Int) <;> simp_all
  | lift t =>
    have q : Q (.d (.int (if t = j then -1 else 0))) h := q
    simp [f_wear_of]
    by_cases c : t = (j : Int) <;> simp_all
theorem gap_of_S {H : Ho} {a : Int} {e : De} {j : Nat} (ok : HoOk H) (he : H.away a e = false) (hj : (j : Int) < H.t) (q : Q (.d (gD (H.gap a e j))) h) : Sat (callN P (n + 2) "gap_of" [.d H.d, .d (.int a), .d e.d, .d (.int j)] h) Q := by
  rw [call0 L.gap_of rfl]
  cases e with
  | go l =>
    have he : (H.dr a l).isNone = false := he
    have q : Q (.d (gD (match H.dr a l with
      | some (_, x) => x.bx.getD j (0, 0)
      | none => (0, 0)))) h := q
    cases e : H.dr a l with
    | none => rw [e] at he; cases he
    | some p =>
      obtain ⟨i, x⟩ := p
      rw [e] at q
      obtain ⟨_, g, _⟩ := fdI_get e
      have gi : H.ds[i]? = some x := g
      have hx := ok.d x (List.mem_of_getElem? gi)
      have ei : (H.ds.map Dr.d)[i]? = some x.d := by rw [List.getElem?_map, gi]; rfl
      have hb : j < x.bx.length := by have := hx.bx.1; omega
      have eb : L2.atI (x.bx.map gD) (j : Int) = some (gD (x.bx.getD j (0, 0))) := atI_nat (by rw [List.getElem?_map, List.getElem?_eq_getElem hb]; simp [List.getD, hb])
      simp [f_gap_of]
      refine door_at_S (H := H) L ?_
      rw [e]
      simp
      rw [show L2.atI (H.ds.map Dr.d) (i : Int) = some x.d from atI_nat ei]
      simp [bD]
      rw [eb]
      simpa using q
  | file t =>
    have q : Q (.d (gD (if t = j then (1, 6) else (0, 6)))) h := q
    simp [f_gap_of]
    by_cases c : t = (j : Int) <;> simp_all [gD]
  | lift t =>
    have he : (H.sm a).isNone = false := he
    have q : Q (.d (gD (if t = j then (0, match H.sm a with | some s => s.2.1 - 1 | none => 0) else (0, 6)))) h := q
    cases e : H.sm a with
    | none => rw [e] at he; cases he
    | some s =>
      rw [e] at q
      simp [f_gap_of]
      by_cases c : t = (j : Int)
      · simp_all
        refine smith_at_S L ?_
        rw [e]
        simpa [gD] using q
      · simp_all [gD]
theorem bar_of_S {H : Ho} {a : Int} {e : De} {k : List Int} (ok : HoOk H) (he : H.away a e = false) (hk : (k.length : Int) = H.t) (q : Q (match H.bar a e 0 k with | none => .d .none | some (b, j) => .d (bwD b j)) h) : Sat (callN P (n + 3) "bar_of" [.d H.d, .d (stD a k), .d e.d] h) Q := by
  rw [call0 L.bar_of rfl]
  simp [f_bar_of, stD, asg]
  refine is_away_S L ?_
  simp [he, kD]
  have go : ∀ (r : List Int) (j : Nat) (u v w z : Option PV) {F : Fl × Sg → Hs → Prop}, (j : Int) + r.length ≤ H.t → (match H.bar a e j r with
      | some (b, j) => ∀ σ, F (.rt (.d (bwD b j)), σ) h
      | none => ∀ u v w z, F (.nx, [some (.d H.d), some (.d (stD a k)), some (.d e.d), some (.d (.int a)), some (.d (kD k)), u, v, w, z]) h) →
      Sat (forF (.cons (.nm 5) (.cons (.nm 6) .nil)) (evS (callN P (n + 2)) h.length (.seq (.asg (.cons (.nm 7) (.cons (.nm 8) .nil)) (.call "gap_of" (.cons (.loc 0) (.cons (.loc 3) (.cons (.loc 2) (.cons (.loc 5) .nil)))))) (.seq (.ife (.cmp .lt (.loc 6) (.loc 7)) (.seq (.ret (.tup (.cons (.lit (.str "low")) (.cons (.loc 5) .nil)))) .skip) .skip) (.seq (.ife (.cmp .gt (.loc 6) (.loc 8)) (.seq (.ret (.tup (.cons (.lit (.str "high")) (.cons (.loc 5) .nil)))) .skip) .skip) .skip)))) (enums j (r.map PyData.int)) [some (.d H.d), some (.d (stD a k)), some (.d e.d), some (.d (.int a)), some (.d (kD k)), u, v, w, z] h) F := by
    intro r
    induction r with
    | nil => intro j u v w z F hj q; exact forF_nil.mpr (q u v w z)
    | cons x r ih =>
      intro j u v w z F hj q
      refine forF_cons.mpr ⟨[some (.d H.d), some (.d (stD a k)), some (.d e.d), some (.d (.int a)), some (.d (kD k)), some (.d (.int j)), some (.d (.int x)), w, z], by simp [asg], ?_⟩
      simp
      refine gap_of_S L ok he (by simp at hj; omega) ?_
      unfold Ho.bar at q
      by_cases c : x < (H.gap a e j).1
      · rw [if_pos c] at q
        simp [gD, asg, c]
        exact q _
      · rw [if_neg c] at q
        by_cases c2 : (H.gap a e j).2 < x
        · rw [if_pos c2] at q
          simp [gD, asg, c, c2]
          exact q _
        · rw [if_neg c2] at q
          simp [gD, asg, c, c2]
          exact ih (j + 1) _ _ _ _ (by simp at hj; omega) q
  refine go k 0 none none none none (by omega) ?_
  cases e : H.bar a _ 0 k with
  | none => rw [e] at q; intro u v w z; simpa using q
  | some p => rw [e] at q; obtain ⟨b, j⟩ := p; intro σ; simpa using q
end
end Hf
end

section
set_option Elab.async false
set_option linter.all false
set_option maxRecDepth 100000
namespace Hf
open PySem Iw
section
variable {P : Pg} (L : Lk P) {Q : PV → Hs → Prop} {h : Hs} {n : Nat}
include L
/-- what done_by makes of one pair -/
def stepV (H : Ho) (e : De) : PV → PV
  | .d (.tuple [.int j, .int x]) => .d (.int (if x - H.wear e j.toNat > 0 then x - H.wear e j.toNat else 0))
  | v => v
omit L in
theorem step_map (H : Ho) (e : De) : ∀ (k : List Int) (j : Nat), (enums j (k.map PyData.int)).map (stepV H e) = ((H.step e j k).map PyData.int).map PV.d
  | [], _ => rfl
  | x :: k, j => by
    show stepV H e (.d (.tuple [.int j, .int x])) :: (enums (j + 1) (k.map PyData.int)).map (stepV H e) = _
    rw [step_map H e k (j + 1)]
    rfl
omit L in
theorem enums_mem : ∀ (k : List Int) (j : Nat) (v : PV), v ∈ enums j (k.map PyData.int) → ∃ (i : Nat) (x : Int), v = .d (.tuple [.int i, .int x]) ∧ i < j + k.length
  | [], j, v, hv => by simp [enums] at hv
  | x :: k, j, v, hv => by
    have hv : v ∈ .d (.tuple [.int j, .int x]) :: enums (j + 1) (k.map PyData.int) := hv
    rcases List.mem_cons.mp hv with e | hv
    · exact ⟨j, x, e, by simp⟩
    · obtain ⟨i, y, e, hi⟩ := enums_mem k (j + 1) v hv
      exact ⟨i, y, e, by simp; omega⟩
theorem done_by_S {H : Ho} {a : Int} {e : De} {k : List Int} (ok : HoOk H) (he : H.away a e = false) (hd : DeOk H e) (hk : (k.length : Int) = H.t) (q : Q (.d (stD (H.to a e) (H.step e 0 k))) h) : Sat (callN P (n + 3) "done_by" [.d H.d, .d (stD a k), .d e.d] h) Q := by
  have kl : k.length ≤ line := by have := ok.t.2; have : line = 16777216 := rfl; omega
  rw [call0 L.done_by rfl]
  simp [f_done_by, stD, asg, kD]
  refine sat_map (stepV H e) ?_ ?_
  · intro v hv
    obtain ⟨i, x, rfl, hi⟩ := enums_mem k 0 v hv
    simp [Iw.wipe, asg]
    refine wear_of_S L ok hd (by omega) ?_
    simp [stepV]
  · rw [step_map, sat_lstF (ds := (H.step e 0 k).map PyData.int) rfl]
    refine ⟨by rw [List.length_map, step_len]; exact kl, ?_⟩
    simp
    refine ⟨by rw [step_len]; exact kl, ?_⟩
    refine hall_behind_S L he ?_
    simpa [stD, kD] using q
theorem bar_at_S {H : Ho} {a : Int} {k : List Int} {row : List De} (ok : HoOk H) (hl : Laid H a row) (hk : (k.length : Int) = H.t) (q : Q (match H.bars a k 0 row with | none => .d .none | some (i, b, j) => .d (.tuple [.int i, .str (cond b "high" "low"), .int j])) h) : Sat (callN P (n + 4) "bar_at" [.d H.d, .d (stD a k), .d (rwD row)] h) Q := by
  rw [call0 L.bar_at rfl]
  simp [f_bar_at, rwD]
  have go : ∀ (r : List De) (a : Int) (k : List Int) (i : Nat) (u v w : Option PV) {F : Fl × Sg → Hs → Prop}, Laid H a r → (k.length : Int) = H.t → (match H.bars a k i r with
      | some (i, b, j) => ∀ σ, F (.rt (.d (.tuple [.int i, .str (cond b "high" "low"), .int j])), σ) h
      | none => ∀ s u v w, F (.nx, [some (.d H.d), some s, some (.d (rwD row)), u, v, w]) h) →
      Sat (forF (.cons (.nm 3) (.cons (.nm 4) .nil)) (evS (callN P (n + 3)) h.length (.seq (.asg (.nm 5) (.call "bar_of" (.cons (.loc 0) (.cons (.loc 1) (.cons (.loc 4) .nil))))) (.seq (.ife (.notNon (.loc 5)) (.seq (.ret (.bin .add (.tup (.cons (.loc 3) .nil)) (.loc 5))) .skip) .skip) (.seq (.asg (.nm 1) (.call "done_by" (.cons (.loc 0) (.cons (.loc 1) (.cons (.loc 4) .nil))))) .skip)))) (enums i (r.map De.d)) [some (.d H.d), some (.d (stD a k)), some (.d (rwD row)), u, v, w] h) F := by
    intro r
    induction r with
    | nil => intro a k i u v w F hl hk q; exact forF_nil.mpr (q _ u v w)
    | cons e r ih =>
      intro a k i u v w F hl hk q
      refine forF_cons.mpr ⟨[some (.d H.d), some (.d (stD a k)), some (.d (rwD row)), some (.d (.int i)), some (.d e.d), w], by simp [asg], ?_⟩
      simp
      refine bar_of_S L ok hl.2.1 hk ?_
      unfold Ho.bars at q
      cases eb : H.bar a e 0 k with
      | some p =>
        obtain ⟨b, j⟩ := p
        rw [eb] at q
        simp [asg, isNonV, bwD]
        exact ⟨by decide, q _⟩
      | none =>
        rw [eb] at q
        simp [asg, isNonV]
        refine done_by_S L ok hl.2.1 hl.1 hk ?_
        exact ih _ _ (i + 1) _ _ _ hl.2.2 (by rw [step_len]; exact hk) q
  refine go row a k 0 none none none hl hk ?_
  cases e : H.bars a k 0 row with
  | none => rw [e] at q; intro s u v w; simpa using q
  | some p => rw [e] at q; obtain ⟨i, b, j⟩ := p; intro σ; simpa using q
theorem first_barred_S {H : Ho} {a : Int} {k : List Int} {row : List De} (ok : HoOk H) (h1 : 0 ≤ a) (h2 : a < H.n) (hl : Laid H a row) (hr : row.length ≤ line) (hk : KeyOk H.t k) (q : Q (match H.bars a k 0 row with | none => .d .none | some (i, b, j) => .d (.tuple [.int i, .str (cond b "high" "low"), .int j])) h) : Sat (callN P (n + 11) "first_barred" [.d H.d, .d (stD a k), .d (rwD row)] h) Q := by
  have kl : k.length ≤ line := by have := ok.t.2; have := hk.1; have : line = 16777216 := rfl; omega
  rw [call0 L.first_barred rfl]
  simp [f_first_barred]
  refine need_stand_S L ok h1 h2 hk kl ?_
  refine need_row_S L hl.ok hr ?_
  refine bar_at_S L ok hl hk.1 ?_
  cases e : H.bars a k 0 row with
  | none => rw [e] at q; simpa using q
  | some p => rw [e] at q; obtain ⟨i, b, j⟩ := p; simpa using q
theorem behind_by_S {H : Ho} {a : Int} {k : List Int} {row : List De} (ok : HoOk H) (hl : Laid H a row) (hk : (k.length : Int) = H.t) (q : Q (.d (stD (H.ends a k row).1 (H.ends a k row).2)) h) : Sat (callN P (n + 4) "behind_by" [.d H.d, .d (stD a k), .d (rwD row)] h) Q := by
  rw [call0 L.behind_by rfl]
  simp [f_behind_by, rwD]
  have go : ∀ (r : List De) (a : Int) (k : List Int) (u : Option PV) {F : Fl × Sg → Hs → Prop}, Laid H a r → (k.length : Int) = H.t → (∀ u, F (.nx, [some (.d H.d), some (.d (stD (H.ends a k r).1 (H.ends a k r).2)), some (.d (rwD row)), u]) h) →
      Sat (forF (.nm 3) (evS (callN P (n + 3)) h.length (.seq (.asg (.nm 1) (.call "done_by" (.cons (.loc 0) (.cons (.loc 1) (.cons (.loc 3) .nil))))) .skip)) (r.map (PV.d ∘ De.d)) [some (.d H.d), some (.d (stD a k)), some (.d (rwD row)), u] h) F := by
    intro r
    induction r with
    | nil => intro a k u F hl hk q; exact forF_nil.mpr (q u)
    | cons e r ih =>
      intro a k u F hl hk q
      refine forF_cons.mpr ⟨[some (.d H.d), some (.d (stD a k)), some (.d (rwD row)), some (.d e.d)], by simp [asg], ?_⟩
      simp
      refine done_by_S L ok hl.2.1 hl.1 hk ?_
      simp [asg]
      exact ih _ _ _ hl.2.2 (by rw [step_len]; exact hk) q
  refine go row a k none hl hk ?_
  intro u
  simpa using q
theorem behind_S {H : Ho} {a : Int} {k : List Int} {row : List De} (ok : HoOk H) (h1 : 0 ≤ a) (h2 : a < H.n) (hl : Laid H a row) (hr : row.length ≤ line) (hk : KeyOk H.t k) (hb : H.bars a k 0 row = none) (q : Q (.d (stD (H.ends a k row).1 (H.ends a k row).2)) h) : Sat (callN P (n + 12) "behind" [.d H.d, .d (stD a k), .d (rwD row)] h) Q := by
  rw [call0 L.behind rfl]
  simp [f_behind]
  refine first_barred_S L ok h1 h2 hl hr hk ?_
  rw [hb]
  simp [isNonV]
  exact behind_by_S L ok hl hk.1 (by simpa using q)
end
end Hf
end

section
set_option Elab.async false
set_option linter.all false
set_option maxRecDepth 100000
/-! the pen -/
namespace Hf
open PySem Iw
def penL (a b c : Int) : Ob := .lst [.d (.int a), .d (.int b), .d (.int c)]
/-- the pen at n, with so many draws ahead of it at least -/
def PenAt (h : Hs) (n B : Nat) : Prop := ∃ a b c : Int, h[n]? = some (penL a b c) ∧ 0 ≤ a ∧ 0 ≤ b ∧ b < 1000000007 ∧ 0 ≤ c ∧ c + B ≤ 1099511627776
/-- all else is as it was -/
structure Fr (n : Nat) (h h' : Hs) : Prop where
  len : h'.length = h.length
  oth : ∀ j, j ≠ n → h'[j]? = h[j]?
theorem Fr.refl {n : Nat} {h : Hs} : Fr n h h := ⟨rfl, fun _ _ => rfl⟩
theorem Fr.trans {n : Nat} {h h1 h2 : Hs} (a : Fr n h h1) (b : Fr n h1 h2) : Fr n h h2 := ⟨b.len.trans a.len, fun j hj => (b.oth j hj).trans (a.oth j hj)⟩
theorem PenAt.less {h : Hs} {n B B' : Nat} (p : PenAt h n B) (e : B' ≤ B) : PenAt h n B' := by
  obtain ⟨a, b, c, h1, h2, h3, h4, h5, h6⟩ := p
  exact ⟨a, b, c, h1, h2, h3, h4, h5, by omega⟩
theorem PenAt.lt {h : Hs} {n B : Nat} (p : PenAt h n B) : n < h.length := by
  obtain ⟨a, b, c, h1, _⟩ := p
  exact (List.getElem?_eq_some_iff.mp h1).1
theorem fr_set {n : Nat} {h : Hs} {o : Ob} : Fr n h (h.set n o) := ⟨by simp, fun j hj => by rw [List.getElem?_set_ne (Ne.symm hj)]⟩
section
variable {Q : PV → Hs → Prop} {h : Hs}
@[simp] theorem lst0 : Sat (lstOf false [] h) Q ↔ Q (.d (.list [])) h :=
  (sat_lstF (ds := []) rfl).trans ⟨fun q => q.2, fun q => ⟨(by decide : 0 ≤ line), q⟩⟩
@[simp] theorem lst2 {a b : PyData} : Sat (lstOf false [.d a, .d b] h) Q ↔ Q (.d (.list [a, b])) h :=
  (sat_lstF (ds := [a, b]) rfl).trans ⟨fun q => q.2, fun q => ⟨(by decide : 2 ≤ line), q⟩⟩
@[simp] theorem lst3 {a b c : PyData} : Sat (lstOf false [.d a, .d b, .d c] h) Q ↔ Q (.d (.list [a, b, c])) h :=
  (sat_lstF (ds := [a, b, c]) rfl).trans ⟨fun q => q.2, fun q => ⟨(by decide : 3 ≤ line), q⟩⟩
end
section
variable {P : Pg} (D : LkD P) {Q : PV → Hs → Prop} {h : Hs} {n i : Nat}
omit D in
theorem mul_ok {x y : Int} (h : -(2 ^ 64) < x ∧ x < 2 ^ 64) : mulOk x y = true := by
  unfold mulOk
  exact decide_eq_true (.inl h)
include D
theorem draw_S {m : Int} {B : Nat} (hp : PenAt h n (B + 1)) (h1 : 0 < m) (h2 : m < 18446744073709551616) (q : ∀ d h', 0 ≤ d → d < m → Fr n h h' → PenAt h' n B → Q (.d (.int d)) h') : Sat (callN P (i + 1) "_law_draw" [.ref n, .d (.int m)] h) Q := by
  obtain ⟨a, b, c, e, ha, hb, hb2, hc, hB⟩ := hp
  have hn := (List.getElem?_eq_some_iff.mp e).1
  have e : h[n]? = some (.lst [.d (.int a), .d (.int b), .d (.int c)]) := e
  have es : ∀ o, (h.set n o)[n]? = some o := fun o => List.getElem?_set_self hn
  have tk : ∀ o, (h.set n o).take h.length = h.set n o := fun o => List.take_of_length_le (by simp)
  have tk2 : ∀ h' : Hs, h'.length = h.length → h'.take h.length = h' := fun h' e => List.take_of_length_le (by omega)
  have m0 : m ≠ 0 := by omega
  have mn : m.natAbs < 18446744073709551616 := by omega
  rw [call0 D.law_draw rfl]
  by_cases c1 : 0 < a
  · simp [fD_law_draw, ix_ref e, L2.atI, L2.ixN, c1, m0, mn, setv_ref e (show L2.ixN 3 0 = some 0 from rfl), tk, asg]
    refine q _ _ (Int.fmod_nonneg_of_pos _ h1) (Int.fmod_lt_of_pos _ h1) fr_set ⟨a.fdiv m, b, c, es _, Int.fdiv_nonneg (by omega) (by omega), hb, hb2, hc, by omega⟩
  · have hc1 : (0 : Int) ≤ c + 1 := by omega
    have hbig : c + 1 ≤ 1099511627776 := by omega
    have k1 : mulOk 17 (c + 1) = true := mul_ok (by decide)
    have k2 : mulOk 2 (c + 1) = true := mul_ok (by decide)
    have k3 : mulOk (b + 17 * (c + 1)) (69621 + 2 * (c + 1)) = true := mul_ok (by omega)
    have k4 : ∀ x : Int, mulOk (x.fmod 2147483647) (x.fmod 2147483647) = true := fun x => by
      have g1 := Int.fmod_nonneg_of_pos x (show (0 : Int) < 2147483647 by decide)
      have g2 := Int.fmod_lt_of_pos x (show (0 : Int) < 2147483647 by decide)
      exact mul_ok (by omega)
    have k5 : mulOk 40503 (c + 1) = true := mul_ok (by decide)
    have k6 : ∀ x : Int, mulOk (x.fmod 2147483629) 48271 = true := fun x => by
      have g1 := Int.fmod_nonneg_of_pos x (show (0 : Int) < 2147483629 by decide)
      have g2 := Int.fmod_lt_of_pos x (show (0 : Int) < 2147483629 by decide)
      exact mul_ok (by omega)
    simp [fD_law_draw, ix_ref e, L2.atI, L2.ixN, c1, m0, mn, setv_ref e (show L2.ixN 3 2 = some 2 from rfl), tk, ix_ref (es _), asg, k1, k2, k3, k4, k5, k6]
    refine q _ _ (Int.fmod_nonneg_of_pos _ h1) (Int.fmod_lt_of_pos _ h1) fr_set ⟨a, b, c + 1, es _, ha, hb, hb2, hc1, by omega⟩
omit D in
/-- a call that hands back a list of its own, kept -/
theorem call1 {P : Pg} {Q : PV → Hs → Prop} {h : Hs} {f : Str} {a b n : Nat} {s : S} {vs : List PV} (hl : P.lookup f = some ⟨a, b, true, s⟩) (hn : vs.length = a) (q : Sat (evS (callN P n) h.length s (vs.map some ++ List.replicate (b - vs.length) none) h) fun p h' => match p.1 with
    | .rt v => Sat (handK h' h.length v) Q
    | _ => False) : Sat (callN P (n + 1) f vs h) Q := by
  have e : callN P (n + 1) f vs h = fin true h.length (evS (callN P n) h.length s (vs.map some ++ List.replicate (b - vs.length) none) h) := by
    show (match P.lookup f with
      | none => (R.bad : R PV)
      | some fd => if vs.length = fd.np then fin fd.kp h.length (evS (callN P n) h.length fd.body (vs.map some ++ List.replicate (fd.ns - vs.length) none) h) else .bad) = _
    rw [hl]
    exact if_pos hn
  rw [e]
  obtain ⟨p, h', e2, q⟩ := q
  rw [e2]
  obtain ⟨fl, σ⟩ := p
  cases fl with
  | rt v => exact q
  | nx => exact q.elim
  | bk => exact q.elim
  | ct => exact q.elim
theorem pen_S {x : Int} (q : ∀ a b : Int, 0 ≤ a → 0 ≤ b → b < 1000000007 → Q (.ref h.length) (h ++ [penL a b 0])) : Sat (callN P (i + 1) "_law_pen" [.d (.int x)] h) Q := by
  refine call1 D.law_pen rfl ?_
  simp [fD_law_pen]
  refine ⟨by decide, ?_⟩
  have e : handK (h ++ [penL (if (x - 1000000000000000000 > 0) then x - 1000000000000000000 else 0) (x.fmod 1000000007) 0]) h.length (.ref h.length) = .ok (.ref h.length) (h ++ [penL (if (x - 1000000000000000000 > 0) then x - 1000000000000000000 else 0) (x.fmod 1000000007) 0]) := by
    unfold handK
    simp [penL, keepOb, keepV]
  have q2 := q _ _ (show (0 : Int) ≤ (if (x - 1000000000000000000 > 0) then x - 1000000000000000000 else 0) by split <;> omega) (Int.fmod_nonneg_of_pos x (show (0 : Int) < 1000000007 by decide)) (Int.fmod_lt_of_pos x (by decide))
  have fin := sat_ok.mpr q2
  rw [← e] at fin
  simpa [penL] using fin
end
end Hf
end

section
set_option Elab.async false
set_option linter.all false
set_option maxRecDepth 100000
/-! comprehensions that draw; boxes, keys -/
namespace Hf
open PySem Iw
inductive All2 {α β : Type} (Y : α → β → Prop) : List α → List β → Prop
  | nil : All2 Y [] []
  | cons {x : α} {y : β} {xs : List α} {ys : List β} : Y x y → All2 Y xs ys → All2 Y (x :: xs) (y :: ys)
theorem All2.len {α β : Type} {Y : α → β → Prop} {xs : List α} {ys : List β} (a : All2 Y xs ys) : ys.length = xs.length := by
  induction a with
  | nil => rfl
  | cons _ _ ih => simp [ih]
section
variable {α : Type} {h : Hs} {n : Nat} {Ql : List PV → Hs → Prop}
theorem compF_pen {st : PV → Hs → R (Option PV)} {Y : PV → Option PV → Prop} {c : Nat} : ∀ {xs : List PV} {B : Nat} {h : Hs}, (∀ x ∈ xs, ∀ B h', Fr n h h' → PenAt h' n (B + c) → Sat (st x h') fun o h2 => Y x o ∧ Fr n h' h2 ∧ PenAt h2 n B) → PenAt h n (B + xs.length * c) →
    Sat (compF st xs h) fun ys h' => ∃ os, All2 Y xs os ∧ ys = os.filterMap id ∧ Fr n h h' ∧ PenAt h' n B
  | [], B, h, _, hp => by
    refine sat_ok.mpr ⟨[], .nil, rfl, .refl, ?_⟩
    simpa using hp
  | x :: xs, B, h, hs, hp => by
    unfold compF
    have e : (x :: xs).length * c = xs.length * c + c := by rw [List.length_cons, Nat.add_mul, Nat.one_mul]
    rw [sat_bind]
    refine (hs x List.mem_cons_self (B + xs.length * c) h .refl (by rw [Nat.add_assoc, ← e]; exact hp)).mono fun o h1 ⟨y1, f1, p1⟩ => ?_
    rw [sat_bind]
    refine (compF_pen (xs := xs) (fun z hz B h' f p => hs z (List.mem_cons_of_mem _ hz) B h' (f1.trans f) p) p1).mono fun ys h2 ⟨os, a, e2, f2, p2⟩ => ?_
    refine sat_ok.mpr ⟨o :: os, .cons y1 a, ?_, f1.trans f2, p2⟩
    rw [e2]
    cases o <;> rfl
/-- a comprehension whose turns draw c times at most -/
theorem sat_pen {st : PV → Hs → R (Option PV)} (Y : PV → Option PV → Prop) (c : Nat) {xs : List PV} {B : Nat} (hp : PenAt h n (B + xs.length * c)) (hs : ∀ x ∈ xs, ∀ B h', Fr n h h' → PenAt h' n (B + c) → Sat (st x h') fun o h2 => Y x o ∧ Fr n h' h2 ∧ PenAt h2 n B)
    (q : ∀ os h', All2 Y xs os → Fr n h h' → PenAt h' n B → Ql (os.filterMap id) h') : Sat (compGo st (.fx xs) h) Ql := by
  obtain ⟨ys, h', e, os, a, rfl, f, p⟩ := compF_pen hs hp
  refine ⟨_, h', ?_, q os h' a f p⟩
  show noExc (compF st xs h) = _
  rw [e]
  rfl
theorem rngL_length : ∀ (k : Nat) (lo : Int), (rngL lo k).length = k
  | 0, _ => rfl
  | k + 1, lo => congrArg (· + 1) (rngL_length k (lo + 1))
end
section
theorem all2_map {f : α → PyData} {G : α → Prop} {xs : List PV} {os : List (Option PV)} (a : All2 (fun _ o => ∃ g, G g ∧ o = some (.d (f g))) xs os) : ∃ gs : List α, gs.length = xs.length ∧ (∀ g ∈ gs, G g) ∧ os.filterMap id = (gs.map f).map PV.d := by
  induction a with
  | nil => exact ⟨[], rfl, by simp, rfl⟩
  | cons y _ ih =>
    obtain ⟨g, h1, rfl⟩ := y
    obtain ⟨gs, h2, h3, h4⟩ := ih
    refine ⟨g :: gs, by simp [h2], ?_, ?_⟩
    · intro z hz
      rcases List.mem_cons.mp hz with e | hz
      · rw [e]; exact h1
      · exact h3 z hz
    · rw [List.filterMap_cons]
      simp only [id_eq]
      rw [h4]
      rfl
end
end Hf
end

section
set_option Elab.async false
set_option linter.all false
set_option maxRecDepth 100000
/-! keys; the law's own looks at a house -/
namespace Hf
open PySem Iw
theorem rng_mem : ∀ (k : Nat) (lo : Int) (x : PV), x ∈ rngL lo k → ∃ i : Int, x = .d (.int i) ∧ lo ≤ i ∧ i < lo + k
  | 0, _, _, h => nomatch h
  | k + 1, lo, x, h => by
    rcases List.mem_cons.mp h with e | h
    · exact ⟨lo, e, by omega, by omega⟩
    · obtain ⟨i, e, h1, h2⟩ := rng_mem k (lo + 1) x h
      exact ⟨i, e, by omega, by omega⟩
theorem plain_map {α : Type} {f : α → PyData} (h : ∀ x, (f x).plain = true) : ∀ xs : List α, PyData.plainAll (xs.map f) = true
  | [] => rfl
  | x :: xs => by
    show ((f x).plain && PyData.plainAll (xs.map f)) = true
    rw [h x, plain_map h xs]; rfl
theorem plain_dr (x : Dr) : x.d.plain = true := by
  show (true && (true && (true && (PyData.plainAll (x.bx.map gD) && true)))) = true
  rw [plain_map (f := gD) (fun _ => rfl)]
  rfl
theorem plain_de (e : De) : e.d.plain = true := by cases e <;> rfl
section
variable {Q : PV → Hs → Prop} {h : Hs}
theorem ne_nil {ds : List PyData} (hp : PyData.plainAll ds = true) : cmpop .ne (.d (.list ds)) (.d (.list [])) h = some (!ds.isEmpty) := by
  rw [cmp_d (by decide)]
  have ok : eqOk (.list ds) (.list []) = true := by
    show (PyData.plainAll ds && (true && decide (min (PyData.depth (.list ds)) 1 ≤ deep))) = true
    rw [hp]
    have : min (PyData.depth (.list ds)) 1 ≤ deep := Nat.le_trans (Nat.min_le_right _ _) (by decide)
    simp [this]
  show (if eqOk (.list ds) (.list []) = true then some (!PyData.eqv (.list ds) (.list [])) else none) = _
  rw [if_pos ok]
  cases ds <;> rfl
@[simp] theorem b_addL {xs ys : List PyData} : Sat (binop .add (.d (.list xs)) (.d (.list ys)) h) Q ↔ xs.length + ys.length ≤ line ∧ Q (.d (.list (xs ++ ys))) h := by
  show Sat (if (xs.map PV.d).length + (ys.map PV.d).length ≤ line then mkL false (xs.map PV.d ++ ys.map PV.d) h else .bad) Q ↔ _
  rw [sat_if, ← List.map_append, List.length_map, List.length_map]
  show _ ∧ Sat (R.of ((datas ((xs ++ ys).map PV.d)).map fun ds => PV.d (.list ds)) h) Q ↔ _
  rw [datas_map']
  exact and_congr_right fun _ => sat_ok
theorem ninL_ints {a : Int} {xs : List Int} : cmpop .nin (.d (.int a)) (.d (.list (xs.map .int))) h = some (!decide (a ∈ xs)) := by
  show (isIn1 h (.d (.int a)) (.d (.list (xs.map PyData.int)))).map (!·) = _
  have e : isIn1 h (.d (.int a)) (.d (.list (xs.map PyData.int))) = some (decide (a ∈ xs)) := by
    show (if (true && (PyData.plainAll (xs.map PyData.int) && decide (0 ≤ deep))) = true then some ((xs.map PyData.int).any fun y => PyData.eqv y (.int a)) else none) = _
    rw [plain_ints, any_ints]
    rfl
  rw [e]; rfl
end
theorem fsm_mem {a : Int} : ∀ ss : List (Int × Int × Int), (fsm a ss).isNone = !decide (a ∈ ss.map (·.1))
  | [] => by simp [fsm]
  | s :: ss => by
    unfold fsm
    by_cases c : s.1 = a
    · rw [if_pos c]; simp [c]
    · rw [if_neg c, fsm_mem ss]
      have : ¬ a = s.1 := fun z => c z.symm
      simp [this]
section
variable {P : Pg} (D : LkD P) (K : LkK P) {Q : PV → Hs → Prop} {h : Hs} {n i : Nat}
include D K
theorem key_S {t : Int} {B : Nat} (ht : 1 ≤ t ∧ t ≤ 3) (hp : PenAt h n (B + 3)) (q : ∀ k h', KeyOk t k → Fr n h h' → PenAt h' n B → Q (.d (kD k)) h') : Sat (callN P (i + 2) "_law_key" [.ref n, .d (.int t)] h) Q := by
  rw [call0 K.law_key rfl]
  have tl : line = 16777216 := rfl
  simp [fK_law_key]
  refine ⟨by omega, ?_⟩
  refine sat_pen (n := n) (B := B + (3 - t.toNat)) (fun _ o => ∃ g : Int, (0 ≤ g ∧ g ≤ 6) ∧ o = some (.d (.int g))) 1 (hp.less (by rw [rngL_length]; omega)) ?_ ?_
  · intro x hx B' h' f p
    obtain ⟨k, rfl, _⟩ := rng_mem _ _ _ hx
    simp [Iw.wipe, asg]
    exact draw_S D p (by decide) (by decide) fun g h2 g1 g2 f2 p2 => ⟨⟨g, ⟨g1, by omega⟩, rfl⟩, f2, p2⟩
  · intro os h' a f p
    obtain ⟨gs, e1, e2, e3⟩ := all2_map (f := PyData.int) a
    rw [e3, sat_lstF (ds := gs.map .int) rfl]
    rw [rngL_length] at e1
    refine ⟨by simp; omega, ?_⟩
    simp
    refine ⟨by omega, ?_⟩
    rw [List.take_of_length_le (by rw [f.len]; exact Nat.le_refl _)]
    exact q gs h' ⟨by omega, e2⟩ f (p.less (by omega))
end
end Hf
end

section
set_option Elab.async false
set_option linter.all false
set_option maxRecDepth 100000
/-! rows drawn at random -/
namespace Iw
open PySem L2
section
variable {α β : Type} {h : Hs} {Ql : List PV → Hs → Prop}
/-- a comprehension over a list that is the picture of another; it leaves the store as it is -/
theorem sat_filtM {f : β → PV} {st : PV → Hs → R (Option PV)} (p : β → Bool) (g : β → PV) {xs : List β} (hs : ∀ x ∈ xs, Sat (st (f x) h) fun o h' => o = (if p x then some (g x) else none) ∧ h' = h) (q : Ql ((xs.filter p).map g) h) : Sat (compGo st (.fx (xs.map f)) h) Ql := by
  have go : ∀ xs : List β, (∀ x ∈ xs, Sat (st (f x) h) fun o h' => o = (if p x then some (g x) else none) ∧ h' = h) → compF st (xs.map f) h = .ok ((xs.filter p).map g) h := by
    intro xs
    induction xs with
    | nil => intro _; rfl
    | cons x xs ih =>
      intro hs
      have ih := ih fun y hy => hs y (List.mem_cons_of_mem _ hy)
      obtain ⟨o, h', e1, e2, e3⟩ := hs x (List.mem_cons_self)
      subst e3
      show compF st (f x :: xs.map f) h' = _
      unfold compF
      rw [e1]
      show (compF st (xs.map f) h').bind _ = _
      rw [ih, e2, List.filter_cons]
      by_cases c : p x = true
      · rw [if_pos c, if_pos c]; rfl
      · rw [if_neg c, if_neg c]; rfl
  refine ⟨_, h, ?_, q⟩
  show noExc (compF st (xs.map f) h) = _
  rw [go xs hs]
  rfl
theorem sat_mapM {f : β → PV} {st : PV → Hs → R (Option PV)} (g : β → PV) {xs : List β} (hs : ∀ x ∈ xs, Sat (st (f x) h) fun o h' => o = some (g x) ∧ h' = h) (q : Ql (xs.map g) h) : Sat (compGo st (.fx (xs.map f)) h) Ql := by
  refine sat_filtM (fun _ => true) g (fun x hx => by simpa using hs x hx) ?_
  rw [List.filter_eq_self.mpr (fun _ _ => rfl)]
  exact q
@[simp] theorem tup0 {Q : PV → Hs → Prop} : Sat (tupOf [] h) Q ↔ Q (.d (.tuple [])) h :=
  (sat_tup (ds := []) rfl).trans ⟨fun q => q.2, fun q => ⟨(by decide : 0 ≤ line), q⟩⟩
@[simp] theorem len_list {xs : List PyData} : lenOf h (.d (.list xs)) = some xs.length := by
  show (some (xs.map PV.d)).map List.length = _
  rw [Option.map_some, List.length_map]
end
def rngI : Int → Nat → List Int
  | _, 0 => []
  | lo, k + 1 => lo :: rngI (lo + 1) k
theorem rngL_eq : ∀ (k : Nat) (lo : Int), rngL lo k = (rngI lo k).map fun i => PV.d (.int i)
  | 0, _ => rfl
  | k + 1, lo => congrArg (PV.d (.int lo) :: ·) (rngL_eq k (lo + 1))
theorem rngI_mem : ∀ {k : Nat} {lo x : Int}, x ∈ rngI lo k → lo ≤ x ∧ x < lo + k
  | k + 1, lo, x, hx => by
    rcases List.mem_cons.mp hx with z | hx
    · omega
    · have := rngI_mem hx; omega
theorem rngI_len : ∀ (k : Nat) (lo : Int), (rngI lo k).length = k
  | 0, _ => rfl
  | k + 1, lo => congrArg (· + 1) (rngI_len k (lo + 1))
end Iw
namespace Hf
open PySem Iw
def Ho.deeds (H : Ho) : List De := ((rngI 0 H.t.toNat).map De.file ++ (rngI 0 H.ws.length).map De.go) ++ (rngI 0 H.t.toNat).map De.lift
theorem deeds_ok {H : Ho} (ok : HoOk H) : ∀ e ∈ H.deeds, DeOk H e := by
  have ht := ok.t
  intro e he
  simp only [Ho.deeds, List.mem_append, List.mem_map] at he
  rcases he with (⟨x, hx, rfl⟩ | ⟨x, hx, rfl⟩) | ⟨x, hx, rfl⟩ <;> have := rngI_mem hx
  · exact ⟨by omega, by omega⟩
  · exact ⟨by omega, by omega⟩
  · exact ⟨by omega, by omega⟩
theorem deeds_len {H : Ho} (ok : HoOk H) : H.deeds.length ≤ 12 := by
  have ht := ok.t
  have hw := ok.w0
  simp only [Ho.deeds, List.length_append, List.length_map, rngI_len]
  omega
def Ho.toR (H : Ho) : Int → List De → Int
  | a, [] => a
  | a, e :: r => Ho.toR H (H.to a e) r
theorem laid_snoc {H : Ho} {e : De} : ∀ {r : List De} {a : Int}, Laid H a r → DeOk H e → H.away (H.toR a r) e = false → Laid H a (r ++ [e])
  | [], a, _, h1, h2 => ⟨h1, h2, trivial⟩
  | d :: r, a, l, h1, h2 => ⟨l.1, l.2.1, laid_snoc l.2.2 h1 h2⟩
theorem toR_snoc {H : Ho} {e : De} : ∀ {r : List De} {a : Int}, H.toR a (r ++ [e]) = H.to (H.toR a r) e
  | [], a => rfl
  | d :: r, a => toR_snoc (r := r)
theorem to_in {H : Ho} {a : Int} {e : De} (ok : HoOk H) (h1 : 0 ≤ a) (h2 : a < H.n) : 0 ≤ H.to a e ∧ H.to a e < H.n := by
  cases e with
  | go l =>
    show 0 ≤ (match H.dr a l with
      | some (_, x) => x.b
      | none => a) ∧ (match H.dr a l with
      | some (_, x) => x.b
      | none => a) < H.n
    cases e : H.dr a l with
    | none => exact ⟨h1, h2⟩
    | some p =>
      obtain ⟨i, x⟩ := p
      obtain ⟨_, g, _⟩ := fdI_get e
      exact (ok.d x (List.mem_of_getElem? g)).b
  | file t => exact ⟨h1, h2⟩
  | lift t => exact ⟨h1, h2⟩
end Hf
end

section
set_option Elab.async false
set_option linter.all false
set_option maxRecDepth 100000
/-! objects of the run, beside the pen; dicts by pairs, sorted -/
namespace Hf
open PySem Iw
/-- the store h, and these objects after it; the pen at n may differ -/
structure Ex (n : Nat) (h hh : Hs) (obs : List Ob) : Prop where
  len : hh.length = h.length + obs.length
  oth : ∀ j, j < h.length → j ≠ n → hh[j]? = h[j]?
  obs : ∀ j, j < obs.length → hh[h.length + j]? = obs[j]?
theorem Ex.nil {n : Nat} {h hh : Hs} (f : Fr n h hh) : Ex n h hh [] := ⟨by rw [f.len]; rfl, fun j _ hj => f.oth j hj, fun j hj => absurd hj (Nat.not_lt_zero _)⟩
theorem Ex.fr {n : Nat} {h hh h2 : Hs} {obs : List Ob} (x : Ex n h hh obs) (hn : n < h.length) (f : Fr n hh h2) : Ex n h h2 obs := by
  refine ⟨f.len.trans x.len, fun j hj hjn => (f.oth j hjn).trans (x.oth j hj hjn), fun j hj => ?_⟩
  rw [f.oth _ (by omega)]
  exact x.obs j hj
theorem Ex.push {n : Nat} {h hh : Hs} {obs : List Ob} {o : Ob} (x : Ex n h hh obs) : Ex n h (hh ++ [o]) (obs ++ [o]) := by
  have hl := x.len
  refine ⟨by simp; omega, fun j hj hjn => ?_, fun j hj => ?_⟩
  · rw [List.getElem?_append_left (by omega)]; exact x.oth j hj hjn
  · by_cases c : j < obs.length
    · rw [List.getElem?_append_left (by omega), List.getElem?_append_left c]; exact x.obs j c
    · have e : j = obs.length := by simp at hj; omega
      subst e
      rw [← hl]
      simp
theorem Ex.set {n m : Nat} {h hh : Hs} {obs : List Ob} {o : Ob} (x : Ex n h hh obs) (hm : m < obs.length) : Ex n h (hh.set (h.length + m) o) (obs.set m o) := by
  have hl := x.len
  refine ⟨by simp; omega, fun j hj hjn => ?_, fun j hj => ?_⟩
  · rw [List.getElem?_set_ne (by omega)]; exact x.oth j hj hjn
  · by_cases c : j = m
    · subst c
      rw [List.getElem?_set_self (by omega), List.getElem?_set_self hm]
    · rw [List.getElem?_set_ne (by omega), List.getElem?_set_ne (Ne.symm c)]
      exact x.obs j (by simpa using hj)
theorem Ex.cut {n : Nat} {h hh : Hs} {obs : List Ob} (x : Ex n h hh obs) : Fr n h (hh.take h.length) := by
  have hl := x.len
  refine ⟨by rw [List.length_take]; omega, fun j hj => ?_⟩
  by_cases c : j < h.length
  · rw [List.getElem?_take_of_lt c]; exact x.oth j c hj
  · rw [List.getElem?_eq_none (by rw [List.length_take]; omega), List.getElem?_eq_none (by omega)]
theorem PenAt.push {n B : Nat} {hh : Hs} {o : Ob} (p : PenAt hh n B) : PenAt (hh ++ [o]) n B := by
  have := p.lt
  obtain ⟨a, b, c, e, r⟩ := p
  exact ⟨a, b, c, by rw [List.getElem?_append_left this]; exact e, r⟩
theorem PenAt.setO {n m B : Nat} {hh : Hs} {o : Ob} (p : PenAt hh n B) (hm : m ≠ n) : PenAt (hh.set m o) n B := by
  obtain ⟨a, b, c, e, r⟩ := p
  exact ⟨a, b, c, by rw [List.getElem?_set_ne hm]; exact e, r⟩
theorem PenAt.cut {n m B : Nat} {hh : Hs} (p : PenAt hh n B) (hm : n < m) : PenAt (hh.take m) n B := by
  obtain ⟨a, b, c, e, r⟩ := p
  exact ⟨a, b, c, by rw [List.getElem?_take_of_lt hm]; exact e, r⟩
/-! the dict of doors -/
def keyP (x : Dr) : Int × Int := (x.a, x.l)
def kvD (x : Dr) : List L2.Key × PV := ([.inl x.a, .inl x.l], .d (.tuple [.int x.b, bD x.bx]))
def putD (D : List Dr) (x : Dr) : List Dr := if (D.any fun y => decide (keyP y = keyP x)) = true then D.map (fun y => if keyP y = keyP x then x else y) else D ++ [x]
theorem kv_eq {x y : Dr} : ((kvD y).1 = (kvD x).1) ↔ keyP y = keyP x := by
  simp [kvD, keyP]
theorem putP_D (D : List Dr) (x : Dr) : putP (D.map kvD) (kvD x).1 (kvD x).2 = (putD D x).map kvD := by
  unfold putP putD
  have e : ((D.map kvD).any fun kv => decide (kv.1 = (kvD x).1)) = D.any fun y => decide (keyP y = keyP x) := by
    rw [List.any_map]
    congr 1
    funext y
    exact decide_eq_decide.mpr kv_eq
  rw [e]
  by_cases c : (D.any fun y => decide (keyP y = keyP x)) = true
  · rw [if_pos c, if_pos c, List.map_map, List.map_map]
    refine List.map_congr_left fun y _ => ?_
    show (if (kvD y).1 = (kvD x).1 then ((kvD y).1, (kvD x).2) else kvD y) = kvD (if keyP y = keyP x then x else y)
    by_cases d : keyP y = keyP x
    · rw [if_pos d, if_pos (kv_eq.mpr d), kv_eq.mpr d]
    · rw [if_neg d, if_neg (fun z => d (kv_eq.mp z))]
  · rw [if_neg c, if_neg c, List.map_append]
    rfl
theorem putD_keys (D : List Dr) (x : Dr) (h : (D.map keyP).Nodup) : ((putD D x).map keyP).Nodup := by
  unfold putD
  by_cases c : (D.any fun y => decide (keyP y = keyP x)) = true
  · rw [if_pos c, List.map_map]
    have e : D.map (keyP ∘ fun y => if keyP y = keyP x then x else y) = D.map keyP := by
      refine List.map_congr_left fun y _ => ?_
      show keyP (if keyP y = keyP x then x else y) = keyP y
      by_cases d : keyP y = keyP x
      · rw [if_pos d, d]
      · rw [if_neg d]
    rw [e]; exact h
  · rw [if_neg c, List.map_append, List.nodup_append]
    refine ⟨h, by simp, ?_⟩
    intro a ha b hb e
    simp at hb
    subst hb
    subst e
    obtain ⟨y, hy, e⟩ := List.mem_map.mp ha
    refine c (List.any_eq_true.mpr ⟨y, hy, ?_⟩)
    simpa using e
theorem putD_len (D : List Dr) (x : Dr) : (putD D x).length ≤ D.length + 1 := by
  unfold putD
  split <;> simp
theorem putD_all {D : List Dr} {x : Dr} {G : Dr → Prop} (hx : G x) (hD : ∀ y ∈ D, G y) : ∀ y ∈ putD D x, G y := by
  unfold putD
  split
  · intro y hy
    obtain ⟨z, hz, rfl⟩ := List.mem_map.mp hy
    split
    · exact hx
    · exact hD z hz
  · intro y hy
    rcases List.mem_append.mp hy with hy | hy
    · exact hD y hy
    · rw [List.mem_singleton.mp hy]; exact hx
theorem valP_D : ∀ {D : List Dr} {x : Dr}, (D.map keyP).Nodup → x ∈ D → valP (D.map kvD) (kvD x).1 = some (kvD x).2
  | y :: D, x, hn, hx => by
    unfold valP
    rw [List.map_cons, List.find?_cons]
    rw [List.map_cons, List.nodup_cons] at hn
    by_cases c : keyP y = keyP x
    · have e : y = x := by
        rcases List.mem_cons.mp hx with e | hx
        · exact e.symm
        · exact absurd (c ▸ List.mem_map_of_mem (f := keyP) hx) hn.1
      subst e
      simp
    · have hx : x ∈ D := by
        rcases List.mem_cons.mp hx with e | hx
        · subst e; exact absurd rfl c
        · exact hx
      rw [decide_eq_false (fun z => c (kv_eq.mp z))]
      exact valP_D hn.2 hx
def drLe (x y : Dr) : Bool := decide (x.a < y.a ∨ (x.a = y.a ∧ x.l ≤ y.l))
def srtR (D : List Dr) : List Dr := D.mergeSort drLe
theorem srt_D (D : List Dr) : srtD (D.map pairI) = (srtR D).map pairI := by
  rw [srtD_eq]
  unfold srtR
  refine (List.map_mergeSort (f := pairI) fun x _ y _ => ?_).symm
  have e := congrFun (congrFun (PySem.W.dataLe_ii (fun x : Dr => x.a) (fun x : Dr => x.l)) x) y
  exact e.symm
theorem ltOk_ii (a b c d : Int) : ltOk (.tuple [.int a, .int b]) (.tuple [.int c, .int d]) = true := by
  have : min (PyData.depth (.tuple [.int a, .int b])) (PyData.depth (.tuple [.int c, .int d])) ≤ deep := Nat.le_trans (Nat.min_le_left _ _) (by simp [PyData.depth, PyData.depthAll]; decide)
  simp [ltOk, PySem.W.alike, PySem.W.alikeAll, this]
theorem rises_pw {α : Type} {f : α → PyData} : ∀ {xs : List α}, List.Pairwise (fun x y => ltOk (f x) (f y) = true ∧ PySem.W.dataLt (f x) (f y) = true) xs → RisesD (xs.map f)
  | [], _ => trivial
  | [_], _ => trivial
  | x :: y :: r, h => ⟨(List.pairwise_cons.mp h).1 y (List.mem_cons_self), rises_pw (List.pairwise_cons.mp h).2⟩
theorem rises_D {D : List Dr} (h : (D.map keyP).Nodup) : RisesD ((srtR D).map pairI) := by
  refine rises_pw ?_
  have h1 : List.Pairwise (fun x y => drLe x y = true) (srtR D) := List.pairwise_mergeSort (fun x y z a b => by simp [drLe] at *; omega) (fun x y => by simp [drLe]; omega) D
  have h2 : ((srtR D).map keyP).Nodup := ((List.mergeSort_perm D drLe).map keyP).nodup_iff.mpr h
  have h2 : List.Pairwise (fun x y => keyP x ≠ keyP y) (srtR D) := List.pairwise_map.mp h2
  refine (h1.and h2).imp fun {x y} p => ⟨ltOk_ii _ _ _ _, ?_⟩
  rw [show pairI x = .tuple [.int x.a, .int x.l] from rfl, show pairI y = .tuple [.int y.a, .int y.l] from rfl, PySem.W.dataLt_ii]
  obtain ⟨p, q⟩ := p
  simp [drLe] at p
  simp [keyP] at q
  simp
  omega
theorem rises_int {xs : List Int} (h : List.Pairwise (· < ·) xs) : RisesD (xs.map .int) := by
  refine rises_pw (h.imp fun {x y} p => ⟨ltOk_int, ?_⟩)
  rw [lt_int']
  exact decide_eq_true p
theorem rises_fst {xs : List (Int × Int × Int)} (h : List.Pairwise (fun x y => x.1 < y.1) xs) : RisesD (xs.map fun s => .int s.1) := by
  refine rises_pw (h.imp fun {x y} p => ⟨ltOk_int, ?_⟩)
  rw [lt_int']
  exact decide_eq_true p
theorem rngI_pw : ∀ (k : Nat) (lo : Int), List.Pairwise (· < ·) (rngI lo k)
  | 0, _ => List.Pairwise.nil
  | k + 1, lo => List.pairwise_cons.mpr ⟨fun y hy => by have := rngI_mem hy; omega, rngI_pw k (lo + 1)⟩
section
variable {Q : PV → Hs → Prop} {Qu : Unit → Hs → Prop} {h : Hs} {n k : Nat}
theorem bi_tupR {ds : List PyData} (e : h[n]? = some (.lst (ds.map PV.d))) : Sat (biop .tuple1 [.ref n] h) Q ↔ ds.length ≤ line ∧ Q (PV.d (.tuple ds)) h := by
  have e1 : getL h (.ref n) = some (ds.map PV.d) := by
    show (match h[n]? with
      | some (.lst xs) => some xs
      | _ => none) = _
    rw [e]
  have e2 : biop .tuple1 [.ref n] h = biop .tuple1 [.d (.list ds)] h := by
    show (match (getL h (.ref n)).bind datas with
      | some ds => if ds.length ≤ line then R.ok (PV.d (.tuple ds)) h else .bad
      | none => .bad) = _
    rw [e1]
    rfl
  rw [e2]
  exact bi_tupL
theorem app_ref {xs : List PV} {x : PyData} (e : h[n]? = some (.lst xs)) (hl : xs.length < line) : Sat (appv k (.ref n) (PV.d x) h) Q ↔ Q (.d .none) (h.set n (.lst (xs ++ [PV.d x]))) := by
  have e1 : appv k (.ref n) (PV.d x) h = .ok (PV.d .none) (h.set n (.lst (xs ++ [PV.d x]))) := by
    show (match h[n]? with
      | some (.lst xs) => if storeOk k n (PV.d x) = true ∧ xs.length < line then R.ok (PV.d .none) (h.set n (.lst (xs ++ [PV.d x]))) else .bad
      | _ => .bad) = _
    rw [e]
    exact if_pos ⟨rfl, hl⟩
  rw [e1, sat_ok]
theorem lstAt_ref {xs : List PV} (e : h[n]? = some (.lst xs)) : lstAt h (.ref n) = true := by
  show (match h[n]? with
    | some (.lst _) => true
    | _ => false) = true
  rw [e]
theorem put_ref {D : List Dr} {x : Dr} (e : h[n]? = some (.dT (D.map kvD))) (hl : D.length < line) : Sat (setv k (.ref n) (PV.d (pairI x)) (PV.d (.tuple [.int x.b, bD x.bx])) h) Qu ↔ Qu () (h.set n (.dT ((putD D x).map kvD))) := by
  have e1 : setv k (.ref n) (PV.d (pairI x)) (PV.d (.tuple [.int x.b, bD x.bx])) h = .ok () (h.set n (.dT ((putD D x).map kvD))) := by
    unfold setv
    dsimp only
    rw [e]
    dsimp only
    have : dputO (.dT (D.map kvD)) (pairI x) (PV.d (.tuple [.int x.b, bD x.bx])) = some (.dT ((putD D x).map kvD)) := by
      show (if (D.map kvD).length < line then _ else none) = _
      rw [if_pos (by rw [List.length_map]; exact hl), ← putP_D]
      rfl
    rw [this]
    rfl
  rw [e1, sat_ok]
theorem get_ref {D : List Dr} {x : Dr} (e : h[n]? = some (.dT (D.map kvD))) (hn : (D.map keyP).Nodup) (hx : x ∈ D) : Sat (ixv (.ref n) (PV.d (pairI x)) h) Q ↔ Q (PV.d (.tuple [.int x.b, bD x.bx])) h := by
  have e1 : dgetv h (.ref n) (pairI x) = some (some (PV.d (.tuple [.int x.b, bD x.bx]))) := by
    show (match h[n]? with
      | some o => dgetO o (pairI x)
      | none => none) = _
    rw [e]
    show (some (valP (D.map kvD) (kvD x).1)) = _
    rw [valP_D hn hx]
    rfl
  have e2 : ixv (.ref n) (PV.d (pairI x)) h = .ok (PV.d (.tuple [.int x.b, bD x.bx])) h := by
    show (match dgetv h (.ref n) (pairI x) with
      | some o => R.of o h
      | none => ixv1 (.ref n) (PV.d (pairI x)) h) = _
    rw [e1]
    rfl
  rw [e2, sat_ok]
theorem srt_ref {D : List Dr} (e : h[n]? = some (.dT (D.map kvD))) (hl : D.length ≤ line) : Sat (biop (.srt1 false) [.ref n] h) Q ↔ Q (PV.d (.list ((srtR D).map pairI))) h := by
  have e1 : (keysAll h (.ref n)).bind datas = some (D.map pairI) := by
    show (match h[n]? with
      | some (.dT kvs) => some (kvs.map fun (kv : List L2.Key × PV) => PV.d (.tuple (kv.1.map keyD)))
      | some (.dTl kvs) => some (kvs.map fun (kv : List L2.Key × PV) => PV.d (.tuple (kv.1.map keyD)))
      | some (.dK kvs) => some (kvs.map fun (kv : L2.Key × PV) => PV.d (keyD kv.1))
      | some (.dN kvs) => some (kvs.map fun (kv : NestedKey × PV) => PV.d kv.1.data)
      | some (.dNl kvs) => some (kvs.map fun (kv : NestedKey × PV) => PV.d kv.1.data)
      | _ => getL h (.ref n)).bind datas = _
    rw [e]
    show datas ((D.map kvD).map fun (kv : List L2.Key × PV) => PV.d (.tuple (kv.1.map keyD))) = _
    rw [List.map_map, ← datas_map', List.map_map]
    rfl
  have ok : srtOk (D.map pairI) = true := by
    unfold srtOk sortable
    simp only [Bool.and_eq_true, Bool.or_eq_true, List.all_map, List.all_eq_true, Function.comp, decide_eq_true_eq, List.length_map]
    refine ⟨fun x _ y _ => rfl, .inl fun x _ => rfl, hl, fun x _ => ?_⟩
    show PyData.depth (.tuple [.int x.a, .int x.l]) ≤ deep
    simp [PyData.depth, PyData.depthAll]
    decide
  have e2 : biop (.srt1 false) [.ref n] h = .ok (PV.d (.list ((srtR D).map pairI))) h := by
    show (match (keysAll h (.ref n)).bind datas with
      | some ds => if srtOk ds = true then mkL false ((srtD ds).map PV.d) h else .bad
      | none => .bad) = _
    rw [e1]
    dsimp only
    rw [if_pos ok, srt_D]
    show R.of ((datas (((srtR D).map pairI).map PV.d)).map fun ds => PV.d (.list ds)) h = _
    rw [datas_map']
    rfl
  rw [e2, sat_ok]
end
end Hf
end

section
set_option Elab.async false
set_option linter.all false
set_option maxRecDepth 100000
/-! the order of keys behind a row -/
namespace Hf
open PySem Iw
def PLe : List Int → List Int → Prop
  | [], [] => True
  | x :: xs, y :: ys => x ≤ y ∧ PLe xs ys
  | _, _ => False
theorem PLe.len : ∀ {k k' : List Int}, PLe k k' → k.length = k'.length
  | [], [], _ => rfl
  | _ :: _, _ :: _, h => congrArg (· + 1) (PLe.len h.2)
theorem PLe.step {H : Ho} {e : De} : ∀ {k k' : List Int} {j : Nat}, PLe k k' → PLe (H.step e j k) (H.step e j k')
  | [], [], _, _ => trivial
  | x :: xs, y :: ys, j, h => by
    refine ⟨?_, PLe.step h.2⟩
    have := h.1
    split <;> split <;> omega
theorem bar_mid {H : Ho} {a : Int} {e : De} : ∀ {k k' k'' : List Int} {j : Nat}, PLe k k' → PLe k' k'' → H.bar a e j k = none → H.bar a e j k'' = none → H.bar a e j k' = none
  | [], [], [], _, _, _, _, _ => rfl
  | x :: xs, y :: ys, z :: zs, j, h1, h2, b1, b2 => by
    have c1 := h1.1
    have c2 := h2.1
    unfold Ho.bar at b1 b2 ⊢
    by_cases d1 : x < (H.gap a e j).1
    · rw [if_pos d1] at b1; cases b1
    · by_cases d2 : (H.gap a e j).2 < z
      · rw [if_neg (by omega), if_pos d2] at b2; cases b2
      · rw [if_neg d1, if_neg (by omega)] at b1
        rw [if_neg (by omega), if_neg d2] at b2
        rw [if_neg (by omega), if_neg (by omega)]
        exact bar_mid h1.2 h2.2 b1 b2
theorem bar_low {H : Ho} {a : Int} {e : De} : ∀ {k k' : List Int} {j m : Nat} {b : Bool}, PLe k k' → H.bar a e j k = some (b, m) → H.bar a e j k' = none → b = false
  | [], [], _, _, _, _, b1, _ => nomatch b1
  | x :: xs, y :: ys, j, m, b, h, b1, b2 => by
    have c1 := h.1
    unfold Ho.bar at b1 b2
    by_cases d1 : x < (H.gap a e j).1
    · rw [if_pos d1] at b1; injection b1 with b1; injection b1 with b1; exact b1.symm
    · by_cases d2 : (H.gap a e j).2 < y
      · rw [if_neg (by omega), if_pos d2] at b2; cases b2
      · rw [if_neg d1, if_neg (by omega)] at b1
        rw [if_neg (by omega), if_neg d2] at b2
        exact bar_low h.2 b1 b2
theorem bar_high {H : Ho} {a : Int} {e : De} : ∀ {k k' : List Int} {j m : Nat} {b : Bool}, PLe k k' → H.bar a e j k = none → H.bar a e j k' = some (b, m) → b = true
  | [], [], _, _, _, _, _, b2 => nomatch b2
  | x :: xs, y :: ys, j, m, b, h, b1, b2 => by
    have c1 := h.1
    unfold Ho.bar at b1 b2
    by_cases d1 : x < (H.gap a e j).1
    · rw [if_pos d1] at b1; cases b1
    · by_cases d2 : (H.gap a e j).2 < y
      · rw [if_neg (by omega), if_pos d2] at b2; injection b2 with b2; injection b2 with b2; exact b2.symm
      · rw [if_neg d1, if_neg (by omega)] at b1
        rw [if_neg (by omega), if_neg d2] at b2
        exact bar_high h.2 b1 b2
theorem bars_mid {H : Ho} : ∀ {r : List De} {a : Int} {k k' k'' : List Int} {i : Nat}, PLe k k' → PLe k' k'' → H.bars a k i r = none → H.bars a k'' i r = none → H.bars a k' i r = none
  | [], _, _, _, _, _, _, _, _, _ => rfl
  | e :: r, a, k, k', k'', i, h1, h2, b1, b2 => by
    unfold Ho.bars at b1 b2 ⊢
    cases c1 : H.bar a e 0 k with
    | some p => rw [c1] at b1; cases b1
    | none =>
      cases c2 : H.bar a e 0 k'' with
      | some p => rw [c2] at b2; cases b2
      | none =>
        rw [c1] at b1
        rw [c2] at b2
        rw [bar_mid h1 h2 c1 c2]
        exact bars_mid h1.step h2.step b1 b2
theorem bars_low {H : Ho} : ∀ {r : List De} {a : Int} {k k' : List Int} {i m j : Nat} {b : Bool}, PLe k k' → H.bars a k i r = some (m, b, j) → H.bars a k' i r = none → b = false
  | [], _, _, _, _, _, _, _, _, b1, _ => nomatch b1
  | e :: r, a, k, k', i, m, j, b, h, b1, b2 => by
    unfold Ho.bars at b1 b2
    cases c2 : H.bar a e 0 k' with
    | some p => rw [c2] at b2; cases b2
    | none =>
      rw [c2] at b2
      cases c1 : H.bar a e 0 k with
      | some p =>
        obtain ⟨b', j'⟩ := p
        rw [c1] at b1
        injection b1 with b1
        injection b1 with _ b1
        injection b1 with b1 _
        rw [← b1]
        exact bar_low h c1 c2
      | none =>
        rw [c1] at b1
        exact bars_low h.step b1 b2
theorem bars_high {H : Ho} : ∀ {r : List De} {a : Int} {k k' : List Int} {i m j : Nat} {b : Bool}, PLe k k' → H.bars a k i r = none → H.bars a k' i r = some (m, b, j) → b = true
  | [], _, _, _, _, _, _, _, _, _, b2 => nomatch b2
  | e :: r, a, k, k', i, m, j, b, h, b1, b2 => by
    unfold Ho.bars at b1 b2
    cases c1 : H.bar a e 0 k with
    | some p => rw [c1] at b1; cases b1
    | none =>
      rw [c1] at b1
      cases c2 : H.bar a e 0 k' with
      | some p =>
        obtain ⟨b', j'⟩ := p
        rw [c2] at b2
        injection b2 with b2
        injection b2 with _ b2
        injection b2 with b2 _
        rw [← b2]
        exact bar_high h c1 c2
      | none =>
        rw [c2] at b2
        exact bars_high h.step b1 b2
theorem ends_le {H : Ho} : ∀ {r : List De} {a : Int} {k k' : List Int}, PLe k k' → PLe (H.ends a k r).2 (H.ends a k' r).2
  | [], _, _, _, h => h
  | e :: r, a, k, k', h => ends_le (r := r) h.step
theorem ends_len {H : Ho} : ∀ {r : List De} {a : Int} {k : List Int}, (H.ends a k r).2.length = k.length
  | [], _, _ => rfl
  | e :: r, a, k => (ends_len (r := r)).trans (step_len H e k 0)
/-- the same, but that at place j the first may be one more -/
def Near : Nat → List Int → List Int → Prop
  | 0, x :: xs, y :: ys => (x = y ∨ x = y + 1) ∧ xs = ys
  | j + 1, x :: xs, y :: ys => x = y ∧ Near j xs ys
  | _, _, _ => False
theorem Near.step {H : Ho} {e : De} : ∀ {j : Nat} {k k' : List Int} {m : Nat}, Near j k k' → Near j (H.step e m k) (H.step e m k')
  | 0, x :: xs, y :: ys, m, h => by
    obtain ⟨h, rfl⟩ := h
    refine ⟨?_, rfl⟩
    split <;> split <;> omega
  | j + 1, x :: xs, y :: ys, m, h => by
    obtain ⟨rfl, h⟩ := h
    exact ⟨rfl, Near.step h⟩
theorem ends_near {H : Ho} {j : Nat} : ∀ {r : List De} {a : Int} {k k' : List Int}, Near j k k' → Near j (H.ends a k r).2 (H.ends a k' r).2
  | [], _, _, _, h => h
  | e :: r, a, k, k', h => ends_near (r := r) h.step
theorem Near.rest : ∀ {j : Nat} {k k' : List Int}, Near j k k' → k.take j = k'.take j ∧ k.drop (j + 1) = k'.drop (j + 1) ∧ ∃ x y, k[j]? = some x ∧ k'[j]? = some y ∧ (x = y ∨ x = y + 1)
  | 0, x :: xs, y :: ys, h => ⟨rfl, h.2, x, y, rfl, rfl, h.1⟩
  | j + 1, x :: xs, y :: ys, h => by
    obtain ⟨rfl, h⟩ := h
    obtain ⟨h1, h2, u, v, e1, e2, h3⟩ := h.rest
    exact ⟨by rw [List.take_succ_cons, List.take_succ_cons, h1], h2, u, v, e1, e2, h3⟩
theorem near_down : ∀ {j : Nat} {k : List Int} {x : Int}, k[j]? = some x → Near j k (k.take j ++ [x - 1] ++ k.drop (j + 1))
  | 0, y :: ys, x, e => by
    injection e with e
    subst e
    exact ⟨.inr (by omega), rfl⟩
  | j + 1, y :: ys, x, e => ⟨rfl, near_down (j := j) e⟩
theorem mins_le : ∀ (a b : List Int), a.length = b.length → PLe ((a.zip b).map fun p => if p.2 < p.1 then p.2 else p.1) ((a.zip b).map fun p => if p.2 > p.1 then p.2 else p.1)
  | [], _, _ => trivial
  | x :: xs, [], h => nomatch h
  | x :: xs, y :: ys, h => by
    refine ⟨?_, mins_le xs ys (by simpa using h)⟩
    show (if y < x then y else x) ≤ (if y > x then y else x)
    split <;> split <;> omega
end Hf
end

section
set_option Elab.async false
set_option linter.all false
set_option maxRecDepth 100000
/-! pairs of keys, slices, cells -/
namespace Hf
open PySem Iw
theorem pairs_ints : ∀ xs ys : List Int, pairs (xs.map .int) (ys.map .int) = (xs.zip ys).map fun p => PV.d (.tuple [.int p.1, .int p.2])
  | [], _ => rfl
  | _ :: _, [] => rfl
  | x :: xs, y :: ys => congrArg (PV.d (.tuple [.int x, .int y]) :: ·) (pairs_ints xs ys)
theorem PLe.mem : ∀ {xs ys : List Int} {p : Int × Int}, PLe xs ys → p ∈ xs.zip ys → p.1 ≤ p.2 ∧ p.1 ∈ xs ∧ p.2 ∈ ys
  | x :: xs, y :: ys, p, h, hp => by
    rw [List.zip_cons_cons] at hp
    rcases List.mem_cons.mp hp with rfl | hp
    · exact ⟨h.1, List.mem_cons_self, List.mem_cons_self⟩
    · obtain ⟨h1, h2, h3⟩ := PLe.mem h.2 hp
      exact ⟨h1, List.mem_cons_of_mem _ h2, List.mem_cons_of_mem _ h3⟩
theorem PLe.low {c : Int} : ∀ {k k' : List Int}, PLe k k' → (∀ x ∈ k, c ≤ x) → ∀ x ∈ k', c ≤ x
  | [], [], _, _, z, hz => absurd hz (by simp)
  | x :: xs, y :: ys, h, a, z, hz => by
    rcases List.mem_cons.mp hz with rfl | hz
    · have := a x (List.mem_cons_self); have := h.1; omega
    · exact PLe.low h.2 (fun w hw => a w (List.mem_cons_of_mem _ hw)) z hz
theorem PLe.high {c : Int} : ∀ {k k' : List Int}, PLe k k' → (∀ x ∈ k', x ≤ c) → ∀ x ∈ k, x ≤ c
  | [], [], _, _, z, hz => absurd hz (by simp)
  | x :: xs, y :: ys, h, a, z, hz => by
    rcases List.mem_cons.mp hz with rfl | hz
    · have := a y (List.mem_cons_self); have := h.1; omega
    · exact PLe.high h.2 (fun w hw => a w (List.mem_cons_of_mem _ hw)) z hz
theorem KeyOk.mid {t : Int} {k k' k'' : List Int} (h1 : KeyOk t k) (h2 : KeyOk t k'') (a : PLe k k') (b : PLe k' k'') : KeyOk t k' :=
  ⟨by rw [← a.len]; exact h1.1, fun x hx => ⟨a.low (fun y hy => (h1.2 y hy).1) x hx, b.high (fun y hy => (h2.2 y hy).2) x hx⟩⟩
theorem KeyOk.short {t : Int} {k : List Int} (h : KeyOk t k) (ht : 1 ≤ t ∧ t ≤ 3) : k.length ≤ 3 := by have := h.1; omega
theorem cut_take {α : Type} {xs : List α} {j : Nat} (h : j ≤ xs.length) : cut xs none (some (j : Int)) = xs.take j := by
  unfold cut HT.sIx
  simp
  rw [if_neg (by omega)]
  omega
theorem cut_drop {α : Type} {xs : List α} {j : Nat} (h : j ≤ xs.length) : cut xs (some (j : Int)) none = xs.drop j := by
  unfold cut HT.sIx
  simp
  rw [if_neg (by omega), Nat.min_eq_left h]
  rw [List.take_of_length_le (by rw [List.length_drop]; omega)]
theorem eqvR : ∀ xs : List Int, PyData.eqvAll (xs.map .int) (xs.map .int) = true
  | [] => rfl
  | x :: xs => by rw [List.map_cons, PyData.eqvAll, eqvR xs]; simp [PyData.eqv]
theorem depth_ints : ∀ xs : List Int, PyData.depthAll (xs.map .int) = 0
  | [] => rfl
  | x :: xs => by rw [List.map_cons, PyData.depthAll, depth_ints xs]; rfl
section
variable {Q : PV → Hs → Prop} {h : Hs}
theorem ne_key {xs ys : List Int} (e : xs = ys) : cmpop .ne (.d (.tuple (xs.map .int))) (.d (.tuple (ys.map .int))) h = some false := by
  subst e
  have ok : eqOk (.tuple (xs.map .int)) (.tuple (xs.map .int)) = true := by
    show (PyData.plainAll (xs.map .int) && (PyData.plainAll (xs.map .int) && decide (min (PyData.depthAll (xs.map .int) + 1) (PyData.depthAll (xs.map .int) + 1) ≤ deep))) = true
    rw [plain_ints, depth_ints]
    decide
  rw [cmp_d (by decide)]
  show (if eqOk (.tuple (xs.map .int)) (.tuple (xs.map .int)) = true then some (!PyData.eqv (.tuple (xs.map .int)) (.tuple (xs.map .int))) else none) = _
  rw [if_pos ok, PyData.eqv, eqvR xs]
  rfl
theorem eq_nil : cmpop .eq (.d (.list [])) (.d (.list [])) h = some true := by
  rw [cmp_d (by decide)]
  rfl
end
theorem all2_pen : ∀ {low high : List Int} {os : List (Option PV)}, low.length = high.length → All2 (fun x o => ∃ u v g : Int, x = PV.d (.tuple [.int u, .int v]) ∧ u ≤ g ∧ g ≤ v ∧ o = some (PV.d (.int g))) ((low.zip high).map fun p => PV.d (.tuple [.int p.1, .int p.2])) os → ∃ ms : List Int, os.filterMap id = (ms.map PyData.int).map PV.d ∧ PLe low ms ∧ PLe ms high
  | [], [], os, _, a => by cases a; exact ⟨[], rfl, trivial, trivial⟩
  | x :: xs, y :: ys, os, e, a => by
    rw [List.zip_cons_cons, List.map_cons] at a
    cases a with
    | cons c a =>
      obtain ⟨u, v, g, e1, g1, g2, rfl⟩ := c
      obtain ⟨ms, h1, h2, h3⟩ := all2_pen (by simpa using e) a
      injection e1 with e1
      injection e1 with e1
      injection e1 with e1 e2
      injection e1 with e1
      injection e2 with e2
      injection e2 with e2
      subst e1
      subst e2
      exact ⟨g :: ms, by simpa using h1, ⟨g1, h2⟩, ⟨g2, h3⟩⟩
section
variable {P : Pg} (D : LkD P) {Q : PV → Hs → Prop} {h : Hs} {n i : Nat}
include D
theorem cell_at_S {ns : List Int} {k : Nat} (q : ∀ c : Int, Q (.d (.int c)) h) : Sat (callN P (i + 1) "_law_cell_at" [.scr ns, .d (.int k)] h) Q := by
  rw [call0 D.law_cell_at rfl]
  by_cases c : k < ns.length
  · simp [fD_law_cell_at, c]
    exact ⟨_, atI_nat (List.getElem?_eq_getElem c), by simpa using q _⟩
  · simp [fD_law_cell_at, c]
    exact q 0
end
end Hf
end

section
set_option Elab.async false
set_option linter.all false
set_option maxRecDepth 100000
/-! rows that may be away; tables of heights -/
namespace Iw
open PySem L2
section
variable {Qf : Fl × Sg → Hs → Prop}
/-- a loop over a list that is the picture of another, which may hand back: I by the items that are left -/
theorem forF_ret {β : Type} {g : β → PV} {t : Tg} {F : Sg → Hs → R (Fl × Sg)} (I : List β → Sg → Hs → Prop) (step : ∀ y ys σ h, I (y :: ys) σ h → ∃ σ1, asg t (g y) σ = some σ1 ∧ Sat (F σ1 h) fun p h2 => (p.1 = .nx ∧ I ys p.2 h2) ∨ (∃ v, p.1 = .rt v ∧ Qf p h2)) :
    ∀ (ys : List β) (σ : Sg) (h : Hs), I ys σ h → (∀ σ' h', I [] σ' h' → Qf (.nx, σ') h') → Sat (forF t F (ys.map g) σ h) Qf
  | [], σ, h, i, q => forF_nil.mpr (q σ h i)
  | y :: ys, σ, h, i, q => by
    obtain ⟨σ1, e, s⟩ := step y ys σ h i
    refine forF_cons.mpr ⟨σ1, e, s.mono fun p h2 hp => ?_⟩
    obtain ⟨f, σ'⟩ := p
    rcases hp with ⟨hp, i2⟩ | ⟨v, hp, i2⟩
    · have hp : f = _ := hp
      subst hp
      exact forF_ret I step ys _ h2 i2 q
    · have hp : f = _ := hp
      subst hp
      exact i2
end
end Iw
namespace Hf
open PySem Iw
/-- the first deed of a row that is away -/
def Ho.aw (H : Ho) : Int → Nat → List De → Option Nat
  | _, _, [] => none
  | a, i, e :: r => if H.away a e = true then some i else Ho.aw H (H.to a e) (i + 1) r
theorem aw_laid {H : Ho} : ∀ {r : List De} {a : Int} {i : Nat}, Laid H a r → H.aw a i r = none
  | [], _, _, _ => rfl
  | e :: r, a, i, l => by
    unfold Ho.aw
    rw [l.2.1]
    exact aw_laid l.2.2
theorem laid_aw {H : Ho} : ∀ {r : List De} {a : Int} {i : Nat}, (∀ e ∈ r, DeOk H e) → H.aw a i r = none → Laid H a r
  | [], _, _, _, _ => trivial
  | e :: r, a, i, k, l => by
    unfold Ho.aw at l
    by_cases c : H.away a e = true
    · rw [if_pos c] at l; cases l
    · rw [if_neg c] at l
      exact ⟨k e (List.mem_cons_self), by simpa using c, laid_aw (fun d hd => k d (List.mem_cons_of_mem _ hd)) l⟩
def enumI : Nat → List De → List (Nat × De)
  | _, [] => []
  | i, e :: r => (i, e) :: enumI (i + 1) r
theorem enumI_eq : ∀ (r : List De) (i : Nat), enums i (r.map De.d) = (enumI i r).map fun p => PV.d (.tuple [.int p.1, p.2.d])
  | [], _ => rfl
  | e :: r, i => congrArg (PV.d (.tuple [.int i, e.d]) :: ·) (enumI_eq r (i + 1))
def natV : Option Nat → PV
  | none => .d .none
  | some i => .d (.int i)
theorem toR_in {H : Ho} (ok : HoOk H) : ∀ {r : List De} {a : Int}, 0 ≤ a → a < H.n → 0 ≤ H.toR a r ∧ H.toR a r < H.n
  | [], _, h1, h2 => ⟨h1, h2⟩
  | e :: r, a, h1, h2 => by
    have := to_in (e := e) ok h1 h2
    exact toR_in ok (r := r) this.1 this.2
section
variable {P : Pg} (L : Lk P) {Q : PV → Hs → Prop} {h : Hs} {n i : Nat}
include L
theorem need_hall_S {H : Ho} {a : Int} (ok : HoOk H) (h1 : 0 ≤ a) (h2 : a < H.n) (q : Q (.d .none) h) : Sat (callN P (n + 10) "need_hall" [.d H.d, .d (.int a)] h) Q := by
  rw [call0 L.need_hall rfl]
  simp [f_need_hall]
  refine need_house_S L ok ?_
  refine is_hall_S (n := n + 6) L h1 h2 ?_
  simpa using q
theorem away_at_S {H : Ho} {a : Int} {row : List De} (q : Q (natV (H.aw a 0 row)) h) : Sat (callN P (n + 3) "away_at" [.d H.d, .d (.int a), .d (rwD row)] h) Q := by
  rw [call0 L.away_at rfl]
  simp [f_away_at, rwD, enumI_eq]
  refine forF_ret (fun ys σ h' => ∃ (a' : Int) (i : Nat) (r : List De) (u v : Option PV), ys = enumI i r ∧ σ = [some (.d H.d), some (.d (.int a')), some (.d (.tuple (row.map De.d))), u, v] ∧ h' = h ∧ H.aw a' i r = H.aw a 0 row) ?_ _ _ _ ?_ ?_
  · rintro y ys σ h' ⟨a', i, r, u, v, e, rfl, rfl, ea⟩
    cases r with
    | nil => cases e
    | cons d r =>
      injection e with e1 e2
      subst e1
      refine ⟨_, by simp [asg]; rfl, ?_⟩
      simp
      refine is_away_S (n := n) L ?_
      have ea : (if H.away a' d = true then some i else H.aw (H.to a' d) (i + 1) r) = H.aw a 0 row := ea
      by_cases c : H.away a' d = true
      · rw [if_pos c] at ea
        rw [← ea] at q
        simp [c]
        simpa [natV] using q
      · rw [if_neg c] at ea
        have c : H.away a' d = false := by simpa using c
        simp [c]
        refine hall_behind_S (n := n) L c ?_
        simp [asg]
        exact ⟨_, _, r, e2, rfl, ea⟩
  · exact ⟨a, 0, row, _, _, rfl, rfl, rfl, rfl⟩
  · rintro σ h' ⟨a', i, r, u, v, e, rfl, rfl, ea⟩
    cases r with
    | cons d r => cases e
    | nil =>
      rw [← ea] at q
      simpa [natV, Ho.aw] using q
theorem first_away_S {H : Ho} {a : Int} {row : List De} (ok : HoOk H) (h1 : 0 ≤ a) (h2 : a < H.n) (hr : ∀ e ∈ row, DeOk H e) (hl : row.length ≤ line) (q : Q (natV (H.aw a 0 row)) h) : Sat (callN P (n + 11) "first_away" [.d H.d, .d (.int a), .d (rwD row)] h) Q := by
  rw [call0 L.first_away rfl]
  simp [f_first_away]
  refine need_hall_S L ok h1 h2 ?_
  refine need_row_S (n := n + 6) L hr hl ?_
  refine away_at_S (n := n + 7) L ?_
  cases e : H.aw a 0 row with
  | none => rw [e] at q; simpa [natV] using q
  | some p => rw [e] at q; simpa [natV] using q
theorem need_laid_S {H : Ho} {a : Int} {row : List De} (ok : HoOk H) (h1 : 0 ≤ a) (h2 : a < H.n) (hr : Laid H a row) (hl : row.length ≤ line) (q : Q (.d .none) h) : Sat (callN P (n + 12) "need_laid" [.d H.d, .d (.int a), .d (rwD row)] h) Q := by
  rw [call0 L.need_laid rfl]
  simp [f_need_laid]
  refine first_away_S L ok h1 h2 hr.ok hl ?_
  rw [aw_laid hr]
  simp [natV, isNonV]
  simpa using q
end
end Hf
end

section
set_option Elab.async false
set_option linter.all false
set_option maxRecDepth 1000000
set_option maxHeartbeats 0
namespace Hd
open PySem Iw Hf
def gr (p : Int) : PyData := .tuple [.int 1, .int 3, .tuple [.tuple [.int 1]], .tuple [.tuple [.int 0, .int 0, .int 0, .tuple [.tuple [.int 1, .int 6]]], .tuple [.int 1, .int 0, .int 1, .tuple [.tuple [.int 2, .int 6]]], .tuple [.int 2, .int 0, .int 2, .tuple [.tuple [.int 0, .int 6]]]], .tuple [.int 2], .tuple [.tuple [.int 2, .int 5, .int p]]]
theorem g_0 (p : Int) : callN Q 100 "_law_ground" [.d (.int p)] [] = .ok (.d (gr p)) [] := by kernel_rfl
theorem a1 : callN Q 100 "_law_again_right" [.d (gr 1)] [] = .ok (bool true) [] := by kernel_rfl
theorem a2 : callN Q 100 "_law_again_right" [.d (gr 2)] [] = .ok (bool true) [] := by kernel_rfl
theorem a3 : callN Q 100 "_law_again_right" [.d (gr 3)] [] = .ok (bool true) [] := by kernel_rfl
theorem a4 : callN Q 100 "_law_again_right" [.d (gr 4)] [] = .ok (bool true) [] := by kernel_rfl
theorem a5 : callN Q 100 "_law_again_right" [.d (gr 5)] [] = .ok (bool true) [] := by kernel_rfl
theorem a6 : callN Q 100 "_law_again_right" [.d (gr 6)] [] = .ok (bool true) [] := by kernel_rfl
theorem a7 : callN Q 100 "_law_again_right" [.d (gr 7)] [] = .ok (bool true) [] := by kernel_rfl
theorem a8 : callN Q 100 "_law_again_right" [.d (gr 8)] [] = .ok (bool true) [] := by kernel_rfl
theorem a9 : callN Q 100 "_law_again_right" [.d (gr 9)] [] = .ok (bool true) [] := by kernel_rfl
theorem b1 : callN Q 100 "_law_halls_right" [.d (gr 1)] [] = .ok (bool true) [] := by kernel_rfl
theorem b2 : callN Q 100 "_law_halls_right" [.d (gr 2)] [] = .ok (bool true) [] := by kernel_rfl
theorem b3 : callN Q 100 "_law_halls_right" [.d (gr 3)] [] = .ok (bool true) [] := by kernel_rfl
theorem b4 : callN Q 100 "_law_halls_right" [.d (gr 4)] [] = .ok (bool true) [] := by kernel_rfl
theorem b5 : callN Q 100 "_law_halls_right" [.d (gr 5)] [] = .ok (bool true) [] := by kernel_rfl
theorem b6 : callN Q 100 "_law_halls_right" [.d (gr 6)] [] = .ok (bool true) [] := by kernel_rfl
theorem b7 : callN Q 100 "_law_halls_right" [.d (gr 7)] [] = .ok (bool true) [] := by kernel_rfl
theorem b8 : callN Q 100 "_law_halls_right" [.d (gr 8)] [] = .ok (bool true) [] := by kernel_rfl
theorem b9 : callN Q 100 "_law_halls_right" [.d (gr 9)] [] = .ok (bool true) [] := by kernel_rfl
theorem all {d : Int} (h0 : 1 ≤ d) (h7 : d ≤ 9) : callN Q 100 "_law_again_right" [.d (gr d)] [] = .ok (bool true) [] ∧ callN Q 100 "_law_halls_right" [.d (gr d)] [] = .ok (bool true) [] := by
  have hd : d = 1 ∨ d = 2 ∨ d = 3 ∨ d = 4 ∨ d = 5 ∨ d = 6 ∨ d = 7 ∨ d = 8 ∨ d = 9 := by omega
  rcases hd with rfl | rfl | rfl | rfl | rfl | rfl | rfl | rfl | rfl
  · exact ⟨a1, b1⟩
  · exact ⟨a2, b2⟩
  · exact ⟨a3, b3⟩
  · exact ⟨a4, b4⟩
  · exact ⟨a5, b5⟩
  · exact ⟨a6, b6⟩
  · exact ⟨a7, b7⟩
  · exact ⟨a8, b8⟩
  · exact ⟨a9, b9⟩
theorem law_runs : ∀ ns : List Int, ns.length ≤ 63 → callN Q 101 "law" [.scr ns] [] = .ok (bool true) [] := by
  intro ns hn
  have tl : line = 16777216 := rfl
  refine Sat.eq ?_
  rw [call0 (P := Q) (f := "law") (s := f_law) rfl rfl]
  simp [f_law]
  refine ⟨by omega, ?_⟩
  rw [rngL_eq]
  refine forF_ret (fun ys σ hh => (∃ x1 x2 : Option PV, σ = [some (.scr ns), x1, x2]) ∧ ∀ y ∈ ys, ∃ k : Nat, y = (k : Int)) ?_ _ _ _ ?_ ?_
  · rintro x ys σ hh ⟨⟨x1, x2, rfl⟩, all0⟩
    obtain ⟨k, rfl⟩ := all0 x (List.mem_cons_self)
    have all0 := fun y hy => all0 y (List.mem_cons_of_mem _ hy)
    refine ⟨_, by simp [asg]; rfl, ?_⟩
    simp
    refine cell_at_S (i := 99) lkD ?_
    intro c
    refine pen_S (i := 99) lkD ?_
    intro pa pb pa0 pb0 pb1
    have p0 : PenAt (hh ++ [penL pa pb 0]) hh.length 1 := ⟨pa, pb, 0, by simp, pa0, pb0, pb1, by omega, by omega⟩
    refine draw_S (i := 99) lkD (m := 9) (B := 0) p0 (by omega) (by omega) ?_
    intro d h1 d1 d2 f1 p2
    obtain ⟨e1, e2⟩ := all (d := 1 + d) (by omega) (by omega)
    simp [asg, g_0, e1, e2]
    exact all0
  · refine ⟨⟨none, none, rfl⟩, ?_⟩
    intro y hy
    have := (rngI_mem hy).1
    exact ⟨y.toNat, by omega⟩
  · rintro σ' h' ⟨⟨x1, x2, rfl⟩, _⟩
    simp
end Hd
end

section
set_option Elab.async false
set_option linter.all false
set_option maxRecDepth 100000
set_option maxHeartbeats 0
open PySem PySem.W PySem.Calls PyProof.Rows
theorem PySem.Challenge.cw_wearkeys_k24_plays_and_halls_by_names_holds : PySem.Challenge.rw_wearkeys_k24_plays_and_halls_by_names.Holds := by
  w_on; o_law
  refine HandSHeadRun.head_any (r := OpenLaw.row PySem.Challenge.rw_wearkeys_k24_plays_and_halls_by_names) (q := view (OpenLaw.row PySem.Challenge.rw_wearkeys_k24_plays_and_halls_by_names).prog [104]) (H := Hd.hk) (ob := Hd.ob) (M := 40000) (loose := Hd.names) (d := HandSHeadRun.topDef (OpenLaw.row PySem.Challenge.rw_wearkeys_k24_plays_and_halls_by_names).prog 104) (kwd := []) Hd.ob_eq
    (by kernel_rfl) (fun s => by kernel_rfl) Hd.run (by kernel_rfl) (by kernel_rfl) (by kernel_rfl) (by rfl) (by first | assumption | decide +kernel) (by decide +kernel) ⟨rfl, rfl, rfl, rfl, rfl, by decide +kernel⟩ ?hw ?hc
  case hw => w_witness2
  case hc =>
    refine Iw.walk_G (l := PySem.Challenge.rw_wearkeys_k24_plays_and_halls_by_names) (n := 63) (k := 101) (x := "_law_script") rfl (by decide) (by kernel_rfl) ⟨rfl, by decide, by decide⟩ ?F
    intro w mg fa h Y G hmg0
    obtain ⟨K, KX, c⟩ := Y
    have hmg : mg ("law" : PySem.Str) = some (.ref fa) := by
      have e : (HandSHeadRun.topDef (OpenLaw.row PySem.Challenge.rw_wearkeys_k24_plays_and_halls_by_names).prog 104).name = ("law" : PySem.Str) := by kernel_rfl
      rw [← e]
      exact hmg0
    obtain ⟨fd, sp, hb, hsp, hF⟩ := Iw.law_of (l := PySem.Challenge.rw_wearkeys_k24_plays_and_halls_by_names) (w := w) (n := 100) (rl := Hd.recs[73]'(by decide +kernel)) KX G c Hd.chkQ Hd.chk Hd.chkN Hd.chkR Hd.chkL (List.getElem_mem _) (by kernel_rfl) (by kernel_rfl) hmg Hd.law_runs
    exact ⟨K, fd, sp, KX, hb, hsp, hF⟩
end
