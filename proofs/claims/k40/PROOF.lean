import PyProof.Rows.All
import Wide.All
import OpenK.AllK
import Wide.FinOn
import HandS.ForMost
import HandS.Wide
import HandS.IsInst
import HandS.TupAny
import HandS.Rev
import HandS.Deep
import HandS.SortRule
import HandS.SortInts
import HandS.WordsDict
import HandS.More
import HandS.DictComp
import KE.KDictPairs
import HandS.SetFor
import HandS.Strs
import HandS.Words
import HandS.Ends
import HandS.RevTup
import HandS.Conv
import HandS.RevRange
import HandS.Style
import HandS.Evl
import KE.KBits
import KE.OsArith
import HandS.Text
import PyProof.P3Eq
import PyProof.ReprLen
import HandS.HeadHook3
import PySem.Challenge.RW_backrun_k40_circuits_run_and_join
set_option Elab.async false
set_option linter.all false
set_option maxRecDepth 100000
set_option maxHeartbeats 4000000
/-! Mini-Python over plain data: syntax, meaning. -/
namespace MP
open PySem L2

abbrev D := PyData
/-- a value: data that never changes, a changing object by its number, the script (a list that is only walked), a tuple of flat things that the module wrote -/
inductive W where
  | dat (d : D)
  | obj (p : Nat)
  | scr (ds : List D)
  | cst (ds : List D)
  | cdi (kvs : List (Str × D))          -- a dict that the module wrote
  | fn (i : Nat) (x : Str)              -- def number i, by its name x
/-- an object: a list of data, a dict, a dict that is walked, gone (not to be used again) -/
inductive Ob where
  | lst (ds : List D)
  | dic (kvs : List (Key × W))
  | lck (kvs : List (Key × W))
  | ins (x : Str) (fs : List (Str × W))   -- an instance of the class x, its attributes
  | gone
abbrev Sto := List Ob
structure Exn where
  cls : Str
  arg : Option D
inductive Rs (α : Type) where
  | ok (a : α) (S : Sto)
  | ex (x : Exn) (S : Sto)
  | no
def Rs.bind {α β : Type} (r : Rs α) (f : α → Sto → Rs β) : Rs β := match r with
  | .ok a S => f a S
  | .ex x S => .ex x S
  | .no => .no
@[simp] theorem Rs.bind_ok {α β : Type} (a : α) (S : Sto) (f : α → Sto → Rs β) : (Rs.ok a S).bind f = f a S := rfl
@[simp] theorem Rs.bind_ex {α β : Type} (x : Exn) (S : Sto) (f : α → Sto → Rs β) : (Rs.ex x S : Rs α).bind f = .ex x S := rfl
@[simp] theorem Rs.bind_no {α β : Type} (f : α → Sto → Rs β) : (Rs.no : Rs α).bind f = .no := rfl
/-- of an option -/
def opt {α : Type} (o : Option α) (S : Sto) : Rs α := match o with
  | some a => .ok a S
  | none => .no
@[simp] theorem opt_some {α : Type} (a : α) (S : Sto) : opt (some a) S = .ok a S := rfl
@[simp] theorem opt_none {α : Type} (S : Sto) : opt (none : Option α) S = .no := rfl
def optD (o : Option D) (S : Sto) : Rs W := match o with
  | some d => .ok (.dat d) S
  | none => .no
@[simp] theorem optD_some (d : D) (S : Sto) : optD (some d) S = .ok (.dat d) S := rfl
@[simp] theorem optD_none (S : Sto) : optD none S = .no := rfl

inductive BO where
  | add | sub | mul | fdiv | mod | shl | shr | band | bor | bxor
  deriving DecidableEq
inductive CO where
  | eq | ne | lt | le | gt | ge | is | isn | isin | notin
  deriving DecidableEq
/-- built-ins called by name -/
inductive BI where
  | len | abs | min | max | int | list | tuple | sum | sorted | all | any | dict | repr
  deriving DecidableEq
inductive Ty5 where
  | int | bool | str | tuple | list
  deriving DecidableEq
inductive MT where
  | append | pop | popAt | count | index | extend
  deriving DecidableEq

/-- methods of dicts: d.get(k), d.get(k, x), d.pop(k), d.pop(k, x) -/
inductive DM where
  | get | pop
  deriving DecidableEq
/-- expressions, tests, argument lists, what is walked, targets: one type -/
inductive E where
  | int (i : Int) | bl (b : Bool) | non | str (s : Str)
  | var (k : Nat)
  | glb (g : Nat)
  | bin (op : BO) (a b : E)
  | neg (a : E)
  | cmp (op : CO) (a b : E)
  | and (a b : E) | or (a b : E) | not (a : E)
  | ifx (t a b : E)
  | one (e : E)                       -- the last part of an and, an or
  | chn (o1 o2 : CO) (a b c : E)      -- a < b < c
  | tup (es : E) | lst (m : Bool) (es : E)
  | idx (a b : E)
  | slc (a lo hi : E)
  | call (f : Nat) (es : E)
  | bi (b : BI) (m : Bool) (es : E)
  | isi (T : Ty5) (a : E)
  | mth (m : MT) (o es : E)
  | trev (a : E)
  | lrng (m : Bool) (a : E)           -- list(range(a))
  | comp (m : Bool) (vs : List Nat) (elt tg it tst : E)
  | dct (es : E)                      -- {k: v, ..}
  | dm1 (m : DM) (o a : E) | dm2 (m : DM) (o a b : E)
  | dcp (vs : List Nat) (kx vx tg it tst : E)
  | lck (k : Nat) (e : E)             -- nothing in the text: the dict at the name k is walked in e
  | cdx (g : Nat) (e : E)             -- D[e], D a dict of the module
  | cdi (b : Bool) (g : Nat) (e : E)  -- e in D (b), e not in D
  | fnv (i : Nat) (x : Str)           -- a def as a value
  | callv (k : Nat) (es : E)          -- a call of the def at a local name
  | fld (x : Str) (o : E) (f : Str)   -- o.f, o an instance of x
  | mcl (x m : Str) (i : Nat) (o es : E)  -- o.m(..), m of the class x is def number i
  | sset (a : E)                      -- sorted(set(a))
  | rpl (a b : E)                     -- a * b, a list that may change
  | ckw (f : Nat) (es e : E)          -- f(.., k = e), f number f, k its one keyword
  -- tests
  | tcdi (b : Bool) (g : Nat) (e : E)
  | tv (e : E) | tcmp (op : CO) (a b : E) | tchn (o1 o2 : CO) (a b c : E) | tand (a b : E) | tor (a b : E) | tnot (a : E)
  -- a part that is left out; argument lists
  | nil | cons (e es : E) | prs (k v es : E)
  -- what is walked
  | isq (e : E) | irg1 (a : E) | irg2 (a b : E) | irg3 (a b c : E) | irev (e : E) | idk (e : E) | irr2 (a b : E)
  -- targets
  | tnm (k : Nat) | tsub (o i : E) | ttup (ts : E) | tfld (x : Str) (o : E) (f : Str)

abbrev Loc := List (Option W)
abbrev Fun' := Nat → List W → Sto → Rs W

/-! ### what values are -/
def toInt : W → Option Int
  | .dat (.int i) => some i
  | _ => none
def toBl : W → Option Bool
  | .dat (.bool b) => some b
  | _ => none
/-! ### dicts -/
def keyD : D → Option Key
  | .int i => some (.inl i)
  | .str s => some (.inr s)
  | _ => none
def dKey : Key → D
  | .inl i => .int i
  | .inr s => .str s
def keyW : W → Option Key
  | .dat d => keyD d
  | _ => none
def valW (kvs : List (Key × W)) (k : Key) : Option W := (kvs.find? fun kv => decide (kv.1 = k)).map (·.2)
def putW (kvs : List (Key × W)) (k : Key) (v : W) : List (Key × W) :=
  if (kvs.any fun kv => decide (kv.1 = k)) = true then kvs.map (fun kv => if kv.1 = k then (kv.1, v) else kv) else kvs ++ [(k, v)]
def dropW (kvs : List (Key × W)) (k : Key) : List (Key × W) := kvs.filter fun kv => decide (kv.1 ≠ k)
def mergeW (kvs more : List (Key × W)) : List (Key × W) := more.foldl (fun acc kv => putW acc kv.1 kv.2) kvs
def obK : Option Ob → Option (List (Key × W))
  | some (.dic kvs) => some kvs
  | some (.lck kvs) => some kvs
  | _ => none
/-- a dict's pairs -/
def rdK (S : Sto) : W → Option (List (Key × W))
  | .obj p => obK S[p]?
  | _ => none
def valC (kvs : List (Str × D)) (k : Str) : Option D := (kvs.find? fun kv => decide (kv.1 = k)).map (·.2)
/-- pairs of a key and data -/
def pairsK : List D → Option (List (Key × W))
  | [] => some []
  | .tuple [x, y] :: r => match keyD x, pairsK r with
    | some k, some kvs => some ((k, .dat y) :: kvs)
    | _, _ => none
  | _ => none
/-- keys and values by turns -/
def pairsW : List W → Option (List (Key × W))
  | [] => some []
  | x :: y :: r => match keyW x, pairsW r with
    | some k, some kvs => some ((k, y) :: kvs)
    | _, _ => none
  | _ => none
/-- a list's items -/
def rdL (S : Sto) : W → Option (List D)
  | .dat (.list ds) => some ds
  | .obj p => match S[p]? with
    | some (.lst ds) => some ds
    | _ => none
  | _ => none
/-- a list's or a tuple's items -/
def rdS (S : Sto) : W → Option (List D)
  | .dat (.tuple ds) => some ds
  | w => rdL S w
/-- the data that a value is, as it stands -/
def obD : Option Ob → Option D
  | some (.lst ds) => some (.list ds)
  | _ => none
def rdD (S : Sto) : W → Option D
  | .dat d => some d
  | .obj p => obD S[p]?
  | .scr _ => none
  | .cst _ => none
  | .cdi _ => none
  | .fn _ _ => none
/-- .. the module's tuples as well -/
def rdC (S : Sto) : W → Option D
  | .cst ds => some (.tuple ds)
  | w => rdD S w
def dOf : W → Option D
  | .dat d => some d
  | _ => none
def dsOf : List W → Option (List D)
  | [] => some []
  | w :: ws => match dOf w, dsOf ws with
    | some d, some ds => some (d :: ds)
    | _, _ => none
@[simp] theorem dsOf_nil : dsOf [] = some [] := rfl
@[simp] theorem dsOf_cons (d : D) (ws : List W) : dsOf (.dat d :: ws) = (dsOf ws).map (d :: ·) := by
  show (match some d, dsOf ws with | some d, some ds => some (d :: ds) | _, _ => none) = _
  cases dsOf ws <;> rfl

/-! ### operators -/
def mulOk (i j : Int) : Prop := i.natAbs.log2 + j.natAbs.log2 < 1000000
def divOk (j : Int) : Prop := 0 < j ∧ j.natAbs.log2 < 9000
def shlOk (i j : Int) : Prop := 0 ≤ j ∧ j ≤ 1000000 ∧ i.natAbs < 2 ^ 64
def repOk (n : Nat) (k : Int) : Prop := -(2 ^ 63) ≤ k ∧ k < 2 ^ 63 ∧ n * k.toNat ≤ sizeLine
instance (i j : Int) : Decidable (mulOk i j) := by unfold mulOk; infer_instance
instance (j : Int) : Decidable (divOk j) := by unfold divOk; infer_instance
instance (i j : Int) : Decidable (shlOk i j) := by unfold shlOk; infer_instance
instance (n : Nat) (k : Int) : Decidable (repOk n k) := by unfold repOk; infer_instance
def binD (op : BO) (x y : D) : Option D := match op, x, y with
  | .add, .int i, .int j => some (.int (i + j))
  | .add, .tuple xs, .tuple ys => if xs.length + ys.length ≤ sizeLine then some (.tuple (xs ++ ys)) else none
  | .add, .list xs, .list ys => if xs.length + ys.length ≤ sizeLine then some (.list (xs ++ ys)) else none
  | .add, .str x, .str y => if x.length + y.length ≤ sizeLine then some (.str (x ++ y)) else none
  | .sub, .int i, .int j => some (.int (i - j))
  | .mul, .int i, .int j => if mulOk i j then some (.int (i * j)) else none
  | .mul, .list xs, .int k => if repOk xs.length k then some (.list (List.replicate k.toNat xs).flatten) else none
  | .fdiv, .int i, .int j => if divOk j then some (.int (i / j)) else none
  | .mod, .int i, .int j => if 0 < j then some (.int (i % j)) else none
  | .shl, .int i, .int j => if shlOk i j then some (.int (i * 2 ^ j.toNat)) else none
  | .shr, .int i, .int j => if 0 ≤ j then some (.int (i / 2 ^ j.toNat)) else none
  | .band, .int i, .int j => some (.int (Builtin.bitAnd i j))
  | .bor, .int i, .int j => some (.int (Builtin.bitOr i j))
  | .bxor, .int i, .int j => some (.int (Builtin.bitXor i j))
  | _, _, _ => none
/-- flat data: what == tells apart by itself -/
def flatD : D → Bool
  | .none | .bool _ | .int _ | .str _ => true
  | _ => false
/-- ==, where it is sure -/
def eqD (x y : D) : Option Bool := match x, y with
  | .int i, .int j => some (decide (i = j))
  | .str i, .str j => some (decide (i = j))
  | .bool i, .bool j => some (decide (i = j))
  | x, y => if SeqAt.shaped x = true ∧ SeqAt.shaped y = true then some (PyData.eqv x y) else none
def inD (x : D) (ys : List D) : Option Bool := if flatD x = true ∧ ys.all flatD = true then some (ys.any fun y => PyData.eqv y x) else none
def isNone : D → Bool
  | .none => true
  | _ => false
def cmpD (op : CO) (x y : D) : Option Bool := match op with
  | .eq => eqD x y
  | .ne => (eqD x y).map (!·)
  | .lt => match x, y with | .int i, .int j => some (decide (i < j)) | _, _ => none
  | .le => match x, y with | .int i, .int j => some (decide (i ≤ j)) | _, _ => none
  | .gt => match x, y with | .int i, .int j => some (decide (j < i)) | _, _ => none
  | .ge => match x, y with | .int i, .int j => some (decide (j ≤ i)) | _, _ => none
  | .is => match y with | .none => some (isNone x) | _ => none
  | .isn => match y with | .none => some (!isNone x) | _ => none
  | .isin => match y with | .list ys => inD x ys | .tuple ys => inD x ys | _ => none
  | .notin => match y with | .list ys => (inD x ys).map (!·) | .tuple ys => (inD x ys).map (!·) | _ => none
def truD : D → Option Bool
  | .none => some false
  | .bool b => some b
  | .int i => some (i != 0)
  | .str s => if s.length ≤ sizeLine then some (s.length != 0) else none
  | .list xs => some (!xs.isEmpty)
  | .tuple xs => some (!xs.isEmpty)
  | .dict _ => none
def idxD (x y : D) : Option D := match x, y with
  | .list xs, .int i => atI xs i
  | .tuple xs, .int i => atI xs i
  | .str z, .int i => if z.length ≤ sizeLine then (atI z.cps.toList i).map fun c => .str ⟨#[c]⟩ else none
  | _, _ => none
def cutD (xs : List D) (lo hi : Option Int) : List D := (xs.drop (HT.sIx xs.length 0 lo)).take (HT.sIx xs.length xs.length hi - HT.sIx xs.length 0 lo)
def slcD (x : D) (lo hi : Option Int) : Option D := match x with
  | .list xs => some (.list (cutD xs lo hi))
  | .tuple xs => some (.tuple (cutD xs lo hi))
  | _ => none
def intsD : List D → Option (List Int)
  | [] => some []
  | .int i :: r => (intsD r).map (i :: ·)
  | _ => none
def boolsD : List D → Option (List Bool)
  | [] => some []
  | .bool i :: r => (boolsD r).map (i :: ·)
  | _ => none
/-- the greatest of intsD -/
def maxI : List Int → Option Int
  | [] => none
  | [x] => some x
  | x :: r => (maxI r).map fun m => if x ≤ m then m else x
def insI (x : Int) : List Int → List Int
  | [] => [x]
  | y :: r => if x ≤ y then x :: y :: r else y :: insI x r
def sortI (xs : List Int) : List Int := xs.foldr insI []
def pairsD : List D → Option (List (Int × Int))
  | [] => some []
  | .tuple [.int i, .int j] :: r => (pairsD r).map ((i, j) :: ·)
  | _ => none
def leP (a b : Int × Int) : Bool := decide (a.1 < b.1) || (decide (a.1 = b.1) && decide (a.2 ≤ b.2))
def insP (x : Int × Int) : List (Int × Int) → List (Int × Int)
  | [] => [x]
  | y :: r => if leP x y then x :: y :: r else y :: insP x r
def sortP (xs : List (Int × Int)) : List (Int × Int) := xs.foldr insP []
def dPair (p : Int × Int) : D := .tuple [.int p.1, .int p.2]
/-- a built-in of data -/
def biD (b : BI) (xs : List D) : Option D := match b, xs with
  | .len, [.list ds] => some (.int ds.length)
  | .len, [.tuple ds] => some (.int ds.length)
  | .len, [.str s] => if s.length ≤ sizeLine then some (.int s.length) else none
  | .abs, [.int i] => some (.int (if i < 0 then -i else i))
  | .min, [.int i, .int j] => some (.int (if j < i then j else i))
  | .max, [.int i, .int j] => some (.int (if j > i then j else i))
  | .max, [.list ds] => match intsD ds with | some ns => (maxI ns).map .int | none => none
  | .int, [.int i] => some (.int i)
  | .int, [.bool b] => some (.int (if b then 1 else 0))
  | .list, [.list ds] => some (.list ds)
  | .list, [.tuple ds] => some (.list ds)
  | .tuple, [.list ds] => some (.tuple ds)
  | .tuple, [.tuple ds] => some (.tuple ds)
  | .sum, [.list ds] => (intsD ds).map fun ns => .int ns.sum
  | .all, [.list ds] => (boolsD ds).map fun ns => .bool (ns.all id)
  | .any, [.list ds] => (boolsD ds).map fun ns => .bool (ns.any id)
  | .sorted, [.list ds] => match intsD ds with
    | some ns => some (.list ((sortI ns).map .int))
    | none => match pairsD ds with
      | some ps => some (.list ((sortP ps).map dPair))
      | none => none
  | .sorted, [.tuple ds] => match pairsD ds with
    | some ps => some (.list ((sortP ps).map dPair))
    | none => none
  | _, _ => none
/-- isinstance of a built-in type -/
def isiD : Ty5 → D → Bool
  | .int, .int _ => true
  | .int, .bool _ => true
  | .bool, .bool _ => true
  | .str, .str _ => true
  | .tuple, .tuple _ => true
  | .list, .list _ => true
  | _, _ => false
/-- a new value that is to change, or data -/
def mk (m : Bool) (d : D) (S : Sto) : Rs W := if m then (match d with | .list ds => .ok (.obj S.length) (S ++ [.lst ds]) | _ => .no) else .ok (.dat d) S
def idxW0 (S : Sto) (a b : W) : Rs W := match rdC S a, b with
  | some x, .dat y => optD (idxD x y) S
  | _, _ => .no
def idxW (S : Sto) (a b : W) : Rs W := match rdK S a with
  | some kvs => match keyW b with
    | some k => opt (valW kvs k) S
    | none => .no
  | none => idxW0 S a b
def binW (S : Sto) (op : BO) (a b : W) : Rs W := match rdD S a, rdD S b with
  | some x, some y => optD (binD op x y) S
  | _, _ => .no
def cmpW0 (S : Sto) (op : CO) (a b : W) : Rs W := match rdC S a, rdC S b with
  | some x, some y => match cmpD op x y with | some c => .ok (.dat (.bool c)) S | none => .no
  | _, _ => .no
/-- k in d, k not in d (n) -/
def inW (S : Sto) (n : Bool) (a : W) (kvs : List (Key × W)) : Rs W := match keyW a with
  | some k => .ok (.dat (.bool (if n = true then !(valW kvs k).isSome else (valW kvs k).isSome))) S
  | none => .no
def cmpW (S : Sto) (op : CO) (a b : W) : Rs W := match op with
  | .isin => match rdK S b with | some kvs => inW S false a kvs | none => cmpW0 S .isin a b
  | .notin => match rdK S b with | some kvs => inW S true a kvs | none => cmpW0 S .notin a b
  | op => cmpW0 S op a b
def truW (S : Sto) (a : W) : Rs W := match rdC S a with
  | some x => match truD x with | some c => .ok (.dat (.bool c)) S | none => .no
  | none => .no
def rdDs (S : Sto) : List W → Option (List D)
  | [] => some []
  | w :: ws => match rdC S w, rdDs S ws with
    | some d, some ds => some (d :: ds)
    | _, _ => none
def biW0 (S : Sto) (b : BI) (m : Bool) (ws : List W) : Rs W := match rdDs S ws with
  | some ds => match biD b ds with | some d => mk m d S | none => .no
  | none => .no
/-- dict(pairs), dict(d): a new one -/
def dictP (S : Sto) (ds : List D) : Rs W := match pairsK ds with
  | some kvs => if ds.length ≤ sizeLine then .ok (.obj S.length) (S ++ [.dic (mergeW [] kvs)]) else .no
  | none => .no
def dictW (S : Sto) (w : W) : Rs W := match rdK S w with
  | some kvs => .ok (.obj S.length) (S ++ [.dic kvs])
  | none => match rdD S w with
    | some (.list ds) => dictP S ds
    | some (.tuple ds) => dictP S ds
    | _ => .no
/-- a list, a tuple -/
def seqD : D → Bool
  | .list _ => true
  | .tuple _ => true
  | _ => false
/-- repr of a list, a tuple -/
def shW (S : Sto) (w : W) : Rs W := match rdC S w with
  | some d => if seqD d = true ∧ d.layable0 = true ∧ d.showable = true ∧ d.shown.length ≤ sizeLine then .ok (.dat (.str d.shown)) S else .no
  | none => .no
/-- tuple(a tuple of the module's) is that very object -/
def biW (S : Sto) (b : BI) (m : Bool) (ws : List W) : Rs W := match b, ws with
  | .tuple, [.cst _] => .no
  | .len, [w] => match rdK S w with | some kvs => .ok (.dat (.int kvs.length)) S | none => biW0 S .len m [w]
  | .list, [w] => match rdK S w with | some kvs => mk m (.list (kvs.map fun kv => dKey kv.1)) S | none => biW0 S .list m [w]
  | .dict, [w] => dictW S w
  | .repr, [w] => shW S w
  | _, _ => biW0 S b m ws
/-- a dict's making, its methods -/
def dctW (p : Nat) (ws : List W) (S : Sto) : Rs W := match pairsW ws, S[p]? with
  | some kvs, some (.dic []) => if kvs.length ≤ 15 then .ok (.obj p) (S.set p (.dic (mergeW [] kvs))) else .no
  | _, _ => .no
def isdW (S : Sto) (x : W) : Rs Unit := match rdK S x with
  | some _ => .ok () S
  | none => .no
def dpop (S : Sto) (x : W) (k : Key) (z : Option W) : Rs W := match x with
  | .obj p => match S[p]? with
    | some (.dic kvs) => match valW kvs k with
      | some v => .ok v (S.set p (.dic (dropW kvs k)))
      | none => opt z S
    | _ => .no
  | _ => .no
def dgetW (S : Sto) (x y z : W) : Rs W := match rdK S x, keyW y with
  | some kvs, some k => .ok ((valW kvs k).getD z) S
  | _, _ => .no
def dpopW (S : Sto) (x y : W) (z : Option W) : Rs W := match keyW y with
  | some k => dpop S x k z
  | none => .no
def dm1W (S : Sto) (m : DM) (x y : W) : Rs W := match m with
  | .get => dgetW S x y (.dat .none)
  | .pop => dpopW S x y none
def dm2W (S : Sto) (m : DM) (x y z : W) : Rs W := match m with
  | .get => dgetW S x y z
  | .pop => dpopW S x y (some z)
/-- a dict is walked; no longer -/
def lckP (p : Nat) (S : Sto) : Rs Nat := match S[p]? with
  | some (.dic kvs) => .ok p (S.set p (.lck kvs))
  | _ => .no
def lckW (l : List (Option W)) (k : Nat) (S : Sto) : Rs Nat := match l[k]? with
  | some (some (.obj p)) => lckP p S
  | _ => .no
def unlW {α : Type} (p : Nat) (w : α) (S : Sto) : Rs α := match S[p]? with
  | some (.lck kvs) => .ok w (S.set p (.dic kvs))
  | _ => .no
def keysP (p : Nat) (S : Sto) : Rs (List D) := match S[p]? with
  | some (.lck kvs) => .ok (kvs.map fun kv => dKey kv.1) S
  | _ => .no
def keysW (w : W) (S : Sto) : Rs (List D) := match w with
  | .obj p => keysP p S
  | _ => .no
def dputW (p : Nat) (y z : W) (S : Sto) : Rs Unit := match keyW y, S[p]? with
  | some k, some (.dic kvs) => if kvs.length < sizeLine then .ok () (S.set p (.dic (putW kvs k z))) else .no
  | _, _ => .no
def ddelW (x y : W) (S : Sto) : Rs Unit := match keyW y, x with
  | some k, .obj p => match S[p]? with
    | some (.dic kvs) => if (valW kvs k).isSome = true then .ok () (S.set p (.dic (dropW kvs k))) else .no
    | _ => .no
  | _, _ => .no
def cdOf : Option W → Option (List (Str × D))
  | some (.cdi kvs) => some kvs
  | _ => none
def cdxW (kvs : List (Str × D)) (x : W) (S : Sto) : Rs W := match x with
  | .dat (.str s) => match valC kvs s with | some d => .ok (.dat d) S | none => .no
  | _ => .no
def cdiW (b : Bool) (kvs : List (Str × D)) (x : W) (S : Sto) : Rs W := match x with
  | .dat (.str s) => .ok (.dat (.bool (if b = true then (valC kvs s).isSome else !(valC kvs s).isSome))) S
  | _ => .no
def isiW (S : Sto) (T : Ty5) (w : W) : Rs W := match rdC S w with
  | some x => .ok (.dat (.bool (isiD T x))) S
  | none => .no
/-- the receiver of a list's method -/
def recvW (S : Sto) (x : W) : Rs W := match rdD S x with
  | some (.list _) => .ok x S
  | _ => .no
def mthW (S : Sto) (m : MT) (o : W) (ws : List W) : Rs W := match m, o, ws with
  | .append, .obj p, [.dat d] => match S[p]? with
    | some (.lst ds) => if ds.length < sizeLine then .ok (.dat .none) (S.set p (.lst (ds ++ [d]))) else .no
    | _ => .no
  | .pop, .obj p, [] => match S[p]? with
    | some (.lst ds) => match ds[ds.length - 1]? with
      | some d => .ok (.dat d) (S.set p (.lst ds.dropLast))
      | none => .no
    | _ => .no
  | .popAt, .obj p, [.dat (.int i)] => match S[p]? with
    | some (.lst ds) => if 0 ≤ i ∧ i < 2 ^ 62 then match ds[i.toNat]? with
      | some d => .ok (.dat d) (S.set p (.lst (ds.eraseIdx i.toNat)))
      | none => .no else .no
    | _ => .no
  | .extend, .obj p, [.dat (.list es)] => match S[p]? with
    | some (.lst ds) => if ds.length + es.length ≤ sizeLine then .ok (.dat .none) (S.set p (.lst (ds ++ es))) else .no
    | _ => .no
  | .count, .dat (.list ds), [.dat (.int k)] => match intsD ds with
    | some ns => .ok (.dat (.int (ns.count k : Nat))) S
    | none => .no
  | _, _, _ => .no
def slcW (S : Sto) (a : W) (lo hi : Option Int) : Rs W := match rdD S a with
  | some x => optD (slcD x lo hi) S
  | none => .no
/-- o[i] = v -/
def setW0 (S : Sto) (o i v : W) : Rs Unit := match o, i, v with
  | .obj p, .dat (.int k), .dat d => match S[p]? with
    | some (.lst ds) => match ixN ds.length k with
      | some j => .ok () (S.set p (.lst (ds.set j d)))
      | none => .no
    | _ => .no
  | _, _, _ => .no
def setW (S : Sto) (o i v : W) : Rs Unit := match rdK S o, o with
  | some _, .obj p => dputW p i v S
  | _, _ => setW0 S o i v
/-! ### instances -/
def fldL (x f : Str) (S : Sto) (o : Option Ob) : Rs W := match o with
  | some (.ins y fs) => if y = x then opt (fs.lookup f) S else .no
  | _ => .no
def fldW (x f : Str) (w : W) (S : Sto) : Rs W := match w with
  | .obj p => fldL x f S S[p]?
  | _ => .no
/-- an instance of x that has no attribute m of its own -/
def insL (x m : Str) (S : Sto) (o : Option Ob) : Rs Unit := match o with
  | some (.ins y fs) => if y = x ∧ fs.lookup m = none then .ok () S else .no
  | _ => .no
def insW (x m : Str) (w : W) (S : Sto) : Rs Unit := match w with
  | .obj p => insL x m S S[p]?
  | _ => .no
def putA (f : Str) (v : W) : List (Str × W) → List (Str × W)
  | [] => [(f, v)]
  | a :: r => if a.1 = f then (a.1, v) :: r else a :: putA f v r
def setL (x f : Str) (v : W) (S : Sto) (p : Nat) (o : Option Ob) : Rs Unit := match o with
  | some (.ins y fs) => if y = x ∧ fs.length < 1000 then .ok () (S.set p (.ins x (putA f v fs))) else .no
  | _ => .no
def setA (x f : Str) (w v : W) (S : Sto) : Rs Unit := match w with
  | .obj p => setL x f v S p S[p]?
  | _ => .no
def ifW {α : Type} (x : W) (A B : Rs α) : Rs α := match x with
  | .dat (.bool true) => A
  | .dat (.bool false) => B
  | _ => .no
def getV (l : Loc) (k : Nat) (S : Sto) : Rs W := match l[k]? with
  | some (some w) => .ok w S
  | _ => .no
def negW (x : W) (S : Sto) : Rs W := match x with | .dat (.int i) => .ok (.dat (.int (-i))) S | _ => .no
def notW (x : W) (S : Sto) : Rs W := match x with | .dat (.bool b) => .ok (.dat (.bool (!b))) S | _ => .no
def blW (x : W) (S : Sto) : Rs W := match x with | .dat (.bool b) => .ok (.dat (.bool b)) S | _ => .no
def tupW (ws : List W) (S : Sto) : Rs W := match dsOf ws with | some ds => if ds.length ≤ sizeLine then .ok (.dat (.tuple ds)) S else .no | none => .no
def lstW (m : Bool) (ws : List W) (S : Sto) : Rs W := match dsOf ws with | some ds => if ds.length ≤ sizeLine then mk m (.list ds) S else .no | none => .no
def revL (x : W) (S : Sto) : Rs W := match rdL S x with | some ds => .ok (.dat (.tuple ds.reverse)) S | none => .no
def revW (x : W) (S : Sto) : Rs W := match x with
  | .dat (.tuple ds) => .ok (.dat (.tuple ds.reverse)) S
  | x => revL x S
def partW (x : W) (S : Sto) : Rs (Option Int) := match x with | .dat (.int i) => .ok (some i) S | _ => .no
def boolW (x : W) (S : Sto) : Rs Bool := match x with | .dat (.bool b) => .ok b S | _ => .no
def datW (y : W) (S : Sto) : Rs (Option D) := match dOf y with | some y => .ok (some y) S | none => .no
def seqW (w : W) (S : Sto) : Rs (List D) := match w with
  | .dat (.list ds) => .ok ds S
  | .dat (.tuple ds) => .ok ds S
  | .scr ds => .ok ds S
  | .cst ds => .ok ds S
  | _ => .no
def smallI (i : Int) : Bool := decide (-(2 ^ 62) ≤ i) && decide (i < 2 ^ 62)
/-- lo, lo + c, .. (n of them) -/
def rng (lo c : Int) : Nat → List D
  | 0 => []
  | n + 1 => .int lo :: rng (lo + c) c n
def rng1W (x : W) (S : Sto) : Rs (List D) := match x with
  | .dat (.int j) => if smallI j = true then .ok (rng 0 1 j.toNat) S else .no
  | _ => .no
def rng2W (x y : W) (S : Sto) : Rs (List D) := match x, y with
  | .dat (.int i), .dat (.int j) => if smallI i = true ∧ smallI j = true then .ok (rng i 1 (j - i).toNat) S else .no
  | _, _ => .no
/-- a range downwards by ones -/
def rng3W (x y z : W) (S : Sto) : Rs (List D) := match x, y, z with
  | .dat (.int i), .dat (.int j), .dat (.int k) => if k = -1 ∧ smallI i = true ∧ smallI j = true then .ok (rng i (-1) (i - j).toNat) S else .no
  | _, _, _ => .no
/-- reversed(range(i, j)) -/
def rngRW (x y : W) (S : Sto) : Rs (List D) := match x, y with
  | .dat (.int i), .dat (.int j) => if smallI i = true ∧ smallI j = true then .ok (rng (i + (((j - i).toNat : Nat) : Int) - 1) (-1) (j - i).toNat) S else .no
  | _, _ => .no
def irevW (w : W) (S : Sto) : Rs (List D) := match w with
  | .dat (.list ds) => .ok ds.reverse S
  | .dat (.tuple ds) => .ok ds.reverse S
  | _ => .no
/-- a comprehension's turns: the items made so far -/
def forC (body : D → Sto → Rs (Option D)) : List D → List D → Sto → Rs (List D)
  | [], acc, S => .ok acc S
  | d :: ds, acc, S => (body d S).bind fun r S1 => match r with
    | some y => if acc.length < sizeLine then forC body ds (acc ++ [y]) S1 else .no
    | none => forC body ds acc S1
/-- a dict comprehension's turns -/
def forD (body : D → Sto → Rs Unit) : List D → Sto → Rs Unit
  | [], S => .ok () S
  | d :: ds, S => (body d S).bind fun _ S1 => forD body ds S1
/-- how many stand in a row -/
def elen : E → Nat
  | .cons _ es => elen es + 1
  | _ => 0
/-- the slots that a target of names stores -/
def tslots : E → List Nat
  | .tnm k => [k]
  | .ttup ts => tslots ts
  | .cons a b => tslots a ++ tslots b
  | _ => []
def wipeL (l : Loc) : List Nat → Loc
  | [] => l
  | v :: vs => (wipeL l vs).set v none

/-- where the names of the defs stand among the constants -/
def fnAt : Nat := 100000
def fnW (G : Nat → Option W) (w : W) (S : Sto) : Rs Nat := match w with
  | .fn i x => match G (fnAt + i) with
    | some (.dat (.str y)) => if x = y then .ok i S else .no
    | _ => .no
  | _ => .no
/-- sorted, each once -/
def insU (k : Int) : List Int → List Int
  | [] => [k]
  | x :: r => if k < x then k :: x :: r else if k = x then x :: r else x :: insU k r
def sortU : List Int → List Int
  | [] => []
  | k :: r => insU k (sortU r)
def ssetW (x : W) (S : Sto) : Rs W := match x with
  | .dat (.list ds) => match intsD ds with
    | some ns => if ns.length < 60 then .ok (.dat (.list ((sortU ns).map .int))) S else .no
    | none => .no
  | _ => .no
def rplW (S : Sto) (x y : W) : Rs W := match x, y with
  | .dat (.list xs), .dat (.int k) => if repOk xs.length k then mk true (.list (List.replicate k.toNat xs).flatten) S else .no
  | _, _ => .no
def lrngW (m : Bool) (x : W) (S : Sto) : Rs W := match x with
  | .dat (.int j) => if smallI j = true ∧ j ≤ 1000000 then mk m (.list (rng 0 1 j.toNat)) S else .no
  | _ => .no
section
variable (G : Nat → Option W) (F : Fun')
mutual
def ev : E → Loc → Sto → Rs W
  | .int i, _, S => .ok (.dat (.int i)) S
  | .bl b, _, S => .ok (.dat (.bool b)) S
  | .non, _, S => .ok (.dat .none) S
  | .str s, _, S => .ok (.dat (.str s)) S
  | .var k, l, S => getV l k S
  | .glb g, _, S => opt (G g) S
  | .bin op a b, l, S => (ev a l S).bind fun x S1 => (ev b l S1).bind fun y S2 => binW S2 op x y
  | .neg a, l, S => (ev a l S).bind fun x S1 => negW x S1
  | .cmp op a b, l, S => (ev a l S).bind fun x S1 => (ev b l S1).bind fun y S2 => cmpW S2 op x y
  | .and a b, l, S => (ev a l S).bind fun x S1 => ifW x (ev b l S1) (.ok (.dat (.bool false)) S1)
  | .or a b, l, S => (ev a l S).bind fun x S1 => ifW x (.ok (.dat (.bool true)) S1) (ev b l S1)
  | .not a, l, S => (ev a l S).bind fun x S1 => notW x S1
  | .ifx t a b, l, S => (ev t l S).bind fun x S1 => ifW x (ev a l S1) (ev b l S1)
  | .one a, l, S => ev a l S
  | .chn o1 o2 a b c, l, S => (ev a l S).bind fun x S1 => (ev b l S1).bind fun y S2 => (cmpW S2 o1 x y).bind fun z S3 => ifW z ((ev c l S3).bind fun u S4 => cmpW S4 o2 y u) (.ok (.dat (.bool false)) S3)
  | .tup es, l, S => (evs es l S).bind fun ws S1 => tupW ws S1
  | .lst m es, l, S => (evs es l S).bind fun ws S1 => lstW m ws S1
  | .idx a b, l, S => (ev a l S).bind fun x S1 => (ev b l S1).bind fun y S2 => idxW S2 x y
  | .slc a lo hi, l, S => (ev a l S).bind fun x S1 => (evo lo l S1).bind fun i S2 => (evo hi l S2).bind fun j S3 => slcW S3 x i j
  | .call f es, l, S => (evs es l S).bind fun ws S1 => F f ws S1
  | .bi b m es, l, S => (evs es l S).bind fun ws S1 => biW S1 b m ws
  | .isi T a, l, S => (ev a l S).bind fun x S1 => isiW S1 T x
  | .mth m o es, l, S => (ev o l S).bind fun x S1 => (recvW S1 x).bind fun x1 S2 => (evs es l S2).bind fun ws S3 => mthW S3 m x1 ws
  | .trev a, l, S => (ev a l S).bind fun x S1 => revW x S1
  | .lrng m a, l, S => (ev a l S).bind fun x S1 => lrngW m x S1
  | .comp m vs elt tg it tst, l, S => (evi it l S).bind fun ds S1 =>
      (forC (fun d S2 => (asg tg (.dat d) (wipeL l vs) S2).bind fun l2 S3 => (evt tst l2 S3).bind fun c S4 =>
        if c = true then (ev elt l2 S4).bind fun y S5 => datW y S5 else .ok none S4) ds [] S1).bind fun ys S2 => mk m (.list ys) S2
  | .dct es, l, S => (evs es l (S ++ [.dic []])).bind fun ws S1 => dctW S.length ws S1
  | .dm1 m o a, l, S => (ev o l S).bind fun x S1 => (isdW S1 x).bind fun _ S2 => (ev a l S2).bind fun y S3 => dm1W S3 m x y
  | .dm2 m o a b, l, S => (ev o l S).bind fun x S1 => (isdW S1 x).bind fun _ S2 => (ev a l S2).bind fun y S3 => (ev b l S3).bind fun z S4 => dm2W S4 m x y z
  | .dcp vs kx vx tg it tst, l, S => (evi it l S).bind fun ds S1 =>
      (forD (fun d S2 => (asg tg (.dat d) (wipeL l vs) S2).bind fun l2 S3 => (evt tst l2 S3).bind fun c S4 =>
        if c = true then (ev kx l2 S4).bind fun y S5 => (ev vx l2 S5).bind fun z S6 => dputW S1.length y z S6 else .ok () S4) ds (S1 ++ [.dic []])).bind fun _ S2 => .ok (.obj S1.length) S2
  | .lck k e, l, S => (lckW l k S).bind fun p S1 => (ev e l S1).bind fun w S2 => unlW p w S2
  | .cdx g e, l, S => (opt (cdOf (G g)) S).bind fun kvs S0 => (ev e l S0).bind fun x S1 => cdxW kvs x S1
  | .cdi b g e, l, S => (opt (cdOf (G g)) S).bind fun kvs S0 => (ev e l S0).bind fun x S1 => cdiW b kvs x S1
  | .fnv i x, _, S => .ok (.fn i x) S
  | .callv k es, l, S => (getV l k S).bind fun w S0 => (fnW G w S0).bind fun i S1 => (evs es l S1).bind fun ws S2 => F i ws S2
  | .fld x o f, l, S => (ev o l S).bind fun w S1 => fldW x f w S1
  | .mcl x m i o es, l, S => (ev o l S).bind fun w S1 => (insW x m w S1).bind fun _ S2 => (evs es l S2).bind fun ws S3 => F i (w :: ws) S3
  | .sset a, l, S => (ev a l S).bind fun x S1 => ssetW x S1
  | .rpl a b, l, S => (ev a l S).bind fun x S1 => (ev b l S1).bind fun y S2 => rplW S2 x y
  | .ckw f es e, l, S => (evs es l S).bind fun ws S1 => (ev e l S1).bind fun w S2 => F f (ws ++ [w]) S2
  | .tcdi b g e, l, S => ((opt (cdOf (G g)) S).bind fun kvs S0 => (ev e l S0).bind fun x S1 => cdiW b kvs x S1).bind fun x S1 => blW x S1
  | .tv e, l, S => (ev e l S).bind fun x S1 => truW S1 x
  | .tcmp op a b, l, S => ((ev a l S).bind fun x S1 => (ev b l S1).bind fun y S2 => cmpW S2 op x y).bind fun x S1 => blW x S1
  | .tchn o1 o2 a b c, l, S => ((ev a l S).bind fun x S1 => (ev b l S1).bind fun y S2 => (cmpW S2 o1 x y).bind fun z S3 => ifW z ((ev c l S3).bind fun u S4 => cmpW S4 o2 y u) (.ok (.dat (.bool false)) S3)).bind fun x S1 => blW x S1
  | .tand a b, l, S => (ev a l S).bind fun x S1 => ifW x (ev b l S1) (.ok (.dat (.bool false)) S1)
  | .tor a b, l, S => (ev a l S).bind fun x S1 => ifW x (.ok (.dat (.bool true)) S1) (ev b l S1)
  | .tnot a, l, S => (ev a l S).bind fun x S1 => notW x S1
  | _, _, _ => .no
/-- a part of a slice -/
def evo : E → Loc → Sto → Rs (Option Int)
  | .nil, _, S => .ok none S
  | .cons e _, l, S => (ev e l S).bind fun x S1 => partW x S1
  | _, _, _ => .no
/-- a comprehension's test -/
def evt : E → Loc → Sto → Rs Bool
  | .nil, _, S => .ok true S
  | .cons e _, l, S => (ev e l S).bind fun x S1 => boolW x S1
  | _, _, _ => .no
def evs : E → Loc → Sto → Rs (List W)
  | .nil, _, S => .ok [] S
  | .cons e es, l, S => (ev e l S).bind fun w S1 => (evs es l S1).bind fun ws S2 => .ok (w :: ws) S2
  | .prs k v es, l, S => (ev k l S).bind fun x S1 => (ev v l S1).bind fun y S2 => (evs es l S2).bind fun ws S3 => .ok (x :: y :: ws) S3
  | _, _, _ => .no
def evi : E → Loc → Sto → Rs (List D)
  | .isq e, l, S => (ev e l S).bind fun w S1 => seqW w S1
  | .irg1 a, l, S => (ev a l S).bind fun x S1 => rng1W x S1
  | .irg2 a b, l, S => (ev a l S).bind fun x S1 => (ev b l S1).bind fun y S2 => rng2W x y S2
  | .irg3 a b c, l, S => (ev a l S).bind fun x S1 => (ev b l S1).bind fun y S2 => (ev c l S2).bind fun z S3 => rng3W x y z S3
  | .irev e, l, S => (ev e l S).bind fun w S1 => irevW w S1
  | .irr2 a b, l, S => (ev a l S).bind fun x S1 => (ev b l S1).bind fun y S2 => rngRW x y S2
  | .idk e, l, S => (ev e l S).bind fun w S1 => keysW w S1
  | _, _, _ => .no
def asg : E → W → Loc → Sto → Rs Loc
  | .tnm k, w, l, S => .ok (l.set k (some w)) S
  | .tsub o i, w, l, S => (ev o l S).bind fun x S1 => (ev i l S1).bind fun y S2 => (setW S2 x y w).bind fun _ S3 => .ok l S3
  | .tfld x o f, w, l, S => (ev o l S).bind fun y S1 => (setA x f y w S1).bind fun _ S2 => .ok l S2
  | .ttup ts, w, l, S => match w with | .dat (.tuple ds) => if ds.length = elen ts then asgs ts ds l S else .no | _ => .no
  | _, _, _, _ => .no
def asgs : E → List D → Loc → Sto → Rs Loc
  | .nil, ds, l, S => match ds with | [] => .ok l S | _ => .no
  | .cons t ts, ds, l, S => match ds with | d :: ds => (asg t (.dat d) l S).bind fun l1 S1 => asgs ts ds l1 S1 | [] => .no
  | _, _, _, _ => .no
end
end

/-! ### statements -/
inductive Fl where
  | nx | ret (w : W) | brk | ct
inductive St' where
  | expr (e : E)
  | set (t e : E)
  | par (ks : List Nat) (es : E)      -- a, b = e1, e2 with plain local names
  | aug (k : Nat) (op : BO) (e : E)
  | cond (t : E) (a b : St')
  | whl (t : E) (b : St')
  | for (tg it : E) (b : St')
  | forF (k : Nat) (fs : List (Nat × Str)) (b : St')   -- for x in (f, g, ..), defs of the module
  | ret (e : E) | retN | brk | ct | pass
  | del (o i : E)
  | lckS (k : Nat) (s : St')          -- nothing in the text: the dict at the name k is walked in s
  | frz (k : Nat)                     -- nothing in the text: the list at the name k is not changed any more
  | kp (s : St')                      -- a body whose objects are kept when it ends
  | mkI (x : Str) (i : Nat)           -- no text: the class x called, its __init__ is def number i
  | nil | cons (s r : St')
def setPar (l : Loc) : List Nat → List W → Option Loc
  | [], [] => some l
  | k :: ks, w :: ws => setPar (l.set k (some w)) ks ws
  | _, _ => none
/-- behind a turn's body; behind a statement of a block -/
def loopR (next : Loc → Sto → Rs (Fl × Loc)) (r : Fl × Loc) (S : Sto) : Rs (Fl × Loc) := match r.1 with
  | .nx => next r.2 S
  | .ct => next r.2 S
  | .brk => .ok (.nx, r.2) S
  | .ret w => .ok (.ret w, r.2) S
def seqR (next : Loc → Sto → Rs (Fl × Loc)) (r : Fl × Loc) (S : Sto) : Rs (Fl × Loc) := match r.1 with
  | .nx => next r.2 S
  | .ct => .ok r S
  | .brk => .ok r S
  | .ret _ => .ok r S
def forL (body : D → Loc → Sto → Rs (Fl × Loc)) : List D → Loc → Sto → Rs (Fl × Loc)
  | [], l, S => .ok (.nx, l) S
  | d :: ds, l, S => (body d l S).bind (loopR (forL body ds))
def forFL (body : Loc → Sto → Rs (Fl × Loc)) (k : Nat) : List (Nat × Str) → Loc → Sto → Rs (Fl × Loc)
  | [], l, S => .ok (.nx, l) S
  | (i, x) :: fs, l, S => (body (l.set k (some (.fn i x))) S).bind (loopR (forFL body k fs))
/-- the display of the defs -/
def fnE : List (Nat × Str) → E
  | [] => .nil
  | (i, x) :: fs => .cons (.fnv i x) (fnE fs)
def whlL (t : Loc → Sto → Rs W) (body : Loc → Sto → Rs (Fl × Loc)) : Nat → Loc → Sto → Rs (Fl × Loc)
  | 0, _, _ => .no
  | n + 1, l, S => (t l S).bind fun x S1 => ifW x ((body l S1).bind (loopR (whlL t body n))) (.ok (.nx, l) S1)
def whlFuel : Nat := 1000000000000
def augW (S : Sto) (op : BO) (x y : W) : Rs W := match op, x, y with
  | .add, .dat (.int i), .dat (.int j) => .ok (.dat (.int (i + j))) S
  | .sub, .dat (.int i), .dat (.int j) => .ok (.dat (.int (i - j))) S
  | _, _, _ => .no
def frzW (l : Loc) (k : Nat) (S : Sto) (x : W) : Rs (Fl × Loc) := match x with
  | .obj p => match S[p]? with
    | some (.lst ds) => .ok (.nx, l.set k (some (.dat (.list ds)))) (S.set p .gone)
    | _ => .no
  | _ => .no
section
variable (G : Nat → Option W) (F : Fun')
def exM : St' → Loc → Sto → Rs (Fl × Loc)
  | .expr e, l, S => (ev G F e l S).bind fun _ S1 => .ok (.nx, l) S1
  | .set t e, l, S => (ev G F e l S).bind fun w S1 => (asg G F t w l S1).bind fun l1 S2 => .ok (.nx, l1) S2
  | .par ks es, l, S => (evs G F es l S).bind fun ws S1 => (opt (setPar l ks ws) S1).bind fun l1 S2 => .ok (.nx, l1) S2
  | .aug k op e, l, S => (getV l k S).bind fun x S0 => (ev G F e l S0).bind fun y S1 => (augW S1 op x y).bind fun z S2 => .ok (.nx, l.set k (some z)) S2
  | .cond t a b, l, S => (ev G F t l S).bind fun x S1 => ifW x (exM a l S1) (exM b l S1)
  | .whl t b, l, S => whlL (ev G F t) (exM b) whlFuel l S
  | .for tg it b, l, S => (evi G F it l S).bind fun ds S1 => forL (fun d l2 S2 => (asg G F tg (.dat d) l2 S2).bind fun l3 S3 => exM b l3 S3) ds l S1
  | .forF k fs b, l, S => forFL (exM b) k fs l S
  | .ret e, l, S => (ev G F e l S).bind fun w S1 => .ok (.ret w, l) S1
  | .retN, l, S => .ok (.ret (.dat .none), l) S
  | .brk, l, S => .ok (.brk, l) S
  | .ct, l, S => .ok (.ct, l) S
  | .pass, l, S => .ok (.nx, l) S
  | .del o i, l, S => (ev G F o l S).bind fun x S1 => (ev G F i l S1).bind fun y S2 => (ddelW x y S2).bind fun _ S3 => .ok (.nx, l) S3
  | .lckS k s, l, S => (lckW l k S).bind fun p S1 => (exM s l S1).bind fun r S2 => unlW p r S2
  | .frz k, l, S => (getV l k S).bind fun x S1 => frzW l k S1 x
  | .kp s, l, S => exM s l S
  | .mkI _ _, _, _ => .no
  | .nil, l, S => .ok (.nx, l) S
  | .cons s r, l, S => (exM s l S).bind (seqR (exM r))
end

/-! ### defs -/
structure Fn where
  np : Nat
  nn : Nat
  body : St'
/-- no object beyond n is meant -/
def below (n : Nat) : W → Bool
  | .obj p => decide (p < n)
  | _ => true
def obBelow (n : Nat) : Ob → Bool
  | .dic kvs => kvs.all fun kv => below n kv.2
  | .lck kvs => kvs.all fun kv => below n kv.2
  | .ins _ fs => fs.all fun kv => below n kv.2
  | _ => true
def keepN (n : Nat) : W → Nat
  | .obj p => max n (p + 1)
  | _ => n
/-- behind a call the def's own objects are let go, but for the one that is handed back -/
def leave (n : Nat) (w : W) (S : Sto) : Rs W :=
  if keepN n w ≤ S.length ∧ (S.take (keepN n w)).all (obBelow (keepN n w)) = true then .ok w (S.take (keepN n w)) else .no
def doneFn (n : Nat) (r : Rs (Fl × Loc)) : Rs W := match r with
  | .ok (.ret w, _) S => leave n w S
  | .ok (.nx, _) S => leave n (.dat .none) S
  | .ok _ _ => .no
  | .ex x S => if n ≤ S.length ∧ (S.take n).all (obBelow n) = true then .ex x (S.take n) else .no
  | .no => .no
def start' (ws : List W) (nn : Nat) : Loc := ws.map some ++ List.replicate (nn - ws.length) none
/-- nothing is let go -/
def keepFn (r : Rs (Fl × Loc)) : Rs W := match r with
  | .ok (.ret w, _) S => .ok w S
  | .ok (.nx, _) S => .ok (.dat .none) S
  | _ => .no
def newR (p : Nat) (r : Rs W) : Rs W := match r with
  | .ok (.dat .none) S => .ok (.obj p) S
  | _ => .no
/-- a class called: a new instance, then its __init__ -/
def newI (x : Str) (g : List W → Sto → Rs W) (ws : List W) (S : Sto) : Rs W := newR S.length (g (.obj S.length :: ws) (S ++ [.ins x []]))
def runB (G : Nat → Option W) (F : Fun') (ws : List W) (nn : Nat) (S : Sto) : St' → Rs W
  | .mkI x i => newI x (F i) ws S
  | .kp b => keepFn (exM G F b (start' ws nn) S)
  | b => doneFn S.length (exM G F b (start' ws nn) S)
def callM (G : Nat → Option W) (ft : Nat → Option Fn) : Nat → Fun'
  | 0, _, _, _ => .no
  | n + 1, f, ws, S => match ft f with
    | some fn => if ws.length = fn.np then runB G (callM G ft n) ws fn.nn S fn.body else .no
    | none => .no
/-- no such body -/
def plainB : St' → Bool
  | .mkI _ _ => false
  | .kp _ => false
  | _ => true
theorem runB_plain {G : Nat → Option W} {F : Fun'} {ws : List W} {nn : Nat} {S : Sto} {b : St'} (h : plainB b = true) : runB G F ws nn S b = doneFn S.length (exM G F b (start' ws nn) S) := by
  cases b <;> first | rfl | cases h
end MP
set_option Elab.async false
set_option linter.all false
set_option maxRecDepth 100000
set_option maxHeartbeats 4000000
/-! New tuples, of which more is known: the very object. -/
namespace MP
open PySem PySem.Spec PyProof.Rows L2
/-- a new tuple: it may be seen as a tuple, or as an object that stays, without attributes -/
def NewT (H : Hp) (Q : VK) (xs : List V) : Prop := ∀ (p : Addr) (o : Obj), H p = none → o.dict = none → Q (.ref p) (upd H p (.tup xs)) ∨ Q (.ref p) (upd H p (.frz o (.tup xs)))
section
variable {X : Cx} {pins : List (Addr × Obj)} {σ : L2.St} {H : Hp} {s : Shared} {Q : VK}
theorem lay_tup {xs : List V} {its : List Value} (I : Inv X pins σ H s) (hz : xs.length ≤ sizeLine) (r : Vals xs its) (q : NewT H Q xs) :
    EP X pins σ Q (.ref s.heap.objs.size) { s with heap := s.heap.push { cls := .type "tuple", data := .seq its.toArray } } := by
  have hn := I.hok.fresh (Nat.le_refl s.heap.objs.size)
  have ok : ∀ H', ObjOk X.prog X.w H' (s.heap.push { cls := .type "tuple", data := .seq its.toArray }) s.heap.objs.size (.tup xs) := fun _ => ⟨hz, its, r, IsTup.new _ _⟩
  rcases q s.heap.objs.size { cls := .type "tuple", data := .seq its.toArray } hn rfl with q | q
  · exact ⟨.ref s.heap.objs.size, _, I.laid (t' := s.toks) (fun _ _ e => Heap.get?_push_of_some _ e) (Nat.le_refl _) (ok _), rfl, q⟩
  · exact ⟨.ref s.heap.objs.size, _, I.laid (t' := s.toks) (o := .frz _ (.tup xs)) (fun _ _ e => Heap.get?_push_of_some _ e) (Nat.le_refl _) ⟨Heap.get?_push_size _ rfl, ok _⟩, rfl, q⟩
theorem pe_tupX {es : List Expr} {t : TA} {pos : Pos} {k : Nat} (h : PA X es t) : PE X (.Tuple es k pos) (fun σ H Q => t σ H fun xs H1 => xs.length ≤ sizeLine ∧ NewT H1 Q xs) :=
  ⟨fun pins s σ H Q I hq => wpAny_Tuple_spliced (thn (h.run pos pins s σ H _ I hq) fun _ _ ⟨_, _, I1, r, z, q⟩ => ⟨r.length ▸ z, lay_tup I1 z r q⟩)⟩
theorem call_tupleX : CallR X (.type "tuple") (fun xs H Q => ∃ p ys, xs = [.ref p] ∧ ((SqL X.K H p ys ∧ NewT H Q ys) ∨ (SqT X.K H p ys ∧ Q (.ref p) H))) := by
  intro pins s σ H xs us Q I r h
  obtain ⟨p, ys, rfl, ⟨hq, q⟩ | h⟩ := h
  · obtain ⟨u, rfl, ru⟩ := vals1 r
    obtain rfl : u = Value.ref p := ru
    obtain ⟨its, ri, pl, hz⟩ := I.list hq
    exact call_tuple_list pl.isList (fun h' kp => lay_tup (s := { s with heap := h' }) (I.kept (t' := s.toks) kp) hz ri q) (by have := ri.length; simp only [List.size_toArray]; omega)
  · exact call_tuple_of pins s σ H _ us Q I r ⟨p, ys, rfl, .inr h⟩
theorem op_catX : OpR X (binaryOp .Add) (fun x y H Q => ∃ a b xs ys, x = .ref a ∧ y = .ref b ∧ SqT X.K H a xs ∧ SqT X.K H b ys ∧ xs.length + ys.length ≤ sizeLine ∧
    (xs = [] → Q (.ref b) H) ∧ (xs ≠ [] → ys = [] → Q (.ref a) H) ∧ (xs ≠ [] → ys ≠ [] → NewT H Q (xs ++ ys))) := by
  intro pins s σ H x y v u Q I rx ry h
  obtain ⟨a, b, xs, ys, rfl, rfl, ha, hb, hz, q0, q1, q2⟩ := h
  by_cases hx : xs = []
  · exact op_catA pins s σ H _ _ v u Q I rx ry ⟨a, b, xs, ys, rfl, rfl, ha, hb, hz, q0, fun z => absurd hx z, fun z => absurd hx z⟩
  · by_cases hy : ys = []
    · exact op_catA pins s σ H _ _ v u Q I rx ry ⟨a, b, xs, ys, rfl, rfl, ha, hb, hz, q0, q1, fun _ z => absurd hy z⟩
    · obtain rfl : v = Value.ref a := rx
      obtain rfl : u = Value.ref b := ry
      obtain ⟨its, r1, p1, _⟩ := I.tuple ha
      obtain ⟨jts, r2, p2, _⟩ := I.tuple hb
      exact HT.cat_tup p1 p2 (fun z => hx (r1.nil_iff.mp z)) (fun z => absurd (r2.nil_iff.mp z) hy) (fun _ => lay_tup I (by rw [List.length_append]; exact hz) (r1.append r2) (q2 hx hy)) (r1.length ▸ r2.length ▸ hz)
theorem sl_tupX : SlR X (fun x lo hi H Q => ∃ a xs, x = .ref a ∧ SqT X.K H a xs ∧ (HT.sIx xs.length 0 lo = 0 ∧ HT.sIx xs.length xs.length hi = xs.length → Q (.ref a) H) ∧
    (¬ (HT.sIx xs.length 0 lo = 0 ∧ HT.sIx xs.length xs.length hi = xs.length) → NewT H Q (cutV xs lo hi))) := by
  intro pins s σ H x v vl vu lo hi sl Q I rx hs pl pu h
  obtain ⟨a, xs, rfl, hx, q1, q2⟩ := h
  by_cases hw : HT.sIx xs.length 0 lo = 0 ∧ HT.sIx xs.length xs.length hi = xs.length
  · exact sl_tupA pins s σ H _ v vl vu lo hi sl Q I rx hs pl pu ⟨a, xs, rfl, hx, q1, fun z => absurd hw z⟩
  · obtain rfl : v = Value.ref a := rx
    obtain ⟨its, r, ht, hz⟩ := I.tuple hx
    have e : its.toArray.size = xs.length := by rw [List.size_toArray, r.length]
    refine ⟨"tuple", _, PyProof.Rows.slot_tuple_getitem.lookup, ht.typeIs, HT.getItem_tuple_cut ht hs pl pu (e ▸ hw) ?_ (e ▸ hz)⟩
    rw [e]
    exact lay_tup I (Nat.le_trans (cutV_length xs lo hi) hz) ((r.drop _).take _) (q2 hw)
end
end MP
set_option Elab.async false
set_option linter.all false
set_option maxRecDepth 100000
set_option maxHeartbeats 4000000
/-! How data and objects lie in the heap. -/
namespace MP
open PySem PySem.Spec PyProof.Rows L2

/-- where the changing objects stand (none: let go); lists that are being made, of which nothing is known outside -/
structure Mu where
  ob : List (Option Addr)
  hid : List Addr
def KTup (K : PySem.W.Frag) (a : Addr) (xs : List V) : Prop := ∃ (o : Obj) (its : Array Value) (n : Nat), K.lookup a = some o ∧ o.cls = .type "tuple" ∧ o.data = .seq its n ∧ its.size ≤ sizeLine ∧ Vals xs its.toList
def KLst (K : PySem.W.Frag) (a : Addr) (xs : List V) : Prop := ∃ (o : Obj) (its : Array Value) (n : Nat), K.lookup a = some o ∧ o.cls = .type "list" ∧ o.dict = none ∧ o.data = .seq its n ∧ its.size ≤ sizeLine ∧ Vals xs its.toList

/-- a pair of numbers: its tuple stands as such; any other one with its object, which has no attributes (so that dict(..) may walk it) -/
def isPr : List D → Bool
  | [.int _, .int _] => true
  | _ => false
def TupAt (H : Hp) (a : Addr) (b : Bool) (vs : List V) : Prop := if b = true then H a = some (.tup vs) else ∃ o : Obj, o.dict = none ∧ H a = some (.frz o (.tup vs))
theorem TupAt.cases {H : Hp} {a : Addr} {b : Bool} {vs : List V} (h : TupAt H a b vs) : ∃ u, H a = some u ∧ (u = .tup vs ∨ ∃ o, u = .frz o (.tup vs)) := by
  cases b with
  | true => exact ⟨_, h, .inl rfl⟩
  | false => obtain ⟨o, _, e⟩ := h; exact ⟨_, e, .inr ⟨o, rfl⟩⟩
theorem TupAt.keep {H H' : Hp} {a : Addr} {b : Bool} {vs : List V} (h : TupAt H a b vs) (e : H' a = H a) : TupAt H' a b vs := by
  unfold TupAt at h ⊢
  rw [e]; exact h
theorem TupAt.upd {H : Hp} {a p : Addr} {b : Bool} {vs : List V} {o u : HO} (h : TupAt H a b vs) (hu : H p = some u) (n1 : ∀ xs, u ≠ .tup xs) (n2 : ∀ o xs, u ≠ .frz o (.tup xs)) : TupAt (upd H p o) a b vs := by
  refine h.keep (upd_ne ?_)
  rintro rfl
  obtain ⟨w, e, q⟩ := h.cases
  rw [hu] at e
  cases e
  rcases q with q | ⟨o, q⟩
  · exact n1 _ q
  · exact n2 _ _ q
theorem TupAt.sq {K : PySem.W.Frag} {H : Hp} {a : Addr} {b : Bool} {vs : List V} (h : TupAt H a b vs) : SqT K H a vs := by
  obtain ⟨w, e, q⟩ := h.cases
  rcases q with rfl | ⟨o, rfl⟩
  · exact .inl (.inl e)
  · exact .inl (.inr ⟨o, e⟩)
mutual
inductive RepD (K : PySem.W.Frag) (H : Hp) (μ : Mu) : D → V → Prop
  | non : RepD K H μ .none .non
  | bl (b : Bool) : RepD K H μ (.bool b) (.bl b)
  | int (i : Int) : RepD K H μ (.int i) (.int i)
  | str (s : Str) : RepD K H μ (.str s) (.str s)
  | tup {a : Addr} {vs : List V} {ds : List D} : TupAt H a (isPr ds) vs → RepDs K H μ ds vs → RepD K H μ (.tuple ds) (.ref a)
  | lst {a : Addr} {vs : List V} {ds : List D} : H a = some (.lst vs) → some a ∉ μ.ob → a ∉ μ.hid → RepDs K H μ ds vs → RepD K H μ (.list ds) (.ref a)
inductive RepDs (K : PySem.W.Frag) (H : Hp) (μ : Mu) : List D → List V → Prop
  | nil : RepDs K H μ [] []
  | cons {d : D} {v : V} {ds : List D} {vs : List V} : RepD K H μ d v → RepDs K H μ ds vs → RepDs K H μ (d :: ds) (v :: vs)
end

/-- from one state to a later one -/
structure Ext (H : Hp) (μ : Mu) (H' : Hp) (μ' : Mu) : Prop where
  tup : ∀ a xs, H a = some (.tup xs) → H' a = some (.tup xs)
  frz : ∀ a o u, H a = some (.frz o u) → H' a = some (.frz o u)
  keep : ∀ a o, H a = some o → some a ∉ μ.ob → H' a = some o
  stay : ∀ a, H' a = none → H a = none
  pre : ∀ (p : Nat) x, μ.ob[p]? = some x → μ'.ob[p]? = some x ∨ μ'.ob[p]? = some none
  new : ∀ a : Addr, some a ∈ μ'.ob → some a ∈ μ.ob ∨ H a = none
  hid : ∀ a : Addr, a ∈ μ.hid → a ∈ μ'.hid
  newh : ∀ a : Addr, a ∈ μ'.hid → a ∈ μ.hid ∨ H a = none
theorem Ext.refl (H : Hp) (μ : Mu) : Ext H μ H μ := ⟨fun _ _ h => h, fun _ _ _ h => h, fun _ _ h _ => h, fun _ h => h, fun _ _ h => .inl h, fun _ h => .inl h, fun _ h => h, fun _ h => .inl h⟩
theorem Ext.trans {H H1 H2 : Hp} {μ μ1 μ2 : Mu} (a : Ext H μ H1 μ1) (b : Ext H1 μ1 H2 μ2) : Ext H μ H2 μ2 where
  tup := fun x xs h => b.tup x xs (a.tup x xs h)
  frz := fun x o u h => b.frz x o u (a.frz x o u h)
  keep := fun x o h n => b.keep x o (a.keep x o h n) fun m => by
    rcases a.new x m with z | z
    · exact n z
    · rw [h] at z; cases z
  stay := fun x h => a.stay x (b.stay x h)
  pre := fun p x h => by
    rcases a.pre p x h with h1 | h1
    · exact b.pre p x h1
    · rcases b.pre p none h1 with h2 | h2 <;> exact .inr h2
  new := fun x h => (b.new x h).elim (a.new x) fun z => .inr (a.stay x z)
  hid := fun x h => b.hid x (a.hid x h)
  newh := fun x h => (b.newh x h).elim (a.newh x) fun z => .inr (a.stay x z)
theorem none_upd {H : Hp} {p a : Addr} {o : HO} (h : upd H p o a = none) : H a = none := by
  by_cases e : a = p
  · subst e; rw [upd_same] at h; cases h
  · rw [upd_ne e] at h; exact h
/-- a new object that is data -/
theorem Ext.fresh {H : Hp} {μ : Mu} {p : Addr} {o : HO} (h : H p = none) : Ext H μ (upd H p o) μ where
  tup := fun a xs e => by rw [upd_ne (ne_of_none e h)]; exact e
  frz := fun a ob u e => by rw [upd_ne (ne_of_none e h)]; exact e
  keep := fun a ob e _ => by rw [upd_ne (ne_of_none e h)]; exact e
  stay := fun _ e => none_upd e
  pre := fun _ _ h => .inl h
  new := fun _ h => .inl h
  hid := fun _ h => h
  newh := fun _ h => .inl h

section
variable {K : PySem.W.Frag} {H H' : Hp} {μ μ' : Mu}
theorem Ext.out (e : Ext H μ H' μ') {a : Addr} {o : HO} (h : H a = some o) (n : some a ∉ μ.ob) : some a ∉ μ'.ob := fun m => by
  rcases e.new a m with z | z
  · exact n z
  · rw [h] at z; cases z
theorem Ext.outh (e : Ext H μ H' μ') {a : Addr} {o : HO} (h : H a = some o) (n : a ∉ μ.hid) : a ∉ μ'.hid := fun m => by
  rcases e.newh a m with z | z
  · exact n z
  · rw [h] at z; cases z
theorem TupAt.up {a : Addr} {b : Bool} {vs : List V} (h : TupAt H a b vs) (e : Ext H μ H' μ') : TupAt H' a b vs := by
  cases b with
  | true => exact e.tup _ _ h
  | false => obtain ⟨o, d, q⟩ := h; exact ⟨o, d, e.frz _ _ _ q⟩
mutual
theorem RepD.mono (e : Ext H μ H' μ') : ∀ (d : D) (v : V), RepD K H μ d v → RepD K H' μ' d v
  | .none, _, h => by cases h; exact .non
  | .bool b, _, h => by cases h; exact .bl b
  | .int i, _, h => by cases h; exact .int i
  | .str s, _, h => by cases h; exact .str s
  | .tuple ds, _, h => by
    cases h with
    | tup ha hs => exact .tup (ha.up e) (RepDs.mono e ds _ hs)
  | .list ds, _, h => by
    cases h with
    | lst ha hn hh hs => exact .lst (e.keep _ _ ha hn) (e.out ha hn) (e.outh ha hh) (RepDs.mono e ds _ hs)
  | .dict _, _, h => by cases h
theorem RepDs.mono (e : Ext H μ H' μ') : ∀ (ds : List D) (vs : List V), RepDs K H μ ds vs → RepDs K H' μ' ds vs
  | [], _, h => by cases h; exact .nil
  | d :: ds, _, h => by
    cases h with
    | cons h1 h2 => exact .cons (RepD.mono e d _ h1) (RepDs.mono e ds _ h2)
end
theorem RepD.up (e : Ext H μ H' μ') {d : D} {v : V} (h : RepD K H μ d v) : RepD K H' μ' d v := RepD.mono e d v h
theorem RepDs.up (e : Ext H μ H' μ') {ds : List D} {vs : List V} (h : RepDs K H μ ds vs) : RepDs K H' μ' ds vs := RepDs.mono e ds vs h
theorem RepDs.length : ∀ {ds : List D} {vs : List V}, RepDs K H μ ds vs → ds.length = vs.length
  | [], _, h => by cases h; rfl
  | d :: ds, _, h => by cases h with | cons _ h2 => simp [RepDs.length h2]
theorem RepDs.get : ∀ {ds : List D} {vs : List V} {i : Nat} {d : D}, RepDs K H μ ds vs → ds[i]? = some d → ∃ v, vs[i]? = some v ∧ RepD K H μ d v
  | _, _, i, d, .nil, e => by simp at e
  | _, _, 0, d, .cons h _, e => by simp at e; subst e; exact ⟨_, rfl, h⟩
  | _, _, i + 1, d, .cons _ t, e => by
    obtain ⟨v, h1, h2⟩ := RepDs.get (i := i) (d := d) t (by simpa using e)
    exact ⟨v, by simpa using h1, h2⟩
theorem RepDs.getV : ∀ {ds : List D} {vs : List V} {i : Nat} {v : V}, RepDs K H μ ds vs → vs[i]? = some v → ∃ d, ds[i]? = some d ∧ RepD K H μ d v
  | _, _, i, d, .nil, e => by simp at e
  | _, _, 0, d, .cons h _, e => by simp at e; subst e; exact ⟨_, rfl, h⟩
  | _, _, i + 1, d, .cons _ t, e => by
    obtain ⟨v, h1, h2⟩ := RepDs.getV (i := i) (v := d) t (by simpa using e)
    exact ⟨v, by simpa using h1, h2⟩
theorem RepDs.append : ∀ {ds es : List D} {vs us : List V}, RepDs K H μ ds vs → RepDs K H μ es us → RepDs K H μ (ds ++ es) (vs ++ us)
  | _, _, _, _, .nil, h => h
  | _, _, _, _, .cons h t, h' => .cons h (RepDs.append t h')
theorem RepDs.set : ∀ {ds : List D} {vs : List V} {d : D} {v : V} (i : Nat), RepDs K H μ ds vs → RepD K H μ d v → RepDs K H μ (ds.set i d) (vs.set i v)
  | _, _, _, _, _, .nil, _ => .nil
  | _, _, _, _, 0, .cons _ t, h => .cons h t
  | _, _, _, _, i + 1, .cons h t, h' => .cons h (RepDs.set i t h')
theorem RepDs.take : ∀ {ds : List D} {vs : List V} (n : Nat), RepDs K H μ ds vs → RepDs K H μ (ds.take n) (vs.take n)
  | _, _, 0, _ => .nil
  | _, _, _ + 1, .nil => .nil
  | _, _, n + 1, .cons h t => .cons h (RepDs.take n t)
theorem RepDs.drop : ∀ {ds : List D} {vs : List V} (n : Nat), RepDs K H μ ds vs → RepDs K H μ (ds.drop n) (vs.drop n)
  | _, _, 0, h => h
  | _, _, _ + 1, .nil => .nil
  | _, _, n + 1, .cons _ t => RepDs.drop n t
theorem RepDs.dropLast {ds : List D} {vs : List V} (h : RepDs K H μ ds vs) : RepDs K H μ ds.dropLast vs.dropLast := by
  rw [List.dropLast_eq_take, List.dropLast_eq_take, h.length]
  exact h.take _
theorem RepDs.eraseIdx : ∀ {ds : List D} {vs : List V} (i : Nat), RepDs K H μ ds vs → RepDs K H μ (ds.eraseIdx i) (vs.eraseIdx i)
  | _, _, _, .nil => .nil
  | _, _, 0, .cons _ t => t
  | _, _, i + 1, .cons h t => .cons h (RepDs.eraseIdx i t)
theorem RepDs.reverse : ∀ {ds : List D} {vs : List V}, RepDs K H μ ds vs → RepDs K H μ ds.reverse vs.reverse
  | _, _, .nil => .nil
  | d :: ds, v :: vs, .cons h t => by rw [List.reverse_cons, List.reverse_cons]; exact (RepDs.reverse t).append (.cons h .nil)
theorem RepDs.rep {ds : List D} {vs : List V} (h : RepDs K H μ ds vs) : ∀ k : Nat, RepDs K H μ (List.replicate k ds).flatten (List.replicate k vs).flatten
  | 0 => .nil
  | k + 1 => by rw [List.replicate_succ, List.replicate_succ, List.flatten_cons, List.flatten_cons]; exact h.append (RepDs.rep h k)

/-! ### values, objects -/
def RepA (x : Option (Option Addr)) (v : V) : Prop := match x with
  | some (some a) => v = .ref a
  | some none => True
  | none => False
def RepW (K : PySem.W.Frag) (H : Hp) (μ : Mu) : W → V → Prop
  | .dat d, v => RepD K H μ d v
  | .obj p, v => RepA μ.ob[p]? v
  | .scr ds, v => ∃ a vs, v = .ref a ∧ ((∃ o, H a = some (.frz o (.lst vs))) ∨ KLst K a vs) ∧ RepDs K H μ ds vs
  | .cst ds, v => ∃ a vs, v = .ref a ∧ KTup K a vs ∧ RepDs K H μ ds vs
  | .cdi _, _ => True
  | .fn _ x, v => ∃ f, v = .ref f ∧ PySem.W.nsIn K mainGlobals x = some (some (.ref f))
theorem RepW.up (e : Ext H μ H' μ') : ∀ {w : W} {v : V}, RepW K H μ w v → RepW K H' μ' w v
  | .dat d, v, h => RepD.up e h
  | .obj p, v, h => by
    have h : RepA μ.ob[p]? v := h
    show RepA μ'.ob[p]? v
    cases q : μ.ob[p]? with
    | none => rw [q] at h; exact h.elim
    | some x =>
      rw [q] at h
      rcases e.pre p x q with r | r
      · rw [r]; exact h
      · rw [r]; trivial
  | .scr ds, v, h => by
    obtain ⟨a, vs, rfl, q, r⟩ := h
    refine ⟨a, vs, rfl, ?_, r.up e⟩
    rcases q with ⟨o, q⟩ | q
    · exact .inl ⟨o, e.frz _ _ _ q⟩
    · exact .inr q
  | .cst ds, v, h => let ⟨a, vs, q1, q2, q3⟩ := h; ⟨a, vs, q1, q2, q3.up e⟩
  | .cdi _, _, h => h
  | .fn _ _, _, h => h
def RepWs (K : PySem.W.Frag) (H : Hp) (μ : Mu) : List W → List V → Prop := Paired (RepW K H μ)
theorem RepWs.up (e : Ext H μ H' μ') {ws : List W} {vs : List V} (h : RepWs K H μ ws vs) : RepWs K H' μ' ws vs := Paired.mapP h fun _ _ q => RepW.up e q
def RepKs (K : PySem.W.Frag) (H : Hp) (μ : Mu) : List (Key × W) → List (Key × V) → Prop := Paired fun p q => p.1 = q.1 ∧ RepW K H μ p.2 q.2
theorem RepKs.up (e : Ext H μ H' μ') {ws : List (Key × W)} {vs : List (Key × V)} (h : RepKs K H μ ws vs) : RepKs K H' μ' ws vs := Paired.mapP h fun _ _ q => ⟨q.1, RepW.up e q.2⟩
def RepFs (K : PySem.W.Frag) (H : Hp) (μ : Mu) : List (Str × W) → List (Str × V) → Prop := Paired fun p q => p.1 = q.1 ∧ RepW K H μ p.2 q.2
theorem RepFs.up (e : Ext H μ H' μ') {ws : List (Str × W)} {vs : List (Str × V)} (h : RepFs K H μ ws vs) : RepFs K H' μ' ws vs := Paired.mapP h fun _ _ q => ⟨q.1, RepW.up e q.2⟩
def RepO (K : PySem.W.Frag) (H : Hp) (μ : Mu) (o : Ob) (a : Addr) : Prop := match o with
  | .lst ds => ∃ vs, H a = some (.lst vs) ∧ RepDs K H μ ds vs
  | .dic kvs => ∃ vs, H a = some (.dK vs) ∧ RepKs K H μ kvs vs
  | .lck kvs => ∃ o vs, H a = some (.frz o (.dK vs)) ∧ RepKs K H μ kvs vs
  | .ins x fs => ∃ C dx vs, PySem.W.nsIn K mainGlobals x = some (some (.ref C)) ∧ H a = some (.ins C dx vs) ∧ RepFs K H μ fs vs
  | .gone => False
structure StoRep (K : PySem.W.Frag) (H : Hp) (S : Sto) (μ : Mu) : Prop where
  len : S.length = μ.ob.length
  hid : ∀ a, a ∈ μ.hid → some a ∉ μ.ob ∧ ∃ xs, H a = some (.lst xs)
  ob : ∀ (p : Nat) (a : Addr) (o : Ob), μ.ob[p]? = some (some a) → S[p]? = some o → RepO K H μ o a
  inj : ∀ (p q : Nat) (a : Addr), μ.ob[p]? = some (some a) → μ.ob[q]? = some (some a) → p = q
  gone : ∀ (p : Nat), μ.ob[p]? = some none → S[p]? = some .gone
def LocRep (K : PySem.W.Frag) (H : Hp) (μ : Mu) (l : Loc) (σ : L2.St) : Prop := l.length = σ.length ∧ ∀ (i : Nat) (w : W), l[i]? = some (some w) → ∃ v, σ[i]? = some (some v) ∧ RepW K H μ w v
theorem LocRep.up (e : Ext H μ H' μ') {l : Loc} {σ : L2.St} (h : LocRep K H μ l σ) : LocRep K H' μ' l σ := ⟨h.1, fun i w q => let ⟨v, a, b⟩ := h.2 i w q; ⟨v, a, RepW.up e b⟩⟩
theorem LocRep.set {l : Loc} {σ : L2.St} {w : W} {v : V} (h : LocRep K H μ l σ) (k : Nat) (hw : RepW K H μ w v) : LocRep K H μ (l.set k (some w)) (σ.set k (some v)) := by
  refine ⟨by simp [h.1], fun i u q => ?_⟩
  by_cases e : k = i
  · subst e
    by_cases hk : k < l.length
    · rw [List.getElem?_set_self hk] at q
      cases q
      exact ⟨v, List.getElem?_set_self (by rw [← h.1]; exact hk), hw⟩
    · rw [List.getElem?_eq_none (by simpa using hk)] at q; cases q
  · rw [List.getElem?_set_ne e] at q ⊢
    exact h.2 i u q
/-- a value that is known again at the data it stands for -/
theorem LocRep.setL {l : Loc} {σ : L2.St} {w u : W} (h : LocRep K H μ l σ) {k : Nat} (hk : l[k]? = some (some w)) (hw : ∀ v, RepW K H μ w v → RepW K H μ u v) : LocRep K H μ (l.set k (some u)) σ := by
  refine ⟨by simp [h.1], fun i x q => ?_⟩
  by_cases e : k = i
  · subst e
    obtain ⟨hl, _⟩ := List.getElem?_eq_some_iff.mp hk
    rw [List.getElem?_set_self hl] at q
    cases q
    obtain ⟨v, a, b⟩ := h.2 k w hk
    exact ⟨v, a, hw v b⟩
  · rw [List.getElem?_set_ne e] at q
    exact h.2 i x q
theorem StoRep.live {S : Sto} (h : StoRep K H S μ) {a : Addr} (m : some a ∈ μ.ob) : ∃ (p : Nat) (o : Ob), μ.ob[p]? = some (some a) ∧ S[p]? = some o ∧ RepO K H μ o a := by
  obtain ⟨p, hp, e⟩ := List.getElem_of_mem m
  have e' : μ.ob[p]? = some (some a) := by rw [List.getElem?_eq_getElem hp, e]
  have hs : p < S.length := by rw [h.len]; exact hp
  exact ⟨p, S[p], e', List.getElem?_eq_getElem hs, h.ob p a _ e' (List.getElem?_eq_getElem hs)⟩
theorem RepO.there {o : Ob} {a : Addr} (h : RepO K H μ o a) : ∃ u, H a = some u ∧ True := by
  cases o with
  | lst ds => obtain ⟨vs, e, _⟩ := h; exact ⟨_, e, trivial⟩
  | dic kvs => obtain ⟨vs, e, _⟩ := h; exact ⟨_, e, trivial⟩
  | lck kvs => obtain ⟨_, vs, e, _⟩ := h; exact ⟨_, e, trivial⟩
  | ins x fs => obtain ⟨_, _, vs, _, e, _⟩ := h; exact ⟨_, e, trivial⟩
  | gone => exact h.elim
theorem StoRep.mut {S : Sto} (h : StoRep K H S μ) {a : Addr} (m : some a ∈ μ.ob) : ∃ u, H a = some u ∧ True := let ⟨_, _, _, _, r⟩ := h.live m; r.there
theorem StoRep.notin {S : Sto} (h : StoRep K H S μ) {a : Addr} (n : H a = none) : some a ∉ μ.ob := fun m => by
  obtain ⟨u, e, _⟩ := h.mut m
  rw [n] at e; cases e
theorem RepO.up {o : Ob} {a : Addr} (e : Ext H μ H' μ') (h : RepO K H μ o a) (hk : H' a = H a) : RepO K H' μ' o a := by
  cases o with
  | lst ds => obtain ⟨vs, q, r⟩ := h; exact ⟨vs, hk.trans q, r.up e⟩
  | dic kvs => obtain ⟨vs, q, r⟩ := h; exact ⟨vs, hk.trans q, r.up e⟩
  | lck kvs => obtain ⟨o, vs, q, r⟩ := h; exact ⟨o, vs, hk.trans q, r.up e⟩
  | ins x fs => obtain ⟨C, dx, vs, c, q, r⟩ := h; exact ⟨C, dx, vs, c, hk.trans q, r.up e⟩
  | gone => exact h.elim
theorem StoRep.nohid {S : Sto} (h : StoRep K H S μ) {a : Addr} (n : H a = none) : a ∉ μ.hid := fun m => by
  obtain ⟨_, _, e⟩ := h.hid a m
  rw [n] at e; cases e
/-- a new object that is data: the store as it was -/
theorem StoRep.fresh {S : Sto} {p : Addr} {o : HO} (h : StoRep K H S μ) (hp : H p = none) : StoRep K (upd H p o) S μ := by
  refine ⟨h.len, fun a m => ⟨(h.hid a m).1, ?_⟩, fun q a ob e1 e2 => (h.ob q a ob e1 e2).up (Ext.fresh hp) ?_, h.inj, h.gone⟩
  · obtain ⟨xs, e⟩ := (h.hid a m).2
    exact ⟨xs, by rw [upd_ne (ne_of_none e hp)]; exact e⟩
  · obtain ⟨u, z, _⟩ := (h.ob q a ob e1 e2).there
    exact upd_ne (ne_of_none z hp)
/-- one more place -/
def Mu.push (μ : Mu) (p : Addr) : Mu := ⟨μ.ob ++ [some p], μ.hid⟩
def Mu.set (μ : Mu) (p : Nat) : Mu := ⟨μ.ob.set p none, μ.hid⟩
def Mu.hide (μ : Mu) (p : Addr) : Mu := ⟨μ.ob, p :: μ.hid⟩
def Mu.show (μ : Mu) (hs : List Addr) : Mu := ⟨μ.ob, hs⟩
def Mu.cut (μ : Mu) (n : Nat) : Mu := ⟨μ.ob.take n, μ.hid⟩
/-- a new object that is to change -/
theorem Ext.push {p : Addr} {o : HO} (hp : H p = none) : Ext H μ (upd H p o) (μ.push p) where
  tup := fun a xs e => by rw [upd_ne (ne_of_none e hp)]; exact e
  frz := fun a ob u e => by rw [upd_ne (ne_of_none e hp)]; exact e
  keep := fun a ob e _ => by rw [upd_ne (ne_of_none e hp)]; exact e
  stay := fun _ e => none_upd e
  pre := fun q x e => .inl (by show (μ.ob ++ [some p])[q]? = some x; rw [List.getElem?_append_left (List.getElem?_eq_some_iff.mp e).1]; exact e)
  new := fun a m => by
    rcases List.mem_append.mp m with m | m
    · exact .inl m
    · simp at m; subst m; exact .inr hp
  hid := fun _ h => h
  newh := fun _ h => .inl h
theorem StoRep.push {S : Sto} {p : Addr} {o : HO} {ob : Ob} (h : StoRep K H S μ) (hp : H p = none) (new : RepO K (upd H p o) (μ.push p) ob p) : StoRep K (upd H p o) (S ++ [ob]) (μ.push p) := by
  have split : ∀ (q : Nat) x, (μ.push p).ob[q]? = some x → (q < μ.ob.length ∧ μ.ob[q]? = some x) ∨ (q = μ.ob.length ∧ x = some p) := fun q x e => by
    have e : (μ.ob ++ [some p])[q]? = some x := e
    by_cases hq : q < μ.ob.length
    · rw [List.getElem?_append_left hq] at e; exact .inl ⟨hq, e⟩
    · rw [List.getElem?_append_right (by omega)] at e
      have hz : q - μ.ob.length = 0 := by
        cases z : q - μ.ob.length with
        | zero => rfl
        | succ n => rw [z] at e; simp at e
      rw [hz] at e; simp at e
      exact .inr ⟨by omega, e.symm⟩
  refine ⟨by simp [h.len, Mu.push], fun a m => ⟨fun z => ?_, ?_⟩, fun q a x e1 e2 => ?_, fun q r a e1 e2 => ?_, fun q e1 => ?_⟩
  · rcases List.mem_append.mp z with z | z
    · exact (h.hid a m).1 z
    · simp at z; subst z; exact h.nohid hp m
  · obtain ⟨xs, e⟩ := (h.hid a m).2
    exact ⟨xs, by rw [upd_ne (ne_of_none e hp)]; exact e⟩
  · rcases split q _ e1 with ⟨hq, e⟩ | ⟨hq, e⟩
    · rw [List.getElem?_append_left (by rw [h.len]; exact hq)] at e2
      have r := h.ob q a x e e2
      obtain ⟨u, z, _⟩ := r.there
      exact r.up (Ext.push hp) (upd_ne (ne_of_none z hp))
    · cases e
      subst hq
      rw [← h.len, List.getElem?_append_right (Nat.le_refl _)] at e2
      simp at e2; subst e2
      exact new
  · have nope : ∀ (i : Nat), μ.ob[i]? = some (some p) → False := fun i e => h.notin hp (List.mem_of_getElem? e)
    rcases split q _ e1 with ⟨hq, e⟩ | ⟨hq, e⟩
    · rcases split r _ e2 with ⟨hr, f⟩ | ⟨hr, f⟩
      · exact h.inj q r a e f
      · cases f; exact (nope q e).elim
    · rcases split r _ e2 with ⟨hr, f⟩ | ⟨hr, f⟩
      · cases e; exact (nope r f).elim
      · omega
  · rcases split q _ e1 with ⟨hq, e⟩ | ⟨hq, e⟩
    · rw [List.getElem?_append_left (by rw [h.len]; exact hq)]
      exact h.gone q e
    · cases e
/-- a changing object is changed -/
theorem Ext.write {p : Nat} {a : Addr} {o : HO} (mu : Mut (H a)) (hp : μ.ob[p]? = some (some a)) : Ext H μ (upd H a o) μ := by
  have m : some a ∈ μ.ob := List.mem_of_getElem? hp
  obtain ⟨u, e⟩ : ∃ u, H a = some u := by
    cases e : H a with
    | none => rw [e] at mu; exact mu.elim
    | some u => exact ⟨u, rfl⟩
  rw [e] at mu
  refine ⟨fun b xs q => ?_, fun b ob u' q => ?_, fun b ob q n => ?_, fun _ => none_upd, fun _ _ q => .inl q, fun _ q => .inl q, fun _ q => q, fun _ q => .inl q⟩
  · rw [upd_ne]; exact q
    rintro rfl; rw [e] at q; cases q; exact mu
  · rw [upd_ne]; exact q
    rintro rfl; rw [e] at q; cases q; exact mu
  · rw [upd_ne]; exact q
    rintro rfl; exact n m
theorem StoRep.writeE {S : Sto} {p : Nat} {a : Addr} {o : HO} {ob : Ob} (h : StoRep K H S μ) (ex : Ext H μ (upd H a o) μ) (hp : μ.ob[p]? = some (some a)) (new : RepO K (upd H a o) μ ob a) : StoRep K (upd H a o) (S.set p ob) μ := by
  have m : some a ∈ μ.ob := List.mem_of_getElem? hp
  refine ⟨by simp [h.len], fun b mb => ⟨(h.hid b mb).1, ?_⟩, fun q b x e1 e2 => ?_, h.inj, fun q e1 => ?_⟩
  · obtain ⟨xs, e⟩ := (h.hid b mb).2
    refine ⟨xs, ?_⟩
    rw [upd_ne]; exact e
    rintro rfl; exact (h.hid b mb).1 m
  · by_cases e : p = q
    · subst e
      rw [hp] at e1; cases e1
      have hs : p < S.length := by rw [h.len]; exact (List.getElem?_eq_some_iff.mp hp).1
      rw [List.getElem?_set_self hs] at e2; cases e2
      exact new
    · rw [List.getElem?_set_ne e] at e2
      refine (h.ob q b x e1 e2).up ex (upd_ne ?_)
      rintro rfl
      exact e (h.inj p q b hp e1)
  · have e : p ≠ q := by rintro rfl; rw [hp] at e1; cases e1
    rw [List.getElem?_set_ne e]
    exact h.gone q e1
theorem StoRep.write {S : Sto} {p : Nat} {a : Addr} {o : HO} {ob : Ob} (h : StoRep K H S μ) (mu : Mut (H a)) (hp : μ.ob[p]? = some (some a)) (new : RepO K (upd H a o) μ ob a) : StoRep K (upd H a o) (S.set p ob) μ := h.writeE (Ext.write mu hp) hp new
/-- a dict that is walked -/
theorem Ext.lock {p : Nat} {a : Addr} {o : Obj} {vs : List (Key × V)} (ha : H a = some (.dK vs)) (hp : μ.ob[p]? = some (some a)) : Ext H μ (upd H a (.frz o (.dK vs))) μ := Ext.write (by rw [ha]; trivial) hp
theorem StoRep.lock {S : Sto} {p : Nat} {a : Addr} {o : Obj} {kvs : List (Key × W)} {vs : List (Key × V)} (h : StoRep K H S μ) (hp : μ.ob[p]? = some (some a)) (ha : H a = some (.dK vs)) (r : RepKs K H μ kvs vs) : StoRep K (upd H a (.frz o (.dK vs))) (S.set p (.lck kvs)) μ :=
  h.writeE (Ext.lock ha hp) hp ⟨o, vs, upd_same, RepKs.up (Ext.lock ha hp) r⟩

mutual
theorem RepD.other {a : Addr} {o u : HO} (hu : H a = some u) (n1 : ∀ xs, u ≠ .tup xs) (n2 : ∀ xs, u ≠ .lst xs) (n0 : ∀ o xs, u ≠ .frz o (.tup xs)) : ∀ (d : D) (v : V), RepD K H μ d v → RepD K (upd H a o) μ d v
  | .none, _, h => by cases h; exact .non
  | .bool b, _, h => by cases h; exact .bl b
  | .int i, _, h => by cases h; exact .int i
  | .str s, _, h => by cases h; exact .str s
  | .tuple ds, _, h => by
    cases h with
    | tup ha hs => exact .tup (ha.upd hu n1 n0) (RepDs.other hu n1 n2 n0 ds _ hs)
  | .list ds, _, h => by
    cases h with
    | lst ha hn hq hs => exact .lst (by rw [upd_ne (by rintro rfl; rw [hu] at ha; exact n2 _ (Option.some.inj ha))]; exact ha) hn hq (RepDs.other hu n1 n2 n0 ds _ hs)
  | .dict _, _, h => by cases h
theorem RepDs.other {a : Addr} {o u : HO} (hu : H a = some u) (n1 : ∀ xs, u ≠ .tup xs) (n2 : ∀ xs, u ≠ .lst xs) (n0 : ∀ o xs, u ≠ .frz o (.tup xs)) : ∀ (ds : List D) (vs : List V), RepDs K H μ ds vs → RepDs K (upd H a o) μ ds vs
  | [], _, h => by cases h; exact .nil
  | d :: ds, _, h => by
    cases h with
    | cons h1 h2 => exact .cons (RepD.other hu n1 n2 n0 d _ h1) (RepDs.other hu n1 n2 n0 ds _ h2)
end
theorem RepW.other {a : Addr} {o u : HO} (hu : H a = some u) (n1 : ∀ xs, u ≠ .tup xs) (n2 : ∀ xs, u ≠ .lst xs) (n0 : ∀ o xs, u ≠ .frz o (.tup xs)) (n3 : ∀ o xs, u ≠ .frz o (.lst xs)) : ∀ {w : W} {v : V}, RepW K H μ w v → RepW K (upd H a o) μ w v
  | .dat d, v, h => RepD.other hu n1 n2 n0 d v h
  | .obj _, v, h => h
  | .scr ds, v, h => by
    obtain ⟨b, vs, rfl, q, r⟩ := h
    refine ⟨b, vs, rfl, ?_, RepDs.other hu n1 n2 n0 _ _ r⟩
    rcases q with ⟨o, q⟩ | q
    · exact .inl ⟨o, by rw [upd_ne (by rintro rfl; rw [hu] at q; exact n3 _ _ (Option.some.inj q))]; exact q⟩
    · exact .inr q
  | .cst ds, v, h => let ⟨b, vs, q1, q2, q3⟩ := h; ⟨b, vs, q1, q2, RepDs.other hu n1 n2 n0 _ _ q3⟩
  | .cdi _, _, h => h
  | .fn _ _, _, h => h
theorem StoRep.unlock {S : Sto} {p : Nat} {a : Addr} {o : Obj} {kvs : List (Key × W)} {vs : List (Key × V)} (h : StoRep K H S μ) (hp : μ.ob[p]? = some (some a)) (e : S[p]? = some (.lck kvs)) (ha : H a = some (.frz o (.dK vs))) : StoRep K (upd H a (.dK vs)) (S.set p (.dic kvs)) μ := by
  have m : some a ∈ μ.ob := List.mem_of_getElem? hp
  have ow : ∀ {w : W} {v : V}, RepW K H μ w v → RepW K (upd H a (.dK vs)) μ w v := fun r => RepW.other ha (fun _ z => by cases z) (fun _ z => by cases z) (fun _ _ z => by cases z) (fun _ _ z => by cases z) r
  refine ⟨by simp [h.len], fun b mb => ⟨(h.hid b mb).1, ?_⟩, fun q b x e1 e2 => ?_, h.inj, fun q e1 => ?_⟩
  · obtain ⟨xs, e⟩ := (h.hid b mb).2
    refine ⟨xs, ?_⟩
    rw [upd_ne]; exact e
    rintro rfl; exact (h.hid b mb).1 m
  · by_cases eq : p = q
    · subst eq
      rw [hp] at e1; cases e1
      have hs : p < S.length := by rw [h.len]; exact (List.getElem?_eq_some_iff.mp hp).1
      rw [List.getElem?_set_self hs] at e2; cases e2
      obtain ⟨o', vs', q1, q2⟩ := h.ob p a _ hp e
      rw [ha] at q1
      cases q1
      exact ⟨vs, upd_same, Paired.mapP q2 fun _ _ z => ⟨z.1, ow z.2⟩⟩
    · rw [List.getElem?_set_ne eq] at e2
      have ne : b ≠ a := by rintro rfl; exact eq (h.inj p q b hp e1)
      have r := h.ob q b x e1 e2
      cases x with
      | lst ds => obtain ⟨us, q1, q2⟩ := r; exact ⟨us, by rw [upd_ne ne]; exact q1, RepDs.other ha (fun _ z => by cases z) (fun _ z => by cases z) (fun _ _ z => by cases z) _ _ q2⟩
      | dic kvs => obtain ⟨us, q1, q2⟩ := r; exact ⟨us, by rw [upd_ne ne]; exact q1, Paired.mapP q2 fun _ _ z => ⟨z.1, ow z.2⟩⟩
      | lck kvs => obtain ⟨o2, us, q1, q2⟩ := r; exact ⟨o2, us, by rw [upd_ne ne]; exact q1, Paired.mapP q2 fun _ _ z => ⟨z.1, ow z.2⟩⟩
      | ins x fs => obtain ⟨C, dx, us, c, q1, q2⟩ := r; exact ⟨C, dx, us, c, by rw [upd_ne ne]; exact q1, Paired.mapP q2 fun _ _ z => ⟨z.1, ow z.2⟩⟩
      | gone => exact r.elim
  · have e : p ≠ q := by rintro rfl; rw [hp] at e1; cases e1
    rw [List.getElem?_set_ne e]
    exact h.gone q e1
/-- from ahead of the walk to behind it -/
theorem Ext.unlock {a : Addr} {p : Nat} {o : Obj} {vs : List (Key × V)} (ha : H a = some (.dK vs)) (hp : μ.ob[p]? = some (some a)) (e : Ext (upd H a (.frz o (.dK vs))) μ H' μ') : Ext H μ (upd H' a (.dK vs)) μ' := by
  have l := Ext.lock (o := o) ha hp
  have z := l.trans e
  have m : some a ∈ μ.ob := List.mem_of_getElem? hp
  refine ⟨fun b xs q => ?_, fun b ob u q => ?_, fun b ob q n => ?_, fun b q => z.stay b (none_upd q), z.pre, z.new, z.hid, z.newh⟩
  · rw [upd_ne (by rintro rfl; rw [ha] at q; cases q)]; exact z.tup b xs q
  · rw [upd_ne (by rintro rfl; rw [ha] at q; cases q)]; exact z.frz b ob u q
  · rw [upd_ne (by rintro rfl; exact n m)]; exact z.keep b ob q n
/-- nothing changes an object any more: it is data -/
theorem Ext.let {p : Nat} : Ext H μ H (μ.set p) where
  tup := fun _ _ e => e
  frz := fun _ _ _ e => e
  keep := fun _ _ e _ => e
  stay := fun _ e => e
  pre := fun q x e => by
    by_cases h : p = q
    · subst h
      exact .inr (List.getElem?_set_self (List.getElem?_eq_some_iff.mp e).1)
    · left
      show (μ.ob.set p none)[q]? = some x
      rw [List.getElem?_set_ne h]; exact e
  new := fun b m => .inl ((List.mem_or_eq_of_mem_set m).resolve_right fun z => by cases z)
  hid := fun _ h => h
  newh := fun _ h => .inl h
theorem StoRep.let {S : Sto} {p : Nat} {a : Addr} (h : StoRep K H S μ) (hp : μ.ob[p]? = some (some a)) : StoRep K H (S.set p .gone) (μ.set p) := by
  have hl : p < μ.ob.length := (List.getElem?_eq_some_iff.mp hp).1
  have split : ∀ (q : Nat) b, (μ.set p).ob[q]? = some (some b) → p ≠ q ∧ μ.ob[q]? = some (some b) := fun q b e => by
    have e : (μ.ob.set p none)[q]? = some (some b) := e
    by_cases z : p = q
    · subst z; rw [List.getElem?_set_self hl] at e; cases e
    · rw [List.getElem?_set_ne z] at e; exact ⟨z, e⟩
  refine ⟨by simp [h.len, Mu.set], fun b mb => ⟨fun z => (h.hid b mb).1 ((List.mem_or_eq_of_mem_set z).resolve_right fun z => by cases z), (h.hid b mb).2⟩, fun q b x e1 e2 => ?_, fun q r b e1 e2 => h.inj q r b (split q b e1).2 (split r b e2).2, fun q e1 => ?_⟩
  · obtain ⟨n, e⟩ := split q b e1
    rw [List.getElem?_set_ne n] at e2
    exact (h.ob q b x e e2).up Ext.let rfl
  · by_cases z : p = q
    · subst z; exact List.getElem?_set_self (by rw [h.len]; exact hl)
    · have e1 : (μ.ob.set p none)[q]? = some none := e1
      rw [List.getElem?_set_ne z] at e1 ⊢; exact h.gone q e1
theorem StoRep.out {S : Sto} {p : Nat} {a : Addr} (h : StoRep K H S μ) (hp : μ.ob[p]? = some (some a)) : some a ∉ (μ.set p).ob := fun m => by
  obtain ⟨q, hq, e⟩ := List.getElem_of_mem m
  have e' : (μ.ob.set p none)[q]? = some (some a) := by
    have : (μ.set p).ob[q]? = some (some a) := by rw [List.getElem?_eq_getElem hq, e]
    exact this
  have hl : p < μ.ob.length := (List.getElem?_eq_some_iff.mp hp).1
  by_cases z : p = q
  · subst z; rw [List.getElem?_set_self hl] at e'; cases e'
  · rw [List.getElem?_set_ne z] at e'; exact z (h.inj p q a hp e')
theorem StoRep.outh {S : Sto} {p : Nat} {a : Addr} (h : StoRep K H S μ) (hp : μ.ob[p]? = some (some a)) : a ∉ μ.hid := fun m => (h.hid a m).1 (List.mem_of_getElem? hp)

/-! ### a list that is being made -/
theorem Ext.hide {p : Addr} {o : HO} (hp : H p = none) : Ext H μ (upd H p o) (μ.hide p) where
  tup := fun a xs e => by rw [upd_ne (ne_of_none e hp)]; exact e
  frz := fun a ob u e => by rw [upd_ne (ne_of_none e hp)]; exact e
  keep := fun a ob e _ => by rw [upd_ne (ne_of_none e hp)]; exact e
  stay := fun _ e => none_upd e
  pre := fun _ _ h => .inl h
  new := fun _ h => .inl h
  hid := fun _ h => List.mem_cons_of_mem _ h
  newh := fun a h => (List.mem_cons.mp h).elim (fun e => .inr (e ▸ hp)) .inl
theorem StoRep.hide {S : Sto} {p : Addr} {xs : List V} (h : StoRep K H S μ) (hp : H p = none) : StoRep K (upd H p (.lst xs)) S (μ.hide p) := by
  refine ⟨h.len, fun a m => ?_, fun q a ob e1 e2 => (h.ob q a ob e1 e2).up (Ext.hide hp) ?_, h.inj, h.gone⟩
  · rcases List.mem_cons.mp m with e | m
    · subst e; exact ⟨h.notin hp, xs, upd_same⟩
    · obtain ⟨ys, e⟩ := (h.hid a m).2
      exact ⟨(h.hid a m).1, ys, by rw [upd_ne (ne_of_none e hp)]; exact e⟩
  · obtain ⟨u, z, _⟩ := (h.ob q a ob e1 e2).there
    exact upd_ne (ne_of_none z hp)
mutual
theorem RepD.grow {p : Addr} {xs ys : List V} (hp : H p = some (.lst xs)) (hh : p ∈ μ.hid) : ∀ (d : D) (v : V), RepD K H μ d v → RepD K (upd H p (.lst ys)) μ d v
  | .none, _, h => by cases h; exact .non
  | .bool b, _, h => by cases h; exact .bl b
  | .int i, _, h => by cases h; exact .int i
  | .str s, _, h => by cases h; exact .str s
  | .tuple ds, _, h => by
    cases h with
    | tup ha hs => exact .tup (ha.upd hp (fun _ z => by cases z) (fun _ _ z => by cases z)) (RepDs.grow hp hh ds _ hs)
  | .list ds, _, h => by
    cases h with
    | lst ha hn hq hs => exact .lst (by rw [upd_ne (by rintro rfl; exact hq hh)]; exact ha) hn hq (RepDs.grow hp hh ds _ hs)
  | .dict _, _, h => by cases h
theorem RepDs.grow {p : Addr} {xs ys : List V} (hp : H p = some (.lst xs)) (hh : p ∈ μ.hid) : ∀ (ds : List D) (vs : List V), RepDs K H μ ds vs → RepDs K (upd H p (.lst ys)) μ ds vs
  | [], _, h => by cases h; exact .nil
  | d :: ds, _, h => by
    cases h with
    | cons h1 h2 => exact .cons (RepD.grow hp hh d _ h1) (RepDs.grow hp hh ds _ h2)
end
theorem RepW.grow {p : Addr} {xs ys : List V} (hp : H p = some (.lst xs)) (hh : p ∈ μ.hid) : ∀ {w : W} {v : V}, RepW K H μ w v → RepW K (upd H p (.lst ys)) μ w v
  | .dat d, v, h => RepD.grow hp hh d v h
  | .obj _, v, h => h
  | .scr ds, v, h => by
    obtain ⟨a, vs, rfl, q, r⟩ := h
    refine ⟨a, vs, rfl, ?_, RepDs.grow hp hh _ _ r⟩
    rcases q with ⟨o, q⟩ | q
    · exact .inl ⟨o, by rw [upd_ne (ne_of q hp (by intro z; cases z))]; exact q⟩
    · exact .inr q
  | .cst ds, v, h => let ⟨a, vs, q1, q2, q3⟩ := h; ⟨a, vs, q1, q2, RepDs.grow hp hh _ _ q3⟩
  | .cdi _, _, h => h
  | .fn _ _, _, h => h
theorem LocRep.grow {p : Addr} {xs ys : List V} (hp : H p = some (.lst xs)) (hh : p ∈ μ.hid) {l : Loc} {σ : L2.St} (h : LocRep K H μ l σ) : LocRep K (upd H p (.lst ys)) μ l σ :=
  ⟨h.1, fun i w q => let ⟨v, a, b⟩ := h.2 i w q; ⟨v, a, RepW.grow hp hh b⟩⟩
theorem StoRep.grow {S : Sto} {p : Addr} {xs ys : List V} (h : StoRep K H S μ) (hp : H p = some (.lst xs)) (hh : p ∈ μ.hid) : StoRep K (upd H p (.lst ys)) S μ := by
  have np : ∀ a, some a ∈ μ.ob → a ≠ p := fun a m e => (h.hid p hh).1 (e ▸ m)
  refine ⟨h.len, fun a m => ⟨(h.hid a m).1, ?_⟩, fun q a ob e1 e2 => ?_, h.inj, h.gone⟩
  · by_cases e : a = p
    · subst e; exact ⟨ys, upd_same⟩
    · obtain ⟨zs, z⟩ := (h.hid a m).2
      exact ⟨zs, by rw [upd_ne e]; exact z⟩
  · have r := h.ob q a ob e1 e2
    have ne := np a (List.mem_of_getElem? e1)
    cases ob with
    | lst ds => obtain ⟨vs, q1, q2⟩ := r; exact ⟨vs, by rw [upd_ne ne]; exact q1, RepDs.grow hp hh _ _ q2⟩
    | dic kvs => obtain ⟨vs, q1, q2⟩ := r; exact ⟨vs, by rw [upd_ne ne]; exact q1, Paired.mapP q2 fun _ _ z => ⟨z.1, RepW.grow hp hh z.2⟩⟩
    | lck kvs => obtain ⟨o, vs, q1, q2⟩ := r; exact ⟨o, vs, by rw [upd_ne ne]; exact q1, Paired.mapP q2 fun _ _ z => ⟨z.1, RepW.grow hp hh z.2⟩⟩
    | ins x fs => obtain ⟨C, dx, vs, c, q1, q2⟩ := r; exact ⟨C, dx, vs, c, by rw [upd_ne ne]; exact q1, Paired.mapP q2 fun _ _ z => ⟨z.1, RepW.grow hp hh z.2⟩⟩
    | gone => exact r.elim
/-- fewer are hidden -/
theorem RepD.less {hs : List Addr} (hl : ∀ a, a ∈ hs → a ∈ μ.hid) : ∀ (d : D) (v : V), RepD K H μ d v → RepD K H (μ.show hs) d v := by
  have e : ∀ (d : D) (v : V), RepD K H μ d v → RepD K H (μ.show hs) d v := fun d v h => RepD.rec (μ := μ) (motive_1 := fun d v _ => RepD K H (μ.show hs) d v) (motive_2 := fun ds vs _ => RepDs K H (μ.show hs) ds vs)
    .non .bl .int .str (fun ha _ ih => .tup ha ih) (fun {a _ _} ha hn hq _ ih => .lst ha hn (fun z => hq (hl a z)) ih) .nil (fun _ _ a b => .cons a b) h
  exact e
theorem RepDs.less {hs : List Addr} (hl : ∀ a, a ∈ hs → a ∈ μ.hid) : ∀ {ds : List D} {vs : List V}, RepDs K H μ ds vs → RepDs K H (μ.show hs) ds vs
  | _, _, .nil => .nil
  | _, _, .cons h t => .cons (RepD.less hl _ _ h) (RepDs.less hl t)
theorem RepW.less {hs : List Addr} (hl : ∀ a, a ∈ hs → a ∈ μ.hid) : ∀ {w : W} {v : V}, RepW K H μ w v → RepW K H (μ.show hs) w v
  | .dat d, v, h => RepD.less hl d v h
  | .obj _, v, h => h
  | .scr ds, v, h => let ⟨a, vs, q1, q2, q3⟩ := h; ⟨a, vs, q1, q2, RepDs.less hl q3⟩
  | .cst ds, v, h => let ⟨a, vs, q1, q2, q3⟩ := h; ⟨a, vs, q1, q2, RepDs.less hl q3⟩
  | .cdi _, _, h => h
  | .fn _ _, _, h => h
theorem RepO.less {hs : List Addr} (hl : ∀ a, a ∈ hs → a ∈ μ.hid) {o : Ob} {a : Addr} (h : RepO K H μ o a) : RepO K H (μ.show hs) o a := by
  cases o with
  | lst ds => obtain ⟨vs, q1, q2⟩ := h; exact ⟨vs, q1, RepDs.less hl q2⟩
  | dic kvs => obtain ⟨vs, q1, q2⟩ := h; exact ⟨vs, q1, Paired.mapP q2 fun _ _ z => ⟨z.1, RepW.less hl z.2⟩⟩
  | lck kvs => obtain ⟨o, vs, q1, q2⟩ := h; exact ⟨o, vs, q1, Paired.mapP q2 fun _ _ z => ⟨z.1, RepW.less hl z.2⟩⟩
  | ins x fs => obtain ⟨C, dx, vs, c, q1, q2⟩ := h; exact ⟨C, dx, vs, c, q1, Paired.mapP q2 fun _ _ z => ⟨z.1, RepW.less hl z.2⟩⟩
  | gone => exact h
theorem StoRep.less {S : Sto} {hs : List Addr} (h : StoRep K H S μ) (hl : ∀ a, a ∈ hs → a ∈ μ.hid) : StoRep K H S (μ.show hs) :=
  ⟨h.len, fun a m => h.hid a (hl a m), fun q a ob e1 e2 => (h.ob q a ob e1 e2).less hl, h.inj, h.gone⟩
/-- from ahead of the making to a state within -/
theorem Ext.made {H1 : Hp} {μ1 : Mu} {p : Addr} (hp : H p = none) (e : Ext H μ H1 (μ1.show μ.hid)) {o : HO} : Ext H μ (upd H1 p o) (μ1.show μ.hid) := by
  have ne : ∀ a u, H a = some u → a ≠ p := fun a u q => ne_of_none q hp
  exact ⟨fun a xs q => by rw [upd_ne (ne a _ q)]; exact e.tup a xs q, fun a ob u q => by rw [upd_ne (ne a _ q)]; exact e.frz a ob u q, fun a ob q n => by rw [upd_ne (ne a _ q)]; exact e.keep a ob q n,
    fun a q => e.stay a (none_upd q), e.pre, e.new, e.hid, e.newh⟩

theorem Ext.both (hs : List Addr) (e : Ext H μ H' μ') : Ext H (μ.show hs) H' (μ'.show hs) := ⟨e.tup, e.frz, e.keep, e.stay, e.pre, e.new, fun _ h => h, fun _ h => .inl h⟩
/-- what was hidden is a changing object now -/
theorem RepD.live {p : Addr} {hs : List Addr} (hp : p ∈ μ.hid) (hl : ∀ a, a ∈ hs → a ∈ μ.hid) (d : D) (v : V) (h : RepD K H μ d v) : RepD K H ((μ.show hs).push p) d v :=
  RepD.rec (μ := μ) (motive_1 := fun d v _ => RepD K H ((μ.show hs).push p) d v) (motive_2 := fun ds vs _ => RepDs K H ((μ.show hs).push p) ds vs)
    .non .bl .int .str (fun ha _ ih => .tup ha ih) (fun {a _ _} ha hn hq _ ih => .lst ha (fun z => by
      rcases List.mem_append.mp z with z | z
      · exact hn z
      · simp at z; subst z; exact hq hp) (fun z => hq (hl a z)) ih) .nil (fun _ _ a b => .cons a b) h
theorem RepDs.live {p : Addr} {hs : List Addr} (hp : p ∈ μ.hid) (hl : ∀ a, a ∈ hs → a ∈ μ.hid) : ∀ {ds : List D} {vs : List V}, RepDs K H μ ds vs → RepDs K H ((μ.show hs).push p) ds vs
  | _, _, .nil => .nil
  | _, _, .cons h t => .cons (RepD.live hp hl _ _ h) (RepDs.live hp hl t)
theorem RepW.live {p : Addr} {hs : List Addr} (hp : p ∈ μ.hid) (hl : ∀ a, a ∈ hs → a ∈ μ.hid) : ∀ {w : W} {v : V}, RepW K H μ w v → RepW K H ((μ.show hs).push p) w v
  | .dat d, v, h => RepD.live hp hl d v h
  | .obj q, v, h => by
    have h : RepA μ.ob[q]? v := h
    show RepA (μ.ob ++ [some p])[q]? v
    cases e : μ.ob[q]? with
    | none => rw [e] at h; exact h.elim
    | some x =>
      rw [List.getElem?_append_left (List.getElem?_eq_some_iff.mp e).1, e]
      rw [e] at h; exact h
  | .scr ds, v, h => let ⟨a, vs, q1, q2, q3⟩ := h; ⟨a, vs, q1, q2, RepDs.live hp hl q3⟩
  | .cst ds, v, h => let ⟨a, vs, q1, q2, q3⟩ := h; ⟨a, vs, q1, q2, RepDs.live hp hl q3⟩
  | .cdi _, _, h => h
  | .fn _ _, _, h => h
theorem RepO.live {p : Addr} {hs : List Addr} (hp : p ∈ μ.hid) (hl : ∀ a, a ∈ hs → a ∈ μ.hid) {o : Ob} {a : Addr} (h : RepO K H μ o a) : RepO K H ((μ.show hs).push p) o a := by
  cases o with
  | lst ds => obtain ⟨vs, q1, q2⟩ := h; exact ⟨vs, q1, RepDs.live hp hl q2⟩
  | dic kvs => obtain ⟨vs, q1, q2⟩ := h; exact ⟨vs, q1, Paired.mapP q2 fun _ _ z => ⟨z.1, RepW.live hp hl z.2⟩⟩
  | lck kvs => obtain ⟨o, vs, q1, q2⟩ := h; exact ⟨o, vs, q1, Paired.mapP q2 fun _ _ z => ⟨z.1, RepW.live hp hl z.2⟩⟩
  | ins x fs => obtain ⟨C, dx, vs, c, q1, q2⟩ := h; exact ⟨C, dx, vs, c, q1, Paired.mapP q2 fun _ _ z => ⟨z.1, RepW.live hp hl z.2⟩⟩
  | gone => exact h
theorem StoRep.liveP {S : Sto} {p : Addr} {hs : List Addr} {ob : Ob} (h : StoRep K H S μ) (hp : p ∈ μ.hid) (hl : ∀ a, a ∈ hs → a ∈ μ.hid) (hn : p ∉ hs) (new : RepO K H ((μ.show hs).push p) ob p) : StoRep K H (S ++ [ob]) ((μ.show hs).push p) := by
  have npo := (h.hid p hp).1
  have split : ∀ (q : Nat) x, ((μ.show hs).push p).ob[q]? = some x → (q < μ.ob.length ∧ μ.ob[q]? = some x) ∨ (q = μ.ob.length ∧ x = some p) := fun q x e => by
    have e : (μ.ob ++ [some p])[q]? = some x := e
    by_cases hq : q < μ.ob.length
    · rw [List.getElem?_append_left hq] at e; exact .inl ⟨hq, e⟩
    · rw [List.getElem?_append_right (by omega)] at e
      have hz : q - μ.ob.length = 0 := by
        cases z : q - μ.ob.length with
        | zero => rfl
        | succ n => rw [z] at e; simp at e
      rw [hz] at e; simp at e
      exact .inr ⟨by omega, e.symm⟩
  refine ⟨by simp [h.len, Mu.push, Mu.show], fun a m => ⟨fun z => ?_, (h.hid a (hl a m)).2⟩, fun q a x e1 e2 => ?_, fun q r a e1 e2 => ?_, fun q e1 => ?_⟩
  · rcases List.mem_append.mp z with z | z
    · exact (h.hid a (hl a m)).1 z
    · simp at z; subst z; exact hn m
  · rcases split q _ e1 with ⟨hq, e⟩ | ⟨hq, e⟩
    · rw [List.getElem?_append_left (by rw [h.len]; exact hq)] at e2
      exact (h.ob q a x e e2).live hp hl
    · cases e
      subst hq
      rw [← h.len, List.getElem?_append_right (Nat.le_refl _)] at e2
      simp at e2; subst e2
      exact new
  · have nope : ∀ (i : Nat), μ.ob[i]? = some (some p) → False := fun i e => npo (List.mem_of_getElem? e)
    rcases split q _ e1 with ⟨hq, e⟩ | ⟨hq, e⟩
    · rcases split r _ e2 with ⟨hr, f⟩ | ⟨hr, f⟩
      · exact h.inj q r a e f
      · cases f; exact (nope q e).elim
    · rcases split r _ e2 with ⟨hr, f⟩ | ⟨hr, f⟩
      · cases e; exact (nope r f).elim
      · omega
  · rcases split q _ e1 with ⟨hq, e⟩ | ⟨hq, e⟩
    · rw [List.getElem?_append_left (by rw [h.len]; exact hq)]
      exact h.gone q e
    · cases e
theorem Ext.liveP {H1 : Hp} {μ1 : Mu} {p : Addr} (hp : H p = none) (e : Ext H μ H1 (μ1.show μ.hid)) : Ext H μ H1 ((μ1.show μ.hid).push p) :=
  ⟨e.tup, e.frz, e.keep, e.stay, fun q x h => by
    have ap : ∀ y, μ1.ob[q]? = some y → (μ1.ob ++ [some p])[q]? = some y := fun y z => by rw [List.getElem?_append_left (List.getElem?_eq_some_iff.mp z).1]; exact z
    exact (e.pre q x h).imp (ap _) (ap _), fun a m => by
    rcases List.mem_append.mp m with m | m
    · exact e.new a m
    · simp at m; subst m; exact .inr hp, e.hid, e.newh⟩

/-! ### behind a call -/
theorem RepD.cut {n : Nat} : ∀ (d : D) (v : V), RepD K H μ d v → RepD K H (μ.cut n) d v := fun d v h =>
  RepD.rec (μ := μ) (motive_1 := fun d v _ => RepD K H (μ.cut n) d v) (motive_2 := fun ds vs _ => RepDs K H (μ.cut n) ds vs)
    .non .bl .int .str (fun ha _ ih => .tup ha ih) (fun ha hn hq _ ih => .lst ha (fun z => hn (List.mem_of_mem_take z)) hq ih) .nil (fun _ _ a b => .cons a b) h
theorem RepDs.cut {n : Nat} : ∀ {ds : List D} {vs : List V}, RepDs K H μ ds vs → RepDs K H (μ.cut n) ds vs
  | _, _, .nil => .nil
  | _, _, .cons h t => .cons (RepD.cut _ _ h) (RepDs.cut t)
theorem RepW.cut {n : Nat} : ∀ {w : W} {v : V}, below n w = true → RepW K H μ w v → RepW K H (μ.cut n) w v
  | .dat d, v, _, h => RepD.cut d v h
  | .obj p, v, hb, h => by
    have hp : p < n := of_decide_eq_true hb
    have h : RepA μ.ob[p]? v := h
    show RepA (μ.ob.take n)[p]? v
    rw [List.getElem?_take_of_lt hp]
    exact h
  | .scr ds, v, _, h => let ⟨a, vs, q1, q2, q3⟩ := h; ⟨a, vs, q1, q2, RepDs.cut q3⟩
  | .cst ds, v, _, h => let ⟨a, vs, q1, q2, q3⟩ := h; ⟨a, vs, q1, q2, RepDs.cut q3⟩
  | .cdi _, _, _, h => h
  | .fn _ _, _, _, h => h
theorem RepKs.cut {n : Nat} : ∀ {kvs : List (Key × W)} {vs : List (Key × V)}, (kvs.all fun kv => below n kv.2) = true → RepKs K H μ kvs vs → RepKs K H (μ.cut n) kvs vs
  | _, _, _, .nil => .nil
  | kv :: kvs, _, hb, .cons h t => by
    simp only [List.all_cons, Bool.and_eq_true] at hb
    exact .cons ⟨h.1, RepW.cut hb.1 h.2⟩ (RepKs.cut hb.2 t)
theorem RepFs.cut {n : Nat} : ∀ {kvs : List (Str × W)} {vs : List (Str × V)}, (kvs.all fun kv => below n kv.2) = true → RepFs K H μ kvs vs → RepFs K H (μ.cut n) kvs vs
  | _, _, _, .nil => .nil
  | kv :: kvs, _, hb, .cons h t => by
    simp only [List.all_cons, Bool.and_eq_true] at hb
    exact .cons ⟨h.1, RepW.cut hb.1 h.2⟩ (RepFs.cut hb.2 t)
theorem StoRep.cut {S : Sto} {n : Nat} (h : StoRep K H S μ) (hb : (S.take n).all (obBelow n) = true) : StoRep K H (S.take n) (μ.cut n) := by
  have inn : ∀ {α : Type} {l : List α} {q : Nat} {x : α}, (l.take n)[q]? = some x → q < n ∧ l[q]? = some x := fun {α l q x} e => by
    by_cases hq : q < n
    · rw [List.getElem?_take_of_lt hq] at e; exact ⟨hq, e⟩
    · rw [List.getElem?_eq_none (by rw [List.length_take]; omega)] at e; cases e
  refine ⟨by simp [Mu.cut, List.length_take, h.len], fun a m => ⟨fun z => (h.hid a m).1 (List.mem_of_mem_take z), (h.hid a m).2⟩, fun q a ob e1 e2 => ?_, fun q r a e1 e2 => h.inj q r a (inn e1).2 (inn e2).2, fun q e1 => ?_⟩
  · have r := h.ob q a ob (inn e1).2 (inn e2).2
    have b : obBelow n ob = true := List.all_eq_true.mp hb ob (List.mem_of_getElem? e2)
    cases ob with
    | lst ds => obtain ⟨vs, q1, q2⟩ := r; exact ⟨vs, q1, RepDs.cut q2⟩
    | dic kvs => obtain ⟨vs, q1, q2⟩ := r; exact ⟨vs, q1, RepKs.cut b q2⟩
    | lck kvs => obtain ⟨o, vs, q1, q2⟩ := r; exact ⟨o, vs, q1, RepKs.cut b q2⟩
    | ins x fs => obtain ⟨C, dx, vs, c, q1, q2⟩ := r; exact ⟨C, dx, vs, c, q1, RepFs.cut b q2⟩
    | gone => exact r.elim
  · rw [List.getElem?_take_of_lt (inn e1).1]; exact h.gone q (inn e1).2
theorem Ext.cut {n : Nat} (hn : μ.ob.length ≤ n) (e : Ext H μ H' μ') : Ext H μ H' (μ'.cut n) where
  tup := e.tup
  frz := e.frz
  keep := e.keep
  stay := e.stay
  pre := fun p x h => by
    have hp : p < n := Nat.lt_of_lt_of_le (List.getElem?_eq_some_iff.mp h).1 hn
    rcases e.pre p x h with z | z
    · exact .inl (by show (μ'.ob.take n)[p]? = _; rw [List.getElem?_take_of_lt hp]; exact z)
    · exact .inr (by show (μ'.ob.take n)[p]? = _; rw [List.getElem?_take_of_lt hp]; exact z)
  new := fun a m => e.new a (List.mem_of_mem_take m)
  hid := e.hid
  newh := e.newh
end
end MP
set_option Elab.async false
set_option linter.all false
set_option maxRecDepth 100000
set_option maxHeartbeats 4000000
/-! What the operators and built-ins do to data. -/
namespace MP
open PySem PySem.Spec PyProof.Rows L2

/-- a wish about exceptions -/
abbrev Wx := Exn → Hp → Prop
section
variable {α β : Type} {K : PySem.W.Frag} {U : Wx} {H H' : Hp} {μ μ' : Mu}
/-- wherever the state may lie behind r: R -/
def PostE {α : Type} (K : PySem.W.Frag) (U : Wx) (H : Hp) (μ : Mu) (r : Rs α) (R : α → Hp → Mu → Sto → Prop) : Prop := match r with
  | .ok a S' => ∀ H' μ', Ext H μ H' μ' → StoRep K H' S' μ' → R a H' μ' S'
  | .ex x S' => ∀ H' μ', Ext H μ H' μ' → StoRep K H' S' μ' → U x H'
  | .no => False
theorem PostE.up {r : Rs α} {R : α → Hp → Mu → Sto → Prop} (h : PostE K U H μ r R) (e : Ext H μ H' μ') : PostE K U H' μ' r R := by
  cases r with
  | ok a S' => exact fun H2 μ2 e2 s => h H2 μ2 (e.trans e2) s
  | ex x S' => exact fun H2 μ2 e2 s => h H2 μ2 (e.trans e2) s
  | no => exact h
theorem PostE.bind {r : Rs α} {f : α → Sto → Rs β} {R : β → Hp → Mu → Sto → Prop} (h : PostE K U H μ (r.bind f) R) : PostE K U H μ r fun a H' μ' S' => PostE K U H' μ' (f a S') R := by
  cases r with
  | ok a S' => exact fun H2 μ2 e2 s => PostE.up h e2
  | ex x S' => exact h
  | no => exact h
theorem PostE.imp {r : Rs α} {R R' : α → Hp → Mu → Sto → Prop} (h : PostE K U H μ r R) (i : ∀ a H' μ' S', Ext H μ H' μ' → StoRep K H' S' μ' → R a H' μ' S' → R' a H' μ' S') : PostE K U H μ r R' := by
  cases r with
  | ok a S' => exact fun H2 μ2 e2 s => i a H2 μ2 S' e2 s (h H2 μ2 e2 s)
  | ex x S' => exact h
  | no => exact h
end
/-- a value's post -/
def VP (K : PySem.W.Frag) (Q : VK) : W → Hp → Mu → Sto → Prop := fun w H' μ' _ => ∀ v, RepW K H' μ' w v → Q v H'
def DP (K : PySem.W.Frag) (Q : VK) : D → Hp → Mu → Sto → Prop := fun d H' μ' _ => ∀ v, RepD K H' μ' d v → Q v H'
/-- readings made of meanings -/
def TEof (K : PySem.W.Frag) (U : Wx) (r : Loc → Sto → Rs W) : TE := fun σ H Q => ∃ l S μ, LocRep K H μ l σ ∧ StoRep K H S μ ∧ PostE K U H μ (r l S) (VP K Q)
def TAof (K : PySem.W.Frag) (U : Wx) (r : Loc → Sto → Rs (List W)) : TA := fun σ H Q => ∃ l S μ, LocRep K H μ l σ ∧ StoRep K H S μ ∧ PostE K U H μ (r l S) fun ws H' μ' _ => ∀ vs, RepWs K H' μ' ws vs → Q vs H'
def TTof (K : PySem.W.Frag) (U : Wx) (r : Loc → Sto → Rs W) : TT := fun σ H Q => ∃ l S μ, LocRep K H μ l σ ∧ StoRep K H S μ ∧ PostE K U H μ (r l S) fun w H' _ _ => ∃ b, w = .dat (.bool b) ∧ Q b H'
def rOf (K : PySem.W.Frag) (U : Wx) (f : Sto → W → W → Rs W) : R2 := fun v u H Q => ∃ S μ x y, StoRep K H S μ ∧ RepW K H μ x v ∧ RepW K H μ y u ∧ PostE K U H μ (f S x y) (VP K Q)
def rOf1 (K : PySem.W.Frag) (U : Wx) (f : Sto → W → Rs W) : V → Hp → VK → Prop := fun v H Q => ∃ S μ x, StoRep K H S μ ∧ RepW K H μ x v ∧ PostE K U H μ (f S x) (VP K Q)
def rOfL (K : PySem.W.Frag) (U : Wx) (f : Sto → List W → Rs W) : List V → Hp → VK → Prop := fun vs H Q => ∃ S μ ws, StoRep K H S μ ∧ RepWs K H μ ws vs ∧ PostE K U H μ (f S ws) (VP K Q)

/-! ### data that is read -/
inductive RepT (K : PySem.W.Frag) (H : Hp) (μ : Mu) : D → V → Prop
  | dat {d : D} {v : V} : RepD K H μ d v → RepT K H μ d v
  | live {a : Addr} {vs : List V} {ds : List D} : H a = some (.lst vs) → RepDs K H μ ds vs → RepT K H μ (.list ds) (.ref a)
  | cst {a : Addr} {vs : List V} {ds : List D} : KTup K a vs → RepDs K H μ ds vs → RepT K H μ (.tuple ds) (.ref a)
section
variable {K : PySem.W.Frag} {U : Wx} {H H' : Hp} {μ μ' : Mu} {S : Sto}
theorem rdD_rep (hS : StoRep K H S μ) {w : W} {v : V} {d : D} (h : RepW K H μ w v) (e : rdD S w = some d) : RepT K H μ d v := by
  cases w with
  | dat d' => cases e; exact .dat h
  | scr ds => cases e
  | cst ds => cases e
  | cdi ds => cases e
  | fn _ _ => cases e
  | obj p =>
    have h : RepA μ.ob[p]? v := h
    have e : obD S[p]? = some d := e
    cases q : S[p]? with
    | none => rw [q] at e; cases e
    | some o =>
      rw [q] at e
      cases o with
      | lst ds =>
        cases e
        cases m : μ.ob[p]? with
        | none => rw [m] at h; exact h.elim
        | some x =>
          rw [m] at h
          cases x with
          | none => rw [hS.gone p m] at q; cases q
          | some a =>
            obtain ⟨vs, r1, r2⟩ := hS.ob p a _ m q
            cases (show v = .ref a from h)
            exact .live r1 r2
      | dic _ => cases e
      | lck _ => cases e
      | ins _ _ => cases e
      | gone => cases e
theorem rdC_rep (hS : StoRep K H S μ) {w : W} {v : V} {d : D} (h : RepW K H μ w v) (e : rdC S w = some d) : RepT K H μ d v := by
  cases w with
  | cst ds =>
    cases e
    obtain ⟨a, vs, rfl, k, r⟩ := h
    exact .cst k r
  | dat d' => exact rdD_rep hS h e
  | scr ds => exact rdD_rep hS h e
  | cdi ds => exact rdD_rep hS h e
  | fn _ _ => exact rdD_rep hS h e
  | obj p => exact rdD_rep hS h e
theorem obj_lst (hS : StoRep K H S μ) {p : Nat} {v : V} {ds : List D} (h : RepW K H μ (.obj p) v) (e : S[p]? = some (.lst ds)) : ∃ a vs, v = .ref a ∧ μ.ob[p]? = some (some a) ∧ H a = some (.lst vs) ∧ RepDs K H μ ds vs := by
  have h : RepA μ.ob[p]? v := h
  cases m : μ.ob[p]? with
  | none => rw [m] at h; exact h.elim
  | some x =>
    rw [m] at h
    cases x with
    | none => rw [hS.gone p m] at e; cases e
    | some a =>
      obtain ⟨vs, r1, r2⟩ := hS.ob p a _ m e
      exact ⟨a, vs, h, rfl, r1, r2⟩
theorem obj_dic (hS : StoRep K H S μ) {p : Nat} {v : V} {ds : List (Key × W)} (h : RepW K H μ (.obj p) v) (e : S[p]? = some (.dic ds)) : ∃ a vs, v = .ref a ∧ μ.ob[p]? = some (some a) ∧ H a = some (.dK vs) ∧ RepKs K H μ ds vs := by
  have h : RepA μ.ob[p]? v := h
  cases m : μ.ob[p]? with
  | none => rw [m] at h; exact h.elim
  | some x =>
    rw [m] at h
    cases x with
    | none => rw [hS.gone p m] at e; cases e
    | some a =>
      obtain ⟨vs, r1, r2⟩ := hS.ob p a _ m e
      exact ⟨a, vs, h, rfl, r1, r2⟩
theorem obj_rdK (hS : StoRep K H S μ) {w : W} {v : V} {ds : List (Key × W)} (h : RepW K H μ w v) (e : rdK S w = some ds) : ∃ a vs, v = .ref a ∧ Rd H a (.dK vs) ∧ RepKs K H μ ds vs := by
  cases w with
  | obj p =>
    have e : obK S[p]? = some ds := e
    have h : RepA μ.ob[p]? v := h
    cases q : S[p]? with
    | none => rw [q] at e; cases e
    | some o =>
      rw [q] at e
      have go : ∀ o, S[p]? = some o → o ≠ .gone → ∃ a, μ.ob[p]? = some (some a) ∧ v = .ref a ∧ RepO K H μ o a := fun o q n => by
        cases m : μ.ob[p]? with
        | none => rw [m] at h; exact h.elim
        | some x =>
          rw [m] at h
          cases x with
          | none => rw [hS.gone p m] at q; exact (n (Option.some.inj q).symm).elim
          | some a => exact ⟨a, rfl, h, hS.ob p a _ m q⟩
      cases o with
      | dic kvs =>
        cases e
        obtain ⟨a, m, rfl, vs, r1, r2⟩ := go _ q (fun z => by cases z)
        exact ⟨a, vs, rfl, .inl r1, r2⟩
      | lck kvs =>
        cases e
        obtain ⟨a, m, rfl, o, vs, r1, r2⟩ := go _ q (fun z => by cases z)
        exact ⟨a, vs, rfl, .inr ⟨o, r1⟩, r2⟩
      | lst _ => cases e
      | ins _ _ => cases e
      | gone => cases e
  | _ => cases e
/-! ### tables of values -/
theorem valW_nil {k : Key} : valW [] k = none := rfl
theorem RepKs.val {kvs : List (Key × W)} {vs : List (Key × V)} (r : RepKs K H μ kvs vs) (k : Key) : (valW kvs k = none ∧ valV vs k = none) ∨ ∃ w v, valW kvs k = some w ∧ valV vs k = some v ∧ RepW K H μ w v := by
  induction r with
  | nil => exact .inl ⟨rfl, rfl⟩
  | @cons p q ps qs h t ih =>
    by_cases e : p.1 = k
    · refine .inr ⟨p.2, q.2, ?_, valV_pos (h.1 ▸ e), h.2⟩
      simp [valW, List.find?_cons, e]
    · rw [valV_neg (fun z => e (h.1.trans z))]
      have : valW (p :: ps) k = valW ps k := by simp [valW, List.find?_cons, e]
      rw [this]; exact ih
theorem RepKs.any {kvs : List (Key × W)} {vs : List (Key × V)} (r : RepKs K H μ kvs vs) (k : Key) : (kvs.any fun kv => decide (kv.1 = k)) = vs.any fun kv => decide (kv.1 = k) := by
  induction r with
  | nil => rfl
  | cons h t ih => rw [List.any_cons, List.any_cons, ih, h.1]
theorem paired_app {α β : Type} {F : α → β → Prop} : ∀ {a : List α} {b : List β} {c : List α} {d : List β}, Paired F a b → Paired F c d → Paired F (a ++ c) (b ++ d)
  | _, _, _, _, .nil, h => h
  | _, _, _, _, .cons h t, h' => .cons h (paired_app t h')
theorem RepKs.repl (k : Key) {w : W} {v : V} (h : RepW K H μ w v) : ∀ {kvs : List (Key × W)} {vs : List (Key × V)}, RepKs K H μ kvs vs → RepKs K H μ (kvs.map fun kv => if kv.1 = k then (kv.1, w) else kv) (vs.map fun kv => if kv.1 = k then (kv.1, v) else kv)
  | _, _, .nil => .nil
  | p :: ps, q :: qs, .cons h2 t => by
    refine .cons ?_ (RepKs.repl k h t)
    show (if p.1 = k then (p.1, w) else p).1 = (if q.1 = k then (q.1, v) else q).1 ∧ RepW K H μ (if p.1 = k then (p.1, w) else p).2 (if q.1 = k then (q.1, v) else q).2
    by_cases e : p.1 = k
    · rw [if_pos e, if_pos (h2.1 ▸ e)]; exact ⟨h2.1, h⟩
    · rw [if_neg e, if_neg (fun z => e (h2.1.trans z))]; exact h2
theorem RepKs.put {kvs : List (Key × W)} {vs : List (Key × V)} (r : RepKs K H μ kvs vs) (k : Key) {w : W} {v : V} (h : RepW K H μ w v) : RepKs K H μ (putW kvs k w) (putK vs k v) := by
  unfold putW putK
  rw [r.any k]
  split
  · exact RepKs.repl k h r
  · exact paired_app r (.cons ⟨rfl, h⟩ .nil)
theorem RepKs.drop (k : Key) : ∀ {kvs : List (Key × W)} {vs : List (Key × V)}, RepKs K H μ kvs vs → RepKs K H μ (dropW kvs k) (dropK vs k)
  | _, _, .nil => .nil
  | p :: ps, q :: qs, .cons h t => by
    have ih := RepKs.drop k t
    unfold dropW dropK at ih ⊢
    rw [List.filter_cons, List.filter_cons, ← h.1]
    by_cases e : p.1 = k
    · simp only [e, ne_eq, not_true_eq_false, decide_false, Bool.false_eq_true, if_false]; exact ih
    · simp only [e, ne_eq, not_false_eq_true, decide_true, if_true]; exact .cons h ih
theorem RepKs.merge : ∀ {more : List (Key × W)} {ms : List (Key × V)} {kvs : List (Key × W)} {vs : List (Key × V)}, RepKs K H μ more ms → RepKs K H μ kvs vs → RepKs K H μ (mergeW kvs more) (mergeK vs ms)
  | _, _, _, _, .nil, h => h
  | p :: ps, q :: qs, _, _, .cons h t, r => by
    refine RepKs.merge (kvs := putW _ p.1 p.2) (vs := putK _ q.1 q.2) t ?_
    rw [← h.1]
    exact r.put p.1 h.2
theorem RepKs.len {kvs : List (Key × W)} {vs : List (Key × V)} (r : RepKs K H μ kvs vs) : kvs.length = vs.length := Paired.length r
theorem key_rep {d : D} {k : Key} {v : V} (h : RepD K H μ d v) (e : keyD d = some k) : v = kV k := by
  cases h <;> cases e <;> rfl
theorem keyW_rep {w : W} {k : Key} {v : V} (h : RepW K H μ w v) (e : keyW w = some k) : v = kV k := by
  cases w with
  | dat d => exact key_rep h e
  | _ => cases e
theorem dkey_rep (k : Key) : RepD K H μ (dKey k) (kV k) := by cases k with
  | inl i => exact .int i
  | inr s => exact .str s
theorem keys_rep : ∀ {kvs : List (Key × W)} {vs : List (Key × V)}, RepKs K H μ kvs vs → RepDs K H μ (kvs.map fun kv => dKey kv.1) (vs.map fun kv => kV kv.1)
  | _, _, .nil => .nil
  | p :: ps, q :: qs, .cons h t => .cons (by show RepD K H μ (dKey p.1) (kV q.1); rw [h.1]; exact dkey_rep _) (keys_rep t)
theorem RepT.int {i : Int} {v : V} (h : RepT K H μ (.int i) v) : v = .int i := by cases h with | dat h => cases h; rfl
theorem RepT.bl {i : Bool} {v : V} (h : RepT K H μ (.bool i) v) : v = .bl i := by cases h with | dat h => cases h; rfl
theorem RepT.str {i : Str} {v : V} (h : RepT K H μ (.str i) v) : v = .str i := by cases h with | dat h => cases h; rfl
theorem RepT.non {v : V} (h : RepT K H μ .none v) : v = .non := by cases h with | dat h => cases h; rfl
theorem RepT.lst {ds : List D} {v : V} (h : RepT K H μ (.list ds) v) : ∃ a vs, v = .ref a ∧ H a = some (.lst vs) ∧ RepDs K H μ ds vs := by
  cases h with
  | dat h => cases h with | lst a n _ r => exact ⟨_, _, rfl, a, r⟩
  | live a r => exact ⟨_, _, rfl, a, r⟩
theorem rdD_tup {S : Sto} {w : W} {ds : List D} {v : V} (h : RepW K H μ w v) (e : rdD S w = some (.tuple ds)) : RepD K H μ (.tuple ds) v := by
  cases w with
  | dat d => cases e; exact h
  | scr _ => cases e
  | cst _ => cases e
  | cdi _ => cases e
  | fn _ _ => cases e
  | obj p =>
    have e : obD S[p]? = some (.tuple ds) := e
    unfold obD at e
    split at e <;> cases e
theorem sqT {a : Addr} {vs : List V} (h : H a = some (.tup vs) ∨ KTup K a vs) : SqT K H a vs := h.elim SqT.of Or.inr
theorem RepT.tup {ds : List D} {v : V} (h : RepT K H μ (.tuple ds) v) : ∃ a vs, v = .ref a ∧ SqT K H a vs ∧ RepDs K H μ ds vs := by
  cases h with
  | dat h => cases h with
    | tup a r => exact ⟨_, _, rfl, a.sq, r⟩
  | cst a r => exact ⟨_, _, rfl, sqT (.inr a), r⟩
mutual
theorem RepD.dp : ∀ (d : D) (v : V), RepD K H μ d v → Dp K H v d
  | .none, _, h => by cases h; exact .non
  | .bool b, _, h => by cases h; exact .bl b
  | .int i, _, h => by cases h; exact .int i
  | .str s, _, h => by cases h; exact .str s
  | .tuple ds, _, h => by
    cases h with
    | tup ha hs => exact .tup ha.sq (RepDs.dp ds _ hs)
  | .list ds, _, h => by
    cases h with
    | lst ha hn _ hs => exact .lst (SqL.of ha) (RepDs.dp ds _ hs)
  | .dict _, _, h => by cases h
theorem RepDs.dp : ∀ (ds : List D) (vs : List V), RepDs K H μ ds vs → DpAll K H vs ds
  | [], _, h => by cases h; exact .nil
  | d :: ds, _, h => by
    cases h with
    | cons h1 h2 => exact .cons (RepD.dp d _ h1) (RepDs.dp ds _ h2)
end
theorem RepT.dp {d : D} {v : V} (h : RepT K H μ d v) : Dp K H v d := by
  cases h with
  | dat h => exact RepD.dp _ _ h
  | live a r => exact .lst (SqL.of a) (RepDs.dp _ _ r)
  | cst a r => exact .tup (sqT (.inr a)) (RepDs.dp _ _ r)
/-- a pure answer: a value without an address -/
theorem vp_here {w : W} {v : V} {Q : VK} (hS : StoRep K H S μ) (h : PostE K U H μ (.ok w S) (VP K Q)) (r : RepW K H μ w v) : Q v H := h H μ (Ext.refl H μ) hS v r
/-- a new list or tuple -/
theorem vp_lst {ds : List D} {vs : List V} {Q : VK} (hS : StoRep K H S μ) (h : PostE K U H μ (.ok (.dat (.list ds)) S) (VP K Q)) (r : RepDs K H μ ds vs) : ∀ p, H p = none → Q (.ref p) (upd H p (.lst vs)) := fun p hp =>
  h _ μ (Ext.fresh hp) (hS.fresh hp) (.ref p) (.lst upd_same (hS.notin hp) (hS.nohid hp) (r.up (Ext.fresh hp)))
theorem vp_tup {ds : List D} {vs : List V} {Q : VK} (hS : StoRep K H S μ) (h : PostE K U H μ (.ok (.dat (.tuple ds)) S) (VP K Q)) (r : RepDs K H μ ds vs) : NewT H Q vs := fun p o hp ho => by
  cases e : isPr ds with
  | true => exact .inl (h _ μ (Ext.fresh hp) (hS.fresh hp) (.ref p) (.tup (by rw [e]; exact upd_same) (r.up (Ext.fresh hp))))
  | false => exact .inr (h _ μ (Ext.fresh hp) (hS.fresh hp) (.ref p) (.tup (by rw [e]; exact ⟨o, ho, upd_same⟩) (r.up (Ext.fresh hp))))
/-- a new list, of either kind -/
theorem vp_mk {m : Bool} {ds : List D} {vs : List V} {Q : VK} (hS : StoRep K H S μ) (h : PostE K U H μ (mk m (.list ds) S) (VP K Q)) (r : RepDs K H μ ds vs) : ∀ p, H p = none → Q (.ref p) (upd H p (.lst vs)) := fun p hp => by
  cases m with
  | false => exact vp_lst hS h r p hp
  | true =>
    have e := Ext.push (μ := μ) (o := .lst vs) hp
    refine h _ (μ.push p) e (hS.push (ob := .lst ds) hp ⟨vs, upd_same, r.up e⟩) (.ref p) ?_
    show RepA (μ.ob ++ [some p])[S.length]? (.ref p)
    rw [hS.len, List.getElem?_append_right (Nat.le_refl _)]
    simp [RepA]
/-- an object is written, a pure value given -/
theorem vp_put {p : Nat} {a : Addr} {ob : Ob} {o : HO} {w : W} {v : V} {Q : VK} (hS : StoRep K H S μ) (mu : Mut (H a)) (hp : μ.ob[p]? = some (some a)) (new : RepO K (upd H a o) μ ob a) (h : PostE K U H μ (.ok w (S.set p ob)) (VP K Q)) (r : RepW K (upd H a o) μ w v) : Q v (upd H a o) :=
  h _ μ (Ext.write mu hp) (hS.write mu hp new) v r
/-- a new dict -/
theorem vp_dic {ds : List (Key × W)} {vs : List (Key × V)} {Q : VK} (hS : StoRep K H S μ) (h : PostE K U H μ (.ok (.obj S.length) (S ++ [.dic ds])) (VP K Q)) (r : RepKs K H μ ds vs) : ∀ p, H p = none → Q (.ref p) (upd H p (.dK vs)) := fun p hp => by
  have e := Ext.push (μ := μ) (o := .dK vs) hp
  refine h _ (μ.push p) e (hS.push (ob := .dic ds) hp ⟨vs, upd_same, RepKs.up e r⟩) (.ref p) ?_
  show RepA (μ.ob ++ [some p])[S.length]? (.ref p)
  rw [hS.len, List.getElem?_append_right (Nat.le_refl _)]
  simp [RepA]
end

/-! ### readings of parts -/
section
variable {K : PySem.W.Frag} {U : Wx} {σ : L2.St} {H : Hp} {Q : VK}
theorem te_bin {ra rb : Loc → Sto → Rs W} {f : Sto → W → W → Rs W} (h : TEof K U (fun l S => (ra l S).bind fun x S1 => (rb l S1).bind fun y S2 => f S2 x y) σ H Q) : tOp (rOf K U f) (TEof K U ra) (TEof K U rb) σ H Q := by
  obtain ⟨l, S, μ, hl, hS, hp⟩ := h
  refine ⟨l, S, μ, hl, hS, hp.bind.imp fun x H1 μ1 S1 e1 s1 q1 v rv => ⟨l, S1, μ1, hl.up e1, s1, q1.bind.imp fun y H2 μ2 S2 e2 s2 q2 u ru => ⟨S2, μ2, x, y, s2, rv.up e2, ru, q2⟩⟩⟩
theorem te_un {ra : Loc → Sto → Rs W} {f : Sto → W → Rs W} (h : TEof K U (fun l S => (ra l S).bind fun x S1 => f S1 x) σ H Q) : tUn (rOf1 K U f) (TEof K U ra) σ H Q := by
  obtain ⟨l, S, μ, hl, hS, hp⟩ := h
  exact ⟨l, S, μ, hl, hS, hp.bind.imp fun x H1 μ1 S1 e1 s1 q1 v rv => ⟨S1, μ1, x, s1, rv, q1⟩⟩
theorem te_args {ra : Loc → Sto → Rs (List W)} {f : Sto → List W → Rs W} (h : TEof K U (fun l S => (ra l S).bind fun x S1 => f S1 x) σ H Q) : TAof K U ra σ H fun vs H1 => rOfL K U f vs H1 Q := by
  obtain ⟨l, S, μ, hl, hS, hp⟩ := h
  exact ⟨l, S, μ, hl, hS, hp.bind.imp fun x H1 μ1 S1 e1 s1 q1 v rv => ⟨S1, μ1, x, s1, rv, q1⟩⟩
end
theorem PE.imp {X : Cx} {e : Expr} {t t' : TE} (h : PE X e t) (i : ∀ σ H Q, t' σ H Q → t σ H Q) : PE X e t' := ⟨fun pins s σ H Q I q => h.run pins s σ H Q I (i σ H Q q)⟩
theorem PT.imp {X : Cx} {e : Expr} {t t' : TT} (h : PT X e t) (i : ∀ σ H Q, t' σ H Q → t σ H Q) : PT X e t' := ⟨fun pins s σ H Q I q => h.run pins s σ H Q I (i σ H Q q)⟩
theorem PA.imp {X : Cx} {e : List Expr} {t t' : TA} (h : PA X e t) (i : ∀ σ H Q, t' σ H Q → t σ H Q) : PA X e t' := ⟨fun pos pins s σ H Q I q => h.run pos pins s σ H Q I (i σ H Q q)⟩
theorem PS.imp {X : Cx} {e : Stmt} {t t' : TS} (h : PS X e t) (i : ∀ D σ H, t' D σ H → t D σ H) : PS X e t' := ⟨fun pins s σ H D I q => h.run pins s σ H D I (i D σ H q)⟩
theorem PSs.imp {X : Cx} {e : List Stmt} {t t' : TS} (h : PSs X e t) (i : ∀ D σ H, t' D σ H → t D σ H) : PSs X e t' := ⟨fun pins s σ H D I q => h.run pins s σ H D I (i D σ H q)⟩

/-! ### the operators -/
section
variable {X : Cx} {U : Wx}
def opOf : BO → Operator
  | .add => .Add | .sub => .Sub | .mul => .Mult | .fdiv => .FloorDiv | .mod => .Mod | .shl => .LShift | .shr => .RShift | .band => .BitAnd | .bor => .BitOr | .bxor => .BitXor
theorem binW_at {S : Sto} {op : BO} {x y : W} {K : PySem.W.Frag} {H : Hp} {μ : Mu} {R : W → Hp → Mu → Sto → Prop} (h : PostE K U H μ (binW S op x y) R) : ∃ dx dy d, rdD S x = some dx ∧ rdD S y = some dy ∧ binD op dx dy = some d ∧ PostE K U H μ (.ok (.dat d) S) R := by
  unfold binW at h
  cases e1 : rdD S x with
  | none => rw [e1] at h; exact h.elim
  | some dx =>
    cases e2 : rdD S y with
    | none => rw [e1, e2] at h; exact h.elim
    | some dy =>
      rw [e1, e2] at h
      have h : PostE K U H μ (optD (binD op dx dy) S) R := h
      cases e3 : binD op dx dy with
      | none => rw [e3] at h; exact h.elim
      | some d => rw [e3] at h; exact ⟨dx, dy, d, rfl, rfl, e3, h⟩
theorem or_binW (op : BO) : OpR X (binaryOp (opOf op)) (rOf X.K U fun S x y => binW S op x y) := by
  intro pins s σ H x y v u Q I rx ry h
  obtain ⟨S, μ, wx, wy, hS, hx, hy, hp⟩ := h
  obtain ⟨dx, dy, d, e1, e2, e3, hp⟩ := binW_at hp
  have tx := rdD_rep hS hx e1
  have ty := rdD_rep hS hy e2
  cases op with
  | add =>
    cases dx <;> cases dy <;> simp only [binD] at e3 <;> try cases e3
    · obtain rfl := tx.int
      obtain rfl := ty.int
      exact op_add pins s σ H _ _ v u Q I rx ry ⟨_, _, rfl, rfl, vp_here hS hp (.int _)⟩
    · obtain rfl := tx.str
      obtain rfl := ty.str
      split at e3
      · cases e3
        exact op_add_str pins s σ H _ _ v u Q I rx ry ⟨_, _, rfl, rfl, by assumption, vp_here hS hp (.str _)⟩
      · cases e3
    · obtain ⟨a, vs, rfl, ha, hr⟩ := tx.lst
      obtain ⟨b, us, rfl, hb, hq⟩ := ty.lst
      split at e3
      · cases e3
        rename_i hz
        rw [hr.length, hq.length] at hz
        exact op_cat pins s σ H _ _ v u Q I rx ry ⟨_, _, _, _, rfl, rfl, ha, hb, hz, vp_lst hS hp (hr.append hq)⟩
      · cases e3
    · obtain ⟨a, vs, rfl, ha, hr⟩ := tx.tup
      obtain ⟨b, us, rfl, hb, hq⟩ := ty.tup
      split at e3
      · cases e3
        rename_i hz
        have hz' := hz
        rw [hr.length, hq.length] at hz'
        refine op_catX pins s σ H _ _ v u Q I rx ry ⟨_, _, _, _, rfl, rfl, ha, hb, hz', fun e => ?_, fun _ e => ?_, fun _ _ => vp_tup hS hp (hr.append hq)⟩
        · subst e
          cases hr
          exact vp_here hS hp (rdD_tup hy e2)
        · subst e
          cases hq
          rw [List.append_nil] at hp
          exact vp_here hS hp (rdD_tup hx e1)
      · cases e3
  | sub =>
    cases dx <;> cases dy <;> simp only [binD] at e3 <;> try cases e3
    obtain rfl := tx.int
    obtain rfl := ty.int
    exact op_sub pins s σ H _ _ v u Q I rx ry ⟨_, _, rfl, rfl, vp_here hS hp (.int _)⟩
  | mul =>
    cases dx <;> cases dy <;> simp only [binD] at e3 <;> try cases e3
    · obtain rfl := tx.int
      obtain rfl := ty.int
      split at e3
      · cases e3
        exact op_mulW pins s σ H _ _ v u Q I rx ry ⟨_, _, rfl, rfl, by assumption, vp_here hS hp (.int _)⟩
      · cases e3
    · obtain ⟨a, vs, rfl, ha, hr⟩ := tx.lst
      obtain rfl := ty.int
      split at e3
      · cases e3
        rename_i hz
        obtain ⟨h1, h2, h3⟩ := hz
        rw [hr.length] at h3
        exact op_rep pins s σ H _ _ v u Q I rx ry ⟨_, _, _, rfl, rfl, ha, h1, h2, h3, vp_lst hS hp (hr.rep _)⟩
      · cases e3
  | fdiv =>
    cases dx <;> cases dy <;> simp only [binD] at e3 <;> try cases e3
    obtain rfl := tx.int
    obtain rfl := ty.int
    split at e3
    · cases e3
      exact op_fdivW pins s σ H _ _ v u Q I rx ry ⟨_, _, rfl, rfl, by assumption, vp_here hS hp (.int _)⟩
    · cases e3
  | mod =>
    cases dx <;> cases dy <;> simp only [binD] at e3 <;> try cases e3
    obtain rfl := tx.int
    obtain rfl := ty.int
    split at e3
    · cases e3
      exact op_mod pins s σ H _ _ v u Q I rx ry ⟨_, _, rfl, rfl, by assumption, vp_here hS hp (.int _)⟩
    · cases e3
  | shl =>
    cases dx <;> cases dy <;> simp only [binD] at e3 <;> try cases e3
    obtain rfl := tx.int
    obtain rfl := ty.int
    split at e3
    · cases e3
      exact op_shl pins s σ H _ _ v u Q I rx ry ⟨_, _, rfl, rfl, by assumption, vp_here hS hp (.int _)⟩
    · cases e3
  | shr =>
    cases dx <;> cases dy <;> simp only [binD] at e3 <;> try cases e3
    obtain rfl := tx.int
    obtain rfl := ty.int
    split at e3
    · cases e3
      exact op_shr pins s σ H _ _ v u Q I rx ry ⟨_, _, rfl, rfl, by assumption, vp_here hS hp (.int _)⟩
    · cases e3
  | band =>
    cases dx <;> cases dy <;> simp only [binD] at e3 <;> try cases e3
    obtain rfl := tx.int
    obtain rfl := ty.int
    exact op_and pins s σ H _ _ v u Q I rx ry ⟨_, _, rfl, rfl, vp_here hS hp (.int _)⟩
  | bor =>
    cases dx <;> cases dy <;> simp only [binD] at e3 <;> try cases e3
    obtain rfl := tx.int
    obtain rfl := ty.int
    exact op_or pins s σ H _ _ v u Q I rx ry ⟨_, _, rfl, rfl, vp_here hS hp (.int _)⟩
  | bxor =>
    cases dx <;> cases dy <;> simp only [binD] at e3 <;> try cases e3
    obtain rfl := tx.int
    obtain rfl := ty.int
    exact op_xor pins s σ H _ _ v u Q I rx ry ⟨_, _, rfl, rfl, vp_here hS hp (.int _)⟩
theorem or_neg : UnR X (unaryOp .USub) (rOf1 X.K U fun S x => negW x S) := by
  intro pins s σ H x v Q I rx h
  obtain ⟨S, μ, wx, hS, hx, hp⟩ := h
  cases wx with
  | dat d =>
    cases d with
    | int i =>
      have hx : RepD X.K H μ (.int i) x := hx
      cases hx
      exact un_neg pins s σ H _ v Q I rx ⟨i, rfl, vp_here hS hp (.int _)⟩
    | _ => exact hp.elim
  | _ => exact hp.elim

/-! ### comparisons -/
def cmpOf : CO → CmpOp
  | .eq => .Eq | .ne => .NotEq | .lt => .Lt | .le => .LtE | .gt => .Gt | .ge => .GtE | .is => .Is | .isn => .IsNot | .isin => .In | .notin => .NotIn
theorem cmpW_at {S : Sto} {op : CO} {x y : W} {K : PySem.W.Frag} {H : Hp} {μ : Mu} {R : W → Hp → Mu → Sto → Prop} (h : PostE K U H μ (cmpW0 S op x y) R) : ∃ dx dy c, rdC S x = some dx ∧ rdC S y = some dy ∧ cmpD op dx dy = some c ∧ PostE K U H μ (.ok (.dat (.bool c)) S) R := by
  unfold cmpW0 at h
  cases e1 : rdC S x with
  | none => rw [e1] at h; exact h.elim
  | some dx =>
    cases e2 : rdC S y with
    | none => rw [e1, e2] at h; exact h.elim
    | some dy =>
      rw [e1, e2] at h
      cases e3 : cmpD op dx dy with
      | none => simp only [e3] at h; exact h.elim
      | some d => simp only [e3] at h; exact ⟨dx, dy, d, rfl, rfl, e3, h⟩
theorem eqD_cases {x y : D} {c : Bool} (h : eqD x y = some c) : (∃ i j, x = .int i ∧ y = .int j ∧ c = decide (i = j)) ∨ (∃ i j, x = .str i ∧ y = .str j ∧ c = decide (i = j)) ∨ (∃ i j, x = .bool i ∧ y = .bool j ∧ c = decide (i = j)) ∨
    (SeqAt.shaped x = true ∧ SeqAt.shaped y = true ∧ c = PyData.eqv x y) := by
  unfold eqD at h
  split at h
  · cases h; exact .inl ⟨_, _, rfl, rfl, rfl⟩
  · cases h; exact .inr (.inl ⟨_, _, rfl, rfl, rfl⟩)
  · cases h; exact .inr (.inr (.inl ⟨_, _, rfl, rfl, rfl⟩))
  · split at h
    · rename_i hc
      cases h
      exact .inr (.inr (.inr ⟨hc.1, hc.2, rfl⟩))
    · cases h
theorem dec_vi {i j : Int} : decide (V.int i = V.int j) = decide (i = j) := by
  by_cases h : i = j
  · subst h; simp
  · rw [decide_eq_false h, decide_eq_false (fun z => h (V.int.inj z))]
theorem dec_vs {i j : Str} : decide (V.str i = V.str j) = decide (i = j) := by
  by_cases h : i = j
  · subst h; simp
  · rw [decide_eq_false h, decide_eq_false (fun z => h (V.str.inj z))]
theorem dec_vb {i j : Bool} : decide (V.bl i = V.bl j) = decide (i = j) := by
  by_cases h : i = j
  · subst h; simp
  · rw [decide_eq_false h, decide_eq_false (fun z => h (V.bl.inj z))]
theorem flat_rep {K : PySem.W.Frag} {H : Hp} {μ : Mu} {d : D} {v : V} (h : RepD K H μ d v) (f : flatD d = true) : flatV v = true := by
  cases h <;> first | rfl | cases f
theorem eqv_rep {K : PySem.W.Frag} {H : Hp} {μ : Mu} {d e : D} {v u : V} (h : RepD K H μ d v) (k : RepD K H μ e u) (f : flatD d = true) (g : flatD e = true) : eqV v u = PyData.eqv d e := by
  cases h <;> cases k <;> first | rfl | exact absurd f (by simp [flatD]) | exact absurd g (by simp [flatD]) | (simp only [eqV, PyData.eqv]; done) | (simp [eqV, PyData.eqv]; done) | skip
theorem in_rep {K : PySem.W.Frag} {H : Hp} {μ : Mu} {d : D} {v : V} (h : RepD K H μ d v) (f : flatD d = true) : ∀ {ds : List D} {vs : List V}, RepDs K H μ ds vs → ds.all flatD = true → vs.all flatV = true ∧ inV v vs = ds.any fun y => PyData.eqv y d
  | _, _, .nil, _ => ⟨rfl, rfl⟩
  | d' :: ds, v' :: vs, .cons h1 h2, g => by
    simp only [List.all_cons, Bool.and_eq_true] at g
    obtain ⟨a, b⟩ := in_rep h f h2 g.2
    refine ⟨by simp only [List.all_cons, Bool.and_eq_true]; exact ⟨flat_rep h1 g.1, a⟩, ?_⟩
    show (eqV v' v || inV v vs) = (PyData.eqv d' d || ds.any fun y => PyData.eqv y d)
    rw [eqv_rep h1 h g.1 f, b]
theorem or_cmpW0 (hu : X.A.units + 64 < cLine) (op : CO) : OpR X (compareOp (cmpOf op)) (rOf X.K U fun S x y => cmpW0 S op x y) := by
  intro pins s σ H x y v u Q I rx ry h
  obtain ⟨S, μ, wx, wy, hS, hx, hy, hp⟩ := h
  obtain ⟨dx, dy, c, e1, e2, e3, hp⟩ := cmpW_at hp
  have tx := rdC_rep hS hx e1
  have ty := rdC_rep hS hy e2
  have q : Q (.bl c) H := vp_here hS hp (.bl c)
  cases op with
  | eq =>
    rcases eqD_cases (show eqD dx dy = some c from e3) with ⟨i, j, rfl, rfl, rfl⟩ | ⟨i, j, rfl, rfl, rfl⟩ | ⟨i, j, rfl, rfl, rfl⟩ | ⟨h1, h2, rfl⟩
    · obtain rfl := tx.int
      obtain rfl := ty.int
      exact op_eq pins s σ H _ _ v u Q I rx ry ⟨rfl, by rw [dec_vi]; exact q⟩
    · obtain rfl := tx.str
      obtain rfl := ty.str
      exact op_eq pins s σ H _ _ v u Q I rx ry ⟨rfl, by rw [dec_vs]; exact q⟩
    · obtain rfl := tx.bl
      obtain rfl := ty.bl
      exact op_eq pins s σ H _ _ v u Q I rx ry ⟨rfl, by rw [dec_vb]; exact q⟩
    · exact op_eqD hu pins s σ H _ _ v u Q I rx ry ⟨dx, dy, tx.dp, ty.dp, h1, h2, q⟩
  | ne =>
    have e3 : (eqD dx dy).map (!·) = some c := e3
    obtain ⟨b, e4, rfl⟩ := Option.map_eq_some_iff.mp e3
    rcases eqD_cases e4 with ⟨i, j, rfl, rfl, rfl⟩ | ⟨i, j, rfl, rfl, rfl⟩ | ⟨i, j, rfl, rfl, rfl⟩ | ⟨h1, h2, rfl⟩
    · obtain rfl := tx.int
      obtain rfl := ty.int
      exact op_ne pins s σ H _ _ v u Q I rx ry ⟨rfl, by rw [dec_vi]; exact q⟩
    · obtain rfl := tx.str
      obtain rfl := ty.str
      exact op_ne pins s σ H _ _ v u Q I rx ry ⟨rfl, by rw [dec_vs]; exact q⟩
    · obtain rfl := tx.bl
      obtain rfl := ty.bl
      exact op_ne pins s σ H _ _ v u Q I rx ry ⟨rfl, by rw [dec_vb]; exact q⟩
    · exact op_neD hu pins s σ H _ _ v u Q I rx ry ⟨dx, dy, tx.dp, ty.dp, h1, h2, q⟩
  | lt =>
    cases dx <;> cases dy <;> simp only [cmpD] at e3 <;> try cases e3
    obtain rfl := tx.int
    obtain rfl := ty.int
    exact op_lt pins s σ H _ _ v u Q I rx ry ⟨_, _, rfl, rfl, q⟩
  | le =>
    cases dx <;> cases dy <;> simp only [cmpD] at e3 <;> try cases e3
    obtain rfl := tx.int
    obtain rfl := ty.int
    exact op_le pins s σ H _ _ v u Q I rx ry ⟨_, _, rfl, rfl, q⟩
  | gt =>
    cases dx <;> cases dy <;> simp only [cmpD] at e3 <;> try cases e3
    obtain rfl := tx.int
    obtain rfl := ty.int
    exact op_gt pins s σ H _ _ v u Q I rx ry ⟨_, _, rfl, rfl, q⟩
  | ge =>
    cases dx <;> cases dy <;> simp only [cmpD] at e3 <;> try cases e3
    obtain rfl := tx.int
    obtain rfl := ty.int
    exact op_ge pins s σ H _ _ v u Q I rx ry ⟨_, _, rfl, rfl, q⟩
  | is =>
    cases dy <;> simp only [cmpD] at e3 <;> try cases e3
    obtain rfl := ty.non
    refine op_isN pins s σ H _ _ v u Q I rx ry ⟨rfl, ?_⟩
    have z : decide (x = V.non) = isNone dx := by
      cases dx with
      | none => obtain rfl := tx.non; rfl
      | int => obtain rfl := tx.int; rfl
      | bool => obtain rfl := tx.bl; rfl
      | str => obtain rfl := tx.str; rfl
      | list => obtain ⟨_, _, rfl, _⟩ := tx.lst; rfl
      | tuple => obtain ⟨_, _, rfl, _⟩ := tx.tup; rfl
      | dict => cases tx with | dat h => cases h
    rw [z]; exact q
  | isn =>
    cases dy <;> simp only [cmpD] at e3 <;> try cases e3
    obtain rfl := ty.non
    refine op_notN pins s σ H _ _ v u Q I rx ry ⟨rfl, ?_⟩
    have z : (!decide (x = V.non)) = (!isNone dx) := by
      cases dx with
      | none => obtain rfl := tx.non; rfl
      | int => obtain rfl := tx.int; rfl
      | bool => obtain rfl := tx.bl; rfl
      | str => obtain rfl := tx.str; rfl
      | list => obtain ⟨_, _, rfl, _⟩ := tx.lst; rfl
      | tuple => obtain ⟨_, _, rfl, _⟩ := tx.tup; rfl
      | dict => cases tx with | dat h => cases h
    rw [z]; exact q
  | isin =>
    have key : ∀ ds vs, RepDs X.K H μ ds vs → inD dx ds = some c → flatV x = true ∧ vs.all flatV = true ∧ inV x vs = c := fun ds vs r e => by
      unfold inD at e
      split at e
      · rename_i hc
        cases e
        have rx' : RepD X.K H μ dx x := by
          cases tx with
          | dat h => exact h
          | live _ _ => cases hc.1
          | cst _ _ => cases hc.1
        obtain ⟨a, b⟩ := in_rep rx' hc.1 r hc.2
        exact ⟨flat_rep rx' hc.1, a, b⟩
      · cases e
    cases dy <;> simp only [cmpD] at e3 <;> try cases e3
    · obtain ⟨a, vs, rfl, ha, hr⟩ := ty.lst
      obtain ⟨f, g, z⟩ := key _ _ hr e3
      exact op_in_seq pins s σ H _ _ v u Q I rx ry ⟨a, vs, rfl, .inl (SqL.of ha), f, g, by rw [if_neg Bool.false_ne_true, z]; exact q⟩
    · obtain ⟨a, vs, rfl, ha, hr⟩ := ty.tup
      obtain ⟨f, g, z⟩ := key _ _ hr e3
      exact op_in_seq pins s σ H _ _ v u Q I rx ry ⟨a, vs, rfl, .inr ha, f, g, by rw [if_neg Bool.false_ne_true, z]; exact q⟩
  | notin =>
    have key : ∀ ds vs, RepDs X.K H μ ds vs → (inD dx ds).map (!·) = some c → flatV x = true ∧ vs.all flatV = true ∧ (!inV x vs) = c := fun ds vs r e => by
      obtain ⟨b, e', rfl⟩ := Option.map_eq_some_iff.mp e
      unfold inD at e'
      split at e'
      · rename_i hc
        have e' := Option.some.inj e'
        subst e'
        have rx' : RepD X.K H μ dx x := by
          cases tx with
          | dat h => exact h
          | live _ _ => cases hc.1
          | cst _ _ => cases hc.1
        obtain ⟨a, b⟩ := in_rep rx' hc.1 r hc.2
        exact ⟨flat_rep rx' hc.1, a, by rw [b]⟩
      · cases e'
    cases dy <;> simp only [cmpD] at e3 <;> try cases e3
    · obtain ⟨a, vs, rfl, ha, hr⟩ := ty.lst
      obtain ⟨f, g, z⟩ := key _ _ hr e3
      exact op_notIn_seq pins s σ H _ _ v u Q I rx ry ⟨a, vs, rfl, .inl (SqL.of ha), f, g, by rw [if_pos rfl, z]; exact q⟩
    · obtain ⟨a, vs, rfl, ha, hr⟩ := ty.tup
      obtain ⟨f, g, z⟩ := key _ _ hr e3
      exact op_notIn_seq pins s σ H _ _ v u Q I rx ry ⟨a, vs, rfl, .inr ha, f, g, by rw [if_pos rfl, z]; exact q⟩
theorem RepKs.get {K : PySem.W.Frag} {H : Hp} {μ : Mu} {kvs : List (Key × W)} {vs : List (Key × V)} {a : Addr} {k : Key} (r : RepKs K H μ kvs vs) (h : Rd H a (.dK vs)) : ∃ o, DGet H a (kV k) o ∧ o.isSome = (valW kvs k).isSome := by
  refine ⟨valV vs k, .inl ⟨vs, k, h, rfl, rfl⟩, ?_⟩
  rcases r.val k with ⟨e1, e2⟩ | ⟨w, v, e1, e2, _⟩ <;> rw [e1, e2] <;> rfl
theorem or_dicIn (hu : X.A.units + 1 < cLine) : OpR X (compareOp .In) (fun x y H Q => ∃ a o, y = .ref a ∧ DGet H a x o ∧ Q (.bl o.isSome) H) := by
  intro pins s σ H x y v u Q I rx ry h
  obtain ⟨a, o, rfl, g, q⟩ := h
  obtain rfl : u = Value.ref a := ry
  exact d_in hu I g rx fun s' I' => ⟨.bl o.isSome, H, I', rfl, q⟩
theorem or_dicNotIn (hu : X.A.units + 1 < cLine) : OpR X (compareOp .NotIn) (fun x y H Q => ∃ a o, y = .ref a ∧ DGet H a x o ∧ Q (.bl (!o.isSome)) H) := by
  intro pins s σ H x y v u Q I rx ry h
  obtain ⟨a, o, rfl, g, q⟩ := h
  obtain rfl : u = Value.ref a := ry
  exact d_notIn hu I g rx fun s' I' => ⟨.bl (!o.isSome), H, I', rfl, q⟩
theorem or_cmpW (hu : X.A.units + 64 < cLine) (op : CO) : OpR X (compareOp (cmpOf op)) (rOf X.K U fun S x y => cmpW S op x y) := by
  intro pins s σ H x y v u Q I rx ry h
  obtain ⟨S, μ, wx, wy, hS, hx, hy, hp⟩ := h
  have old : PostE X.K U H μ (cmpW0 S op wx wy) (VP X.K Q) → wpAny (model X.prog X.w) X.A (compareOp (cmpOf op) v u) (EP X pins σ Q) X.xe s := fun hp =>
    or_cmpW0 hu op pins s σ H x y v u Q I rx ry ⟨S, μ, wx, wy, hS, hx, hy, hp⟩
  cases op with
  | isin =>
    have hp : PostE X.K U H μ (match rdK S wy with | some kvs => inW S false wx kvs | none => cmpW0 S .isin wx wy) (VP X.K Q) := hp
    cases e : rdK S wy with
    | none => rw [e] at hp; exact old hp
    | some kvs =>
      rw [e] at hp
      replace hp : PostE X.K U H μ (inW S false wx kvs) (VP X.K Q) := hp
      unfold inW at hp
      split at hp
      · rename_i k ek
        obtain ⟨a, vs, rfl, hr, rk⟩ := obj_rdK hS hy e
        obtain rfl := keyW_rep hx ek
        obtain ⟨o, g, ho⟩ := rk.get (k := k) hr
        refine or_dicIn (by omega) pins s σ H _ _ v u Q I rx ry ⟨a, o, rfl, g, ?_⟩
        rw [ho]
        exact vp_here hS hp (.bl _)
      · exact hp.elim
  | notin =>
    have hp : PostE X.K U H μ (match rdK S wy with | some kvs => inW S true wx kvs | none => cmpW0 S .notin wx wy) (VP X.K Q) := hp
    cases e : rdK S wy with
    | none => rw [e] at hp; exact old hp
    | some kvs =>
      rw [e] at hp
      replace hp : PostE X.K U H μ (inW S true wx kvs) (VP X.K Q) := hp
      unfold inW at hp
      split at hp
      · rename_i k ek
        obtain ⟨a, vs, rfl, hr, rk⟩ := obj_rdK hS hy e
        obtain rfl := keyW_rep hx ek
        obtain ⟨o, g, ho⟩ := rk.get (k := k) hr
        refine or_dicNotIn (by omega) pins s σ H _ _ v u Q I rx ry ⟨a, o, rfl, g, ?_⟩
        rw [ho]
        exact vp_here hS hp (.bl _)
      · exact hp.elim
  | _ => exact old hp
end
end MP
set_option Elab.async false
set_option linter.all false
set_option maxRecDepth 100000
set_option maxHeartbeats 4000000
/-! sorted(a tuple of pairs of ints). -/
namespace MP
open PySem PySem.Spec PyProof.Rows L2
section
variable {prog : Program} {w : World} {A : Around} {E : Value → Shared → Prop} {s : Shared}
/-- the list that sorted works on, made of a tuple's items -/
def colHeap (h : Heap) (us : List Value) : Heap := (h.push (seqObj "list" #[] 0)).update h.objs.size (Obj.mapSeq (· ++ us.toArray))
theorem collect_tup {t : Addr} {o : Obj} {n : Nat} {us : List Value} {Q : List Value → Shared → Prop} (ho : s.heap.get? t = some o) (hc : o.cls = .type "tuple") (hd : o.data = .seq us.toArray n) (hz : us.length ≤ sizeLine) (q : Q us { s with heap := colHeap s.heap us }) :
    wpAny (model prog w) A (collect (.ref t)) Q E s := by
  have new : (s.heap.push (seqObj "list" #[] 0)).get? s.heap.objs.size = some (seqObj "list" #[] 0) := Heap.get?_push_size _ rfl
  have old := Heap.get?_push_of_some (seqObj "list" #[] 0) ho
  unfold collect
  refine wpAny_bind (wpAny_runValue (codeAny_builtin entry_proto_collect' ?_))
  refine wpAny_bind (m := newList []) (wpAny_newList (wpAny_pure ⟨Code.quiet_builtin _ (by decide +kernel), codeAny_builtin entry_list_iadd' ?_⟩))
  show wpAny _ _ (Builtin.List.listExtendWith (.ref s.heap.objs.size) (.ref t) _) _ _ { s with heap := s.heap.push (seqObj "list" #[] 0) }
  unfold Builtin.List.listExtendWith
  refine wpAny_bind (wpAny_typeOf ⟨o, old, hc⟩ ?_)
  have yes : (Value.type "tuple" == Value.type "tuple") = true := rfl
  rw [yes, Bool.or_true, if_pos rfl]
  refine wpAny_bind (listItems_at old hd (wpAny_bind (listItems_at new rfl ?_)))
  rw [if_neg (by simp)]
  refine wpAny_bind (listUpdate_at new rfl ?_ (Nat.zero_le _) (by simp only [Array.size_append, List.size_toArray, List.length_nil]; omega))
  refine wpAny_pure (wpAny_bind (wpAny_load (get?_update_seq new _) ?_))
  refine wpAny_pure ?_
  have e : ((#[] : Array Value) ++ us.toArray).toList = us := by simp
  rw [e]
  exact q
theorem sorted_tup {t : Addr} {o : Obj} {n : Nat} {us : List Value} {k : Value → Int × Int} {Q : Value → Shared → Prop} (ho : s.heap.get? t = some o) (hc : o.cls = .type "tuple") (hd : o.data = .seq us.toArray n) (hz : us.length ≤ sizeLine) (hp : ∀ v ∈ us, Srt.IsPair s.heap v (k v).1 (k v).2)
    (q : ∀ (h2 : Heap) (d : Addr) (out : List Value), SrtO.Srtd (fun v u => SrtO.lexB (k v) (k u)) out → SrtO.Stb (fun v u => SrtO.lexB (k v) (k u)) out us → (∀ b o, s.heap.get? b = some o → h2.get? b = some o) → s.heap.objs.size ≤ d → (∃ n, h2.get? d = some (seqObj "list" out.toArray n)) → Q (.ref d) { s with heap := h2 }) :
    wpAny (model prog w) A (call (.builtin "sorted") [.ref t]) Q E s := by
  refine Calls.call_function_entry kind_sorted plain_sorted entry_sorted (args_sorted1 _) ?_
  unfold Builtin.«sorted»
  refine wpAny_bind (m := checkCount "sorted" 1 1 _) (wpAny_pure (wpAny_bind (collect_tup ho hc hd hz (wpAny_bind (wpAny_newList ?_ hz)))))
  have sz : (colHeap s.heap us).objs.size = s.heap.objs.size + 1 := by
    unfold colHeap
    rw [Heap.size_update, size_push']
  have at1 : ((colHeap s.heap us).push (seqObj "list" us.toArray 0)).get? (s.heap.objs.size + 1) = some (seqObj "list" us.toArray 0) := by
    rw [← sz]; exact Heap.get?_push_size _ rfl
  have keep : ∀ b o, s.heap.get? b = some o → b ≠ s.heap.objs.size + 1 ∧ ((colHeap s.heap us).push (seqObj "list" us.toArray 0)).get? b = some o := fun b o z => by
    have lt := Heap.lt_size z
    refine ⟨Nat.ne_of_lt (Nat.lt_succ_of_lt lt), Heap.get?_push_of_some _ ?_⟩
    unfold colHeap
    rw [Heap.get?_update_ne _ _ _ _ (Nat.ne_of_lt lt)]
    exact Heap.get?_push_of_some _ z
  show wpAny _ _ _ _ _ { s with heap := (colHeap s.heap us).push (seqObj "list" us.toArray 0) }
  rw [sz]
  have srt : 2 ≤ us.length → SrtO.SortableO prog w A.in1.in1 { s with heap := (colHeap s.heap us).push (seqObj "list" us.toArray 0) } (s.heap.objs.size + 1) us fun v u => SrtO.lexB (k v) (k u) := fun h2 =>
    SrtO.pairs_sortableO (by omega) (fun v hv => (hp v hv).keeps fun b o e _ => (keep b o e).2) fun o e z => by
      rw [at1] at e
      cases e
      exact absurd (Value.type.inj z) (by decide)
  refine wpAny_bind (wpAny_holding (wpAny_call_entry slot_list_sort ⟨_, at1, rfl⟩ entry_list_sort (SrtO.list_sort_ord (SrtO.swo_lex k) at1 hz srt fun out h1 h2 => ⟨_, rfl, ?_⟩) (args_list_sort _)))
  exact wpAny_pure ⟨_, rfl, q _ _ out h1 h2 (fun b o e => sortedAll_old e) (Nat.le_succ _) (sortedAll_at s.heap us out.toArray)⟩
end
section
variable {X : Cx}
theorem cr_sortedT : CallR X (.builtin "sorted") (fun vs H Q => ∃ (a : Addr) (xs : List V) (k : V → Int × Int), vs = [V.ref a] ∧ SqT X.K H a xs ∧ (∀ x ∈ xs, ∃ t, x = V.ref t ∧ H t = some (.tup [.int (k x).1, .int (k x).2])) ∧
    ∀ ys p, SrtO.Srtd (ltP k) ys → SrtO.Stb (ltP k) ys xs → H p = none → Q (.ref p) (upd H p (.lst ys))) := by
  intro pins s σ H vs us Q I r h
  obtain ⟨a, xs, k, rfl, hs, hx, q⟩ := h
  obtain ⟨its, rv, ⟨o, ho, hc, n, hd⟩, hz⟩ := I.tuple hs
  obtain ⟨u, rfl, ru⟩ := vals1 r
  obtain rfl : u = Value.ref a := ru
  obtain ⟨e1, e2⟩ := refs_back rv fun x m => (hx x m).imp fun t z => z.1
  refine sorted_tup (k := fun u => k (backV u)) ho hc hd (by rw [← rv.length]; exact hz) (fun v hv => ?_) fun h2 d out s1 s2 keep hd2 at2 => ?_
  · obtain ⟨t, rfl⟩ := e2 v hv
    obtain ⟨b, eb, ht⟩ := hx (.ref t) (by rw [e1]; exact List.mem_map.mpr ⟨_, hv, rfl⟩)
    cases eb
    obtain ⟨_, its2, r2, o2, ho2, hc2, n2, hd2⟩ := I.hok _ _ ht
    obtain ⟨u1, u2, rfl, ⟨t1, rfl⟩, ⟨t2, rfl⟩⟩ := vals2 r2
    exact ⟨t, o2, t1, t2, n2, rfl, ho2, hc2, hd2⟩
  · have refs : ∀ u ∈ out, ∃ a, u = Value.ref a := fun u hu => e2 u (s2.perm.mem_iff.mp hu)
    have st : SrtO.Stb (ltP k) (out.map backV) xs := by
      rw [e1]; exact SrtO.Stb.map (ltP_swo k) backV s2
    obtain ⟨m, at2⟩ := at2
    refine ⟨.ref d, upd H d (.lst (out.map backV)), I.laid (t' := s.toks) keep hd2 ⟨?_, out, m, vals_back refs, at2⟩, rfl, q _ d (SrtO.srtd_map s1) st (I.hok.fresh hd2)⟩
    rw [st.len]
    exact hz
end
end MP
set_option Elab.async false
set_option linter.all false
set_option maxRecDepth 100000
set_option maxHeartbeats 4000000
/-! Subscripts, slices, built-ins, methods. -/
namespace MP
open PySem PySem.Spec PyProof.Rows L2

section
variable {K : PySem.W.Frag} {U : Wx} {H : Hp} {μ : Mu} {S : Sto}
theorem atI_rep {ds : List D} {vs : List V} (r : RepDs K H μ ds vs) {i : Int} {d : D} (h : atI ds i = some d) : ∃ v, atI vs i = some v ∧ RepD K H μ d v := by
  unfold atI at h ⊢
  rw [← r.length]
  cases e : ixN ds.length i with
  | none => rw [e] at h; cases h
  | some j =>
    rw [e] at h
    exact r.get h
theorem cut_rep {ds : List D} {vs : List V} (r : RepDs K H μ ds vs) (lo hi : Option Int) : RepDs K H μ (cutD ds lo hi) (cutV vs lo hi) := by
  unfold cutD cutV
  rw [← r.length]
  exact (r.drop _).take _
theorem rdDs_one {ws : List W} {vs : List V} {d : D} (h : rdDs S ws = some [d]) (r : RepWs K H μ ws vs) : ∃ w v, ws = [w] ∧ vs = [v] ∧ rdC S w = some d ∧ RepW K H μ w v := by
  cases r with
  | nil => cases h
  | @cons w v ws vs r t =>
    unfold rdDs at h
    cases e1 : rdC S w with
    | none => rw [e1] at h; cases h
    | some x =>
      cases e2 : rdDs S ws with
      | none => rw [e1, e2] at h; cases h
      | some xs =>
        rw [e1, e2] at h
        cases h
        cases t with
        | nil => exact ⟨w, v, rfl, rfl, e1, r⟩
        | @cons w' v' ws' vs' r' t' =>
          unfold rdDs at e2
          cases e3 : rdC S w' with
          | none => rw [e3] at e2; cases e2
          | some y =>
            cases e4 : rdDs S ws' with
            | none => rw [e3, e4] at e2; cases e2
            | some ys => rw [e3, e4] at e2; cases e2
theorem rdDs_two {ws : List W} {vs : List V} {d e : D} (h : rdDs S ws = some [d, e]) (r : RepWs K H μ ws vs) : ∃ w v w' v', ws = [w, w'] ∧ vs = [v, v'] ∧ rdC S w = some d ∧ rdC S w' = some e ∧ RepW K H μ w v ∧ RepW K H μ w' v' := by
  cases r with
  | nil => cases h
  | @cons w v ws vs r t =>
    unfold rdDs at h
    cases e1 : rdC S w with
    | none => rw [e1] at h; cases h
    | some x =>
      cases e2 : rdDs S ws with
      | none => rw [e1, e2] at h; cases h
      | some xs =>
        rw [e1, e2] at h
        cases h
        obtain ⟨w', v', rfl, rfl, q1, q2⟩ := rdDs_one e2 t
        exact ⟨w, v, w', v', rfl, rfl, e1, q1, r, q2⟩
theorem intsD_rep : ∀ {ds : List D} {vs : List V} {ns : List Int}, RepDs K H μ ds vs → intsD ds = some ns → vs = ns.map V.int ∧ ds = ns.map .int
  | _, _, _, .nil, h => by cases h; exact ⟨rfl, rfl⟩
  | d :: ds, v :: vs, ns, .cons r t, h => by
    cases d <;> simp only [intsD] at h <;> try cases h
    obtain ⟨ms, e, rfl⟩ := Option.map_eq_some_iff.mp h
    obtain ⟨a, b⟩ := intsD_rep t e
    cases r
    exact ⟨by rw [a] <;> rfl, by rw [b] <;> rfl⟩
theorem boolsD_rep : ∀ {ds : List D} {vs : List V} {ns : List Bool}, RepDs K H μ ds vs → boolsD ds = some ns → vs = ns.map V.bl
  | _, _, _, .nil, h => by cases h; rfl
  | d :: ds, v :: vs, ns, .cons r t, h => by
    cases d <;> simp only [boolsD] at h <;> try cases h
    obtain ⟨ms, e, rfl⟩ := Option.map_eq_some_iff.mp h
    have a := boolsD_rep t e
    cases r
    rw [a] <;> rfl
theorem intsD_map (ns : List Int) : intsD (ns.map .int) = some ns := by
  induction ns with
  | nil => rfl
  | cons n r ih => show (intsD (r.map .int)).map (n :: ·) = _; rw [ih]; rfl
theorem reps_ints : ∀ (ns : List Int), RepDs K H μ (ns.map .int) (ns.map V.int)
  | [] => .nil
  | n :: ns => .cons (.int n) (reps_ints ns)
theorem maxI_is : ∀ {ns : List Int} {m : Int}, maxI ns = some m → m ∈ ns ∧ ∀ y ∈ ns, y ≤ m
  | [x], m, h => by cases h; exact ⟨by simp, fun y hy => by simp at hy; subst hy; exact Int.le_refl _⟩
  | x :: z :: r, m, h => by
    have h : (maxI (z :: r)).map (fun m => if x ≤ m then m else x) = some m := h
    obtain ⟨k, e, e2⟩ := Option.map_eq_some_iff.mp h
    obtain ⟨a, b⟩ := maxI_is e
    by_cases hx : x ≤ k
    · rw [if_pos hx] at e2; subst e2
      exact ⟨List.mem_cons_of_mem _ a, fun y hy => (List.mem_cons.mp hy).elim (fun z => z ▸ hx) (b y)⟩
    · rw [if_neg hx] at e2; subst e2
      exact ⟨List.mem_cons_self, fun y hy => (List.mem_cons.mp hy).elim (fun z => z ▸ Int.le_refl _) fun z => by have := b y z; omega⟩
/-! sorting -/
theorem insI_perm (x : Int) : ∀ l : List Int, (insI x l).Perm (x :: l)
  | [] => List.Perm.refl _
  | y :: r => by
    unfold insI
    split
    · exact List.Perm.refl _
    · exact ((insI_perm x r).cons y).trans (List.Perm.swap x y r)
theorem sortI_perm : ∀ l : List Int, (sortI l).Perm l
  | [] => List.Perm.refl _
  | x :: r => (insI_perm x (sortI r)).trans ((sortI_perm r).cons x)
theorem insI_sorted (x : Int) : ∀ l : List Int, l.Pairwise (· ≤ ·) → (insI x l).Pairwise (· ≤ ·)
  | [], _ => by simp [insI]
  | y :: r, h => by
    rw [List.pairwise_cons] at h
    unfold insI
    split
    · rename_i hxy
      refine List.pairwise_cons.mpr ⟨fun z hz => ?_, List.pairwise_cons.mpr h⟩
      rcases List.mem_cons.mp hz with e | e
      · subst e; exact hxy
      · exact Int.le_trans hxy (h.1 z e)
    · rename_i hxy
      refine List.pairwise_cons.mpr ⟨fun z hz => ?_, insI_sorted x r h.2⟩
      rcases List.mem_cons.mp ((insI_perm x r).mem_iff.mp hz) with e | e
      · subst e; omega
      · exact h.1 z e
theorem sortI_sorted : ∀ l : List Int, (sortI l).Pairwise (· ≤ ·)
  | [] => List.Pairwise.nil
  | x :: r => insI_sorted x _ (sortI_sorted r)
theorem sorted_one {α : Type} {le : α → α → Prop} (anti : ∀ a b, le a b → le b a → a = b) : ∀ {l m : List α}, l.Perm m → l.Pairwise le → m.Pairwise le → l = m
  | [], m, p, _, _ => (List.Perm.nil_eq p)
  | x :: l, [], p, _, _ => by have := p.length_eq; simp at this
  | x :: l, y :: m, p, h, k => by
    rw [List.pairwise_cons] at h k
    have e : x = y := by
      rcases List.mem_cons.mp (p.mem_iff.mp List.mem_cons_self) with e | hx
      · exact e
      · rcases List.mem_cons.mp (p.mem_iff.mpr List.mem_cons_self) with e | hy
        · exact e.symm
        · exact anti _ _ (h.1 y hy) (k.1 x hx)
    subst e
    rw [sorted_one anti (List.Perm.cons_inv p) h.2 k.2]
theorem sortI_eq {l m : List Int} (p : m.Perm l) (h : m.Pairwise (· ≤ ·)) : m = sortI l :=
  sorted_one (le := fun a b : Int => a ≤ b) (fun a b => Int.le_antisymm) (p.trans (sortI_perm l).symm) h (sortI_sorted l)
theorem insP_perm (x : Int × Int) : ∀ l : List (Int × Int), (insP x l).Perm (x :: l)
  | [] => List.Perm.refl _
  | y :: r => by
    unfold insP
    split
    · exact List.Perm.refl _
    · exact ((insP_perm x r).cons y).trans (List.Perm.swap x y r)
theorem sortP_perm : ∀ l : List (Int × Int), (sortP l).Perm l
  | [] => List.Perm.refl _
  | x :: r => (insP_perm x (sortP r)).trans ((sortP_perm r).cons x)
theorem leP_iff {a b : Int × Int} : leP a b = true ↔ a.1 < b.1 ∨ (a.1 = b.1 ∧ a.2 ≤ b.2) := by simp [leP]
theorem leP_tot {a b : Int × Int} (h : ¬ leP a b = true) : leP b a = true := by rw [leP_iff] at *; omega
theorem leP_trans {a b c : Int × Int} (h : leP a b = true) (k : leP b c = true) : leP a c = true := by rw [leP_iff] at *; omega
theorem leP_anti {a b : Int × Int} (h : leP a b = true) (k : leP b a = true) : a = b := by
  rw [leP_iff] at *
  obtain ⟨a1, a2⟩ := a
  obtain ⟨b1, b2⟩ := b
  simp only at h k
  have h1 : a1 = b1 := by omega
  have h2 : a2 = b2 := by omega
  rw [h1, h2]
theorem insP_sorted (x : Int × Int) : ∀ l : List (Int × Int), l.Pairwise (leP · · = true) → (insP x l).Pairwise (leP · · = true)
  | [], _ => by simp [insP]
  | y :: r, h => by
    rw [List.pairwise_cons] at h
    unfold insP
    split
    · rename_i hxy
      refine List.pairwise_cons.mpr ⟨fun z hz => ?_, List.pairwise_cons.mpr h⟩
      rcases List.mem_cons.mp hz with e | e
      · subst e; exact hxy
      · exact leP_trans hxy (h.1 z e)
    · rename_i hxy
      refine List.pairwise_cons.mpr ⟨fun z hz => ?_, insP_sorted x r h.2⟩
      rcases List.mem_cons.mp ((insP_perm x r).mem_iff.mp hz) with e | e
      · subst e; exact leP_tot hxy
      · exact h.1 z e
theorem sortP_sorted : ∀ l : List (Int × Int), (sortP l).Pairwise (leP · · = true)
  | [] => List.Pairwise.nil
  | x :: r => insP_sorted x _ (sortP_sorted r)
theorem sortP_eq {l m : List (Int × Int)} (p : m.Perm l) (h : m.Pairwise (leP · · = true)) : m = sortP l :=
  sorted_one (le := fun a b => leP a b = true) (fun a b => leP_anti) (p.trans (sortP_perm l).symm) h (sortP_sorted l)
/-- the pair that lies at a value -/
noncomputable def pairAt (H : Hp) (x : V) : Int × Int := match x with
  | .ref t => match H t with
    | some (.tup [.int i, .int j]) => (i, j)
    | _ => (0, 0)
  | _ => (0, 0)
theorem pairsD_rep : ∀ {ds : List D} {vs : List V} {ps : List (Int × Int)}, RepDs K H μ ds vs → pairsD ds = some ps → ps = vs.map (pairAt H) ∧ ds = ps.map dPair ∧ ∀ x ∈ vs, ∃ t, x = V.ref t ∧ H t = some (.tup [.int (pairAt H x).1, .int (pairAt H x).2])
  | _, _, _, .nil, h => by cases h; exact ⟨rfl, rfl, fun x m => absurd m (by simp)⟩
  | d :: ds, v :: vs, ps, .cons r t, h => by
    unfold pairsD at h
    split at h
    · rename_i e
      exact absurd e (by simp)
    · rename_i i j r' e
      cases e
      obtain ⟨ms, e, rfl⟩ := Option.map_eq_some_iff.mp h
      obtain ⟨a, b, c⟩ := pairsD_rep t e
      cases r with
      | @tup ad us _ ha hs =>
        replace ha : H ad = some (.tup us) := ha
        have e3 : us = [.int i, .int j] := (intsD_rep hs (ns := [i, j]) rfl).1
        subst e3
        have ep : pairAt H (.ref ad) = (i, j) := by unfold pairAt; simp only [ha]
        refine ⟨by rw [List.map_cons, ep, a], by rw [List.map_cons, b] <;> rfl, fun x m => ?_⟩
        rcases List.mem_cons.mp m with e | m
        · subst e; exact ⟨ad, rfl, by rw [ep]; exact ha⟩
        · exact c x m
    · cases h
theorem reps_pairs {H' : Hp} {μ' : Mu} : ∀ {vs : List V}, (∀ x ∈ vs, ∃ t, x = V.ref t ∧ H' t = some (.tup [.int (pairAt H x).1, .int (pairAt H x).2])) → RepDs K H' μ' ((vs.map (pairAt H)).map dPair) vs
  | [], _ => .nil
  | v :: vs, h => by
    obtain ⟨t, rfl, e⟩ := h v List.mem_cons_self
    exact .cons (.tup e (.cons (.int _) (.cons (.int _) .nil))) (reps_pairs fun x m => h x (List.mem_cons_of_mem _ m))
def tyN : Ty5 → String
  | .int => "int" | .bool => "bool" | .str => "str" | .tuple => "tuple" | .list => "list"
theorem isi_ty (T : Ty5) {d : D} {v : V} (h : RepT K H μ d v) : ∃ t, TyX K H v t ∧ PySem.W.kitOne K t (.type (tyN T)) = some (isiD T d) := by
  have go : ∀ a : String, TyX K H v (.type a) → kitB a (tyN T) = some (isiD T d) → ∃ t, TyX K H v t ∧ PySem.W.kitOne K t (.type (tyN T)) = some (isiD T d) := fun a x y => ⟨_, x, kit_ty y⟩
  cases d with
  | none =>
    obtain rfl := h.non
    exact go "NoneType" (.base .non) (by cases T <;> decide +kernel)
  | bool x =>
    obtain rfl := h.bl
    exact go "bool" (.base (.bl x)) (by cases T <;> (first | (show kitB "bool" _ = some true; decide +kernel) | (show kitB "bool" _ = some false; decide +kernel)))
  | int x =>
    obtain rfl := h.int
    exact go "int" (.base (.int x)) (by cases T <;> (first | (show kitB "int" _ = some true; decide +kernel) | (show kitB "int" _ = some false; decide +kernel)))
  | str x =>
    obtain rfl := h.str
    exact go "str" (.base (.str x)) (by cases T <;> (first | (show kitB "str" _ = some true; decide +kernel) | (show kitB "str" _ = some false; decide +kernel)))
  | list x =>
    obtain ⟨a, vs, rfl, ha, _⟩ := h.lst
    exact go "list" (.base (.lst ha)) (by cases T <;> (first | (show kitB "list" _ = some true; decide +kernel) | (show kitB "list" _ = some false; decide +kernel)))
  | tuple x =>
    have : TyX K H v (.type "tuple") := by
      cases h with
      | dat h => cases h with
        | tup ha _ =>
          obtain ⟨u, e, q⟩ := ha.cases
          rcases q with rfl | ⟨o, rfl⟩
          · exact .base (.tup e)
          · exact .fTuple e
      | cst k _ => obtain ⟨o, its, n, h1, h2, _⟩ := k; exact .kTuple h1 h2
    exact go "tuple" this (by cases T <;> (first | (show kitB "tuple" _ = some true; decide +kernel) | (show kitB "tuple" _ = some false; decide +kernel)))
  | dict x => cases h with | dat h => cases h
end

section
variable {X : Cx} {U : Wx}
theorem ix_idxW0 : IxR X (rOf X.K U fun S x y => idxW0 S x y) := by
  intro va sl pins s σ H x y v u Q I rx ry h hsub
  obtain ⟨S, μ, wx, wy, hS, hx, hy, hp⟩ := h
  unfold idxW0 at hp
  cases e1 : rdC S wx with
  | none => simp only [e1] at hp; exact hp.elim
  | some dx =>
    cases wy with
    | dat dy =>
      simp only [e1] at hp
      have tx := rdC_rep hS hx e1
      cases e3 : idxD dx dy with
      | none => rw [e3] at hp; exact hp.elim
      | some d =>
        rw [e3] at hp
        have hy : RepD X.K H μ dy y := hy
        cases dx <;> cases dy <;> simp only [idxD] at e3 <;> try cases e3
        · cases hy
          obtain rfl := tx.str
          split at e3
          · obtain ⟨c, e4, rfl⟩ := Option.map_eq_some_iff.mp e3
            exact ix_str va sl pins s σ H _ _ v u Q I rx ry ⟨_, _, c, rfl, rfl, by assumption, e4, vp_here hS hp (.str _)⟩ hsub
          · cases e3
        · cases hy
          obtain ⟨a, vs, rfl, ha, hr⟩ := tx.lst
          obtain ⟨z, e4, rz⟩ := atI_rep hr e3
          exact ix_list va sl pins s σ H _ _ v u Q I rx ry ⟨_, _, _, z, rfl, rfl, SqL.of ha, e4, vp_here hS hp rz⟩ hsub
        · cases hy
          obtain ⟨a, vs, rfl, ha, hr⟩ := tx.tup
          obtain ⟨z, e4, rz⟩ := atI_rep hr e3
          exact ix_tup va sl pins s σ H _ _ v u Q I rx ry ⟨_, _, _, z, rfl, rfl, ha, e4, vp_here hS hp rz⟩ hsub
    | obj p => simp only [e1] at hp; exact hp.elim
    | scr p => simp only [e1] at hp; exact hp.elim
    | cst p => simp only [e1] at hp; exact hp.elim
    | cdi p => simp only [e1] at hp; exact hp.elim
    | fn _ _ => simp only [e1] at hp; exact hp.elim
/-- d[k] -/
theorem ix_dic (hu : X.A.units + 1 < cLine) : IxR X (fun x y H Q => ∃ a v, x = .ref a ∧ DGet H a y (some v) ∧ Q v H) := by
  intro value slice pins s σ H x y v u Q I rx ry h hs
  obtain ⟨a, z, rfl, g, q⟩ := h
  obtain rfl : v = Value.ref a := rx
  exact tail_any (dict_typeIs I g) PySem.F.slot_dict_getitem.lookup (d_getItem hu I g ry fun w' s3 I3 rw' => ⟨z, H, I3, rw', q⟩) hs
theorem ix_idxW (hu : X.A.units + 1 < cLine) : IxR X (rOf X.K U fun S x y => idxW S x y) := by
  intro va sl pins s σ H x y v u Q I rx ry h hsub
  obtain ⟨S, μ, wx, wy, hS, hx, hy, hp⟩ := h
  have hp : PostE X.K U H μ (match rdK S wx with | some kvs => (match keyW wy with | some k => opt (valW kvs k) S | none => .no) | none => idxW0 S wx wy) (VP X.K Q) := hp
  cases e : rdK S wx with
  | some kvs =>
    rw [e] at hp
    cases ek : keyW wy with
    | some k =>
      rw [ek] at hp
      obtain ⟨a, vs, rfl, hr, rk⟩ := obj_rdK hS hx e
      obtain rfl := keyW_rep hy ek
      replace hp : PostE X.K U H μ (opt (valW kvs k) S) (VP X.K Q) := hp
      rcases rk.val k with ⟨e1, e2⟩ | ⟨w, z, e1, e2, rw'⟩
      · rw [e1] at hp; exact hp.elim
      · rw [e1] at hp
        exact ix_dic hu va sl pins s σ H _ _ v u Q I rx ry ⟨a, z, rfl, .inl ⟨vs, k, hr, rfl, e2.symm⟩, vp_here hS hp rw'⟩ hsub
    | none => rw [ek] at hp; exact hp.elim
  | none =>
    rw [e] at hp
    exact ix_idxW0 va sl pins s σ H x y v u Q I rx ry ⟨S, μ, wx, wy, hS, hx, hy, hp⟩ hsub
def r3Of (K : PySem.W.Frag) (U : Wx) : V → Option Int → Option Int → Hp → VK → Prop := fun v lo hi H Q => ∃ S μ x, StoRep K H S μ ∧ RepW K H μ x v ∧ PostE K U H μ (slcW S x lo hi) (VP K Q)
theorem sl_slcW : SlR X (r3Of X.K U) := by
  intro pins s σ H x v vl vu lo hi sl Q I rx hs pl pu h
  obtain ⟨S, μ, wx, hS, hx, hp⟩ := h
  unfold slcW at hp
  cases e1 : rdD S wx with
  | none => simp only [e1] at hp; exact hp.elim
  | some dx =>
    simp only [e1] at hp
    have tx := rdD_rep hS hx e1
    cases dx with
    | list ds =>
      obtain ⟨a, vs, rfl, ha, hr⟩ := tx.lst
      exact sl_list pins s σ H _ v vl vu lo hi sl Q I rx hs pl pu ⟨_, _, rfl, SqL.of ha, vp_lst hS hp (cut_rep hr lo hi)⟩
    | tuple ds =>
      obtain ⟨a, vs, rfl, ha, hr⟩ := tx.tup
      refine sl_tupX pins s σ H _ v vl vu lo hi sl Q I rx hs pl pu ⟨_, _, rfl, ha, fun e => ?_, fun _ => vp_tup hS hp (cut_rep hr lo hi)⟩
      have ed : cutD ds lo hi = ds := by
        rw [← hr.length] at e
        unfold cutD
        rw [e.1, e.2]
        simp
      have hp : PostE X.K U H μ (.ok (.dat (.tuple (cutD ds lo hi))) S) (VP X.K Q) := hp
      rw [ed] at hp
      exact vp_here hS hp (rdD_tup hx e1)
    | _ => exact hp.elim
def biF : BI → Value
  | .len => .builtin "len" | .abs => .builtin "abs" | .min => .builtin "min" | .max => .builtin "max" | .int => .type "int" | .list => .type "list" | .tuple => .type "tuple"
  | .sum => .builtin "sum" | .sorted => .builtin "sorted" | .all => .builtin "all" | .any => .builtin "any" | .dict => .type "dict" | .repr => .builtin "repr"
theorem mk_dat {K : PySem.W.Frag} {H : Hp} {μ : Mu} {m : Bool} {d : D} {S : Sto} {Q : VK} {v : V} (hS : StoRep K H S μ) (hp : PostE K U H μ (mk m d S) (VP K Q)) (r : RepD K H μ d v) (nl : ∀ ds, d ≠ .list ds) : Q v H := by
  cases m with
  | false => exact vp_here hS hp r
  | true =>
    cases d with
    | list ds => exact absurd rfl (nl ds)
    | _ => exact hp.elim
theorem mk_tup {K : PySem.W.Frag} {H : Hp} {μ : Mu} {m : Bool} {ds : List D} {vs : List V} {S : Sto} {Q : VK} (hS : StoRep K H S μ) (hp : PostE K U H μ (mk m (.tuple ds) S) (VP K Q)) (r : RepDs K H μ ds vs) : NewT H Q vs := by
  cases m with
  | false => exact vp_tup hS hp r
  | true => exact hp.elim
theorem call_biW0 (hc : X.calm = true) (b : BI) (m : Bool) {pins : List (Addr × Obj)} {s : Shared} {σ : L2.St} {H : Hp} {vs : List V} {us : List Value} {Q : VK} (I : Inv X pins σ H s) (r : Vals vs us) {S : Sto} {μ : Mu} {ws : List W} (hS : StoRep X.K H S μ) (hw : RepWs X.K H μ ws vs)
    (hnc : ∀ ds, ¬ (b = .tuple ∧ ws = [.cst ds])) (hp : PostE X.K U H μ (biW0 S b m ws) (VP X.K Q)) : wpAny (model X.prog X.w) X.A (call (biF b) us) (EP X pins σ Q) X.xe s := by
  unfold biW0 at hp
  cases e1 : rdDs S ws with
  | none => simp only [e1] at hp; exact hp.elim
  | some ds =>
    simp only [e1] at hp
    cases e2 : biD b ds with
    | none => simp only [e2] at hp; exact hp.elim
    | some d =>
      simp only [e2] at hp
      unfold biD at e2
      split at e2
      · obtain ⟨w, v, rfl, rfl, q1, q2⟩ := rdDs_one e1 hw
        obtain ⟨a, xs, rfl, ha, hr⟩ := (rdC_rep hS q2 q1).lst
        cases e2
        exact call_len_seq pins s σ H _ us Q I r ⟨_, _, rfl, .inl (SqL.of ha), by rw [← hr.length]; exact mk_dat hS hp (.int _) (fun _ z => by cases z)⟩
      · obtain ⟨w, v, rfl, rfl, q1, q2⟩ := rdDs_one e1 hw
        obtain ⟨a, xs, rfl, ha, hr⟩ := (rdC_rep hS q2 q1).tup
        cases e2
        exact call_len_seq pins s σ H _ us Q I r ⟨_, _, rfl, .inr ha, by rw [← hr.length]; exact mk_dat hS hp (.int _) (fun _ z => by cases z)⟩
      · obtain ⟨w, v, rfl, rfl, q1, q2⟩ := rdDs_one e1 hw
        obtain rfl := (rdC_rep hS q2 q1).str
        split at e2
        · cases e2
          exact call_len_str pins s σ H _ us Q I r ⟨_, rfl, by assumption, mk_dat hS hp (.int _) (fun _ z => by cases z)⟩
        · cases e2
      · obtain ⟨w, v, rfl, rfl, q1, q2⟩ := rdDs_one e1 hw
        obtain rfl := (rdC_rep hS q2 q1).int
        cases e2
        exact call_abs pins s σ H _ us Q I r ⟨_, rfl, mk_dat hS hp (.int _) (fun _ z => by cases z)⟩
      · obtain ⟨w, v, w', v', rfl, rfl, q1, q2, q3, q4⟩ := rdDs_two e1 hw
        obtain rfl := (rdC_rep hS q3 q1).int
        obtain rfl := (rdC_rep hS q4 q2).int
        cases e2
        exact call_min2 hc pins s σ H _ us Q I r ⟨_, _, rfl, mk_dat hS hp (.int _) (fun _ z => by cases z)⟩
      · obtain ⟨w, v, w', v', rfl, rfl, q1, q2, q3, q4⟩ := rdDs_two e1 hw
        obtain rfl := (rdC_rep hS q3 q1).int
        obtain rfl := (rdC_rep hS q4 q2).int
        cases e2
        exact call_max2 hc pins s σ H _ us Q I r ⟨_, _, rfl, mk_dat hS hp (.int _) (fun _ z => by cases z)⟩
      · obtain ⟨w, v, rfl, rfl, q1, q2⟩ := rdDs_one e1 hw
        obtain ⟨a, xs, rfl, ha, hr⟩ := (rdC_rep hS q2 q1).lst
        split at e2
        · rename_i ns e3
          obtain ⟨k, e4, rfl⟩ := Option.map_eq_some_iff.mp e2
          obtain ⟨rfl, _⟩ := intsD_rep hr e3
          obtain ⟨m1, m2⟩ := maxI_is e4
          refine cr_max hc pins s σ H _ us Q I r ⟨_, ns, rfl, SqL.of ha, List.length_pos_of_mem m1, fun m' h1 h2 => ?_⟩
          have : m' = k := Int.le_antisymm (m2 m' h1) (h2 k m1)
          subst this
          exact mk_dat hS hp (.int _) (fun _ z => by cases z)
        · cases e2
      · obtain ⟨w, v, rfl, rfl, q1, q2⟩ := rdDs_one e1 hw
        obtain rfl := (rdC_rep hS q2 q1).int
        cases e2
        exact call_int1 pins s σ H _ us Q I r (.inl ⟨_, rfl, mk_dat hS hp (.int _) (fun _ z => by cases z)⟩)
      · obtain ⟨w, v, rfl, rfl, q1, q2⟩ := rdDs_one e1 hw
        obtain rfl := (rdC_rep hS q2 q1).bl
        cases e2
        exact call_int1 pins s σ H _ us Q I r (.inr ⟨_, rfl, mk_dat hS hp (.int _) (fun _ z => by cases z)⟩)
      · obtain ⟨w, v, rfl, rfl, q1, q2⟩ := rdDs_one e1 hw
        obtain ⟨a, xs, rfl, ha, hr⟩ := (rdC_rep hS q2 q1).lst
        cases e2
        exact call_list_of pins s σ H _ us Q I r ⟨_, _, rfl, .inl (SqL.of ha), vp_mk hS hp hr⟩
      · obtain ⟨w, v, rfl, rfl, q1, q2⟩ := rdDs_one e1 hw
        obtain ⟨a, xs, rfl, ha, hr⟩ := (rdC_rep hS q2 q1).tup
        cases e2
        exact call_list_of pins s σ H _ us Q I r ⟨_, _, rfl, .inr ha, vp_mk hS hp hr⟩
      · obtain ⟨w, v, rfl, rfl, q1, q2⟩ := rdDs_one e1 hw
        obtain ⟨a, xs, rfl, ha, hr⟩ := (rdC_rep hS q2 q1).lst
        cases e2
        exact call_tupleX pins s σ H _ us Q I r ⟨_, _, rfl, .inl ⟨SqL.of ha, mk_tup hS hp hr⟩⟩
      · obtain ⟨w, v, rfl, rfl, q1, q2⟩ := rdDs_one e1 hw
        cases w with
        | dat d' =>
          have tt := rdC_rep hS q2 q1
          obtain ⟨a, xs, rfl, ha, hr⟩ := tt.tup
          cases e2
          cases q1
          exact call_tupleX pins s σ H _ us Q I r ⟨_, _, rfl, .inr ⟨ha, mk_dat hS hp q2 (fun _ z => by cases z)⟩⟩
        | cst d' => exact absurd ⟨rfl, rfl⟩ (hnc _)
        | scr d' => cases q1
        | cdi d' => cases q1
        | fn _ _ => cases q1
        | obj p =>
          have q1 : obD S[p]? = _ := q1
          unfold obD at q1
          split at q1 <;> cases q1
      · obtain ⟨w, v, rfl, rfl, q1, q2⟩ := rdDs_one e1 hw
        obtain ⟨a, xs, rfl, ha, hr⟩ := (rdC_rep hS q2 q1).lst
        obtain ⟨ns, e3, rfl⟩ := Option.map_eq_some_iff.mp e2
        obtain ⟨rfl, _⟩ := intsD_rep hr e3
        exact cr_sum hc pins s σ H _ us Q I r ⟨_, ns, rfl, SqL.of ha, mk_dat hS hp (.int _) (fun _ z => by cases z)⟩
      · obtain ⟨w, v, rfl, rfl, q1, q2⟩ := rdDs_one e1 hw
        obtain ⟨a, xs, rfl, ha, hr⟩ := (rdC_rep hS q2 q1).lst
        obtain ⟨ns, e3, rfl⟩ := Option.map_eq_some_iff.mp e2
        obtain rfl := boolsD_rep hr e3
        exact cr_all hc pins s σ H _ us Q I r ⟨_, ns, rfl, SqL.of ha, mk_dat hS hp (.bl _) (fun _ z => by cases z)⟩
      · obtain ⟨w, v, rfl, rfl, q1, q2⟩ := rdDs_one e1 hw
        obtain ⟨a, xs, rfl, ha, hr⟩ := (rdC_rep hS q2 q1).lst
        obtain ⟨ns, e3, rfl⟩ := Option.map_eq_some_iff.mp e2
        obtain rfl := boolsD_rep hr e3
        exact cr_any hc pins s σ H _ us Q I r ⟨_, ns, rfl, SqL.of ha, mk_dat hS hp (.bl _) (fun _ z => by cases z)⟩
      · obtain ⟨w, v, rfl, rfl, q1, q2⟩ := rdDs_one e1 hw
        obtain ⟨a, xs, rfl, ha, hr⟩ := (rdC_rep hS q2 q1).lst
        split at e2
        · rename_i ns e3
          cases e2
          obtain ⟨rfl, _⟩ := intsD_rep hr e3
          refine cr_sortedI pins s σ H _ us Q I r ⟨_, ns, rfl, SqL.of ha, fun ns' p h1 h2 hn => ?_⟩
          rw [sortI_eq h1 h2]
          exact vp_mk hS hp (reps_ints _) p hn
        · split at e2
          · rename_i ps e3
            cases e2
            obtain ⟨ep, _, hall⟩ := pairsD_rep hr e3
            refine cr_sortedPO pins s σ H _ us Q I r ⟨_, xs, pairAt H, rfl, SqL.of ha, hall, fun ys p h1 h2 hn => ?_⟩
            have hys : ∀ x ∈ ys, ∃ t, x = V.ref t ∧ H t = some (.tup [.int (pairAt H x).1, .int (pairAt H x).2]) := fun x m => hall x (h2.perm.mem_iff.mp m)
            have e4 : ys.map (pairAt H) = sortP ps := by
              rw [ep]
              refine sortP_eq (h2.perm.map _) (List.pairwise_map.mpr (h1.imp fun {x y} h => ?_))
              have := SrtO.lexB_no.mp h
              rw [leP_iff]
              omega
            have := reps_pairs (K := X.K) (H := H) (μ' := μ) hys
            rw [e4] at this
            exact vp_mk hS hp this p hn
          · cases e2
      · obtain ⟨w, v, rfl, rfl, q1, q2⟩ := rdDs_one e1 hw
        obtain ⟨a, xs, rfl, ha, hr⟩ := (rdC_rep hS q2 q1).tup
        split at e2
        · rename_i ps e3
          cases e2
          obtain ⟨ep, _, hall⟩ := pairsD_rep hr e3
          refine cr_sortedT pins s σ H _ us Q I r ⟨_, xs, pairAt H, rfl, ha, hall, fun ys p h1 h2 hn => ?_⟩
          have hys : ∀ x ∈ ys, ∃ t, x = V.ref t ∧ H t = some (.tup [.int (pairAt H x).1, .int (pairAt H x).2]) := fun x m => hall x (h2.perm.mem_iff.mp m)
          have e4 : ys.map (pairAt H) = sortP ps := by
            rw [ep]
            refine sortP_eq (h2.perm.map _) (List.pairwise_map.mpr (h1.imp fun {x y} h => ?_))
            have := SrtO.lexB_no.mp h
            rw [leP_iff]
            omega
          have := reps_pairs (K := X.K) (H := H) (μ' := μ) hys
          rw [e4] at this
          exact vp_mk hS hp this p hn
        · cases e2
      · cases e2
/-! ### len, list of a dict; dict(..) -/
theorem cr_lenK : CallR X (.builtin "len") (fun xs H Q => ∃ a kvs, xs = [V.ref a] ∧ Rd H a (.dK kvs) ∧ Q (.int kvs.length) H) := by
  intro pins s σ H xs us Q I r h
  obtain ⟨a, kvs, rfl, ha, q⟩ := h
  obtain ⟨u, rfl, ru⟩ := vals1 r
  cases ru
  exact d_len I ha fun t s' I' => ⟨.int kvs.length, H, I', ⟨t, rfl⟩, q⟩
theorem cr_dictC : CallR X (.type "dict") (fun xs H Q => ∃ a kvs, xs = [V.ref a] ∧ Rd H a (.dK kvs) ∧ ∀ p, H p = none → Q (.ref p) (upd H p (.dK kvs))) := by
  intro pins s σ H xs us Q I r h
  obtain ⟨a, kvs, rfl, ha, q⟩ := h
  obtain ⟨u, rfl, ru⟩ := vals1 r
  cases ru
  exact d_copyOf I ha fun p s' hp I' => ⟨.ref p, _, I', rfl, q p hp⟩
theorem pairs_of2 {pins : List (Addr × Obj)} {σ : L2.St} {H : Hp} {s : Shared} (I : Inv X pins σ H s) : ∀ {ps : List Addr} {kvs : List (Key × V)}, Paired (fun p kv => SqT X.K H p [kV kv.1, kv.2]) ps kvs →
    ∃ (prs : List (Key × Value)) (qs : List (Value × Value)), KV kvs prs ∧ qs.length = ps.length ∧ prs.length = ps.length ∧ ∀ (j : Nat) (k v : Value), qs[j]? = some (k, v) → ∃ (b : Addr) (key : Key), ps[j]? = some b ∧ IsTup s.heap b #[k, v] ∧ prs[j]? = some (key, v) ∧ (mixKind X.prog X.w).is key k = true
  | _, _, .nil => ⟨[], [], .nil, rfl, rfl, fun j k v e => by simp at e⟩
  | _, _, .cons (a := p) (b := kv) h t => by
    obtain ⟨prs, qs, r, l1, l2, hp⟩ := pairs_of2 I t
    obtain ⟨its, rv, ht, _⟩ := I.tuple h
    obtain ⟨u, y, rfl, ru, ry⟩ := vals2 rv
    refine ⟨(kv.1, y) :: prs, (u, y) :: qs, .cons ⟨rfl, ry⟩ r, congrArg (· + 1) l1, congrArg (· + 1) l2, fun j k v e => ?_⟩
    cases j with
    | zero =>
      cases (show (u, y) = (k, v) from Option.some.inj e)
      exact ⟨p, kv.1, rfl, ht, rfl, kV_is ru⟩
    | succ j => exact hp j k v (by simpa using e)
/-- dict(xs) of a tuple of pairs -/
theorem cr_dictT (hcalm : X.calm = true) : CallR X (.type "dict") (fun xs H Q => ∃ (a : Addr) (o : Obj) (ps : List Addr) (kvs : List (Key × V)), xs = [.ref a] ∧ o.dict = none ∧ H a = some (.frz o (.tup (ps.map V.ref))) ∧ Paired (fun p kv => SqT X.K H p [kV kv.1, kv.2]) ps kvs ∧
    ∀ p, H p = none → Q (.ref p) (upd H p (.dK (mergeK [] kvs)))) := by
  intro pins s σ H xs us Q I r q
  obtain ⟨a, o, ps, kvs, rfl, hod, hq, hp, q⟩ := q
  obtain ⟨u, rfl, ru⟩ := vals1 r
  obtain rfl : u = Value.ref a := ru
  obtain ⟨hget, hz, its, rv, o', ho', hc, n, hd⟩ := I.hok a _ hq
  rw [hget] at ho'
  cases ho'
  obtain rfl := refs_at rv
  rw [List.length_map] at hz
  obtain ⟨prs, qs, rel, l1, l2, hpr⟩ := pairs_of2 I hp
  have items : PairItems s.heap (ps.map Value.ref).toArray (fun j => ps.getD j 0) qs := ⟨by simp [l1], fun j k v e => by
    obtain ⟨b, key, e1, e2, _, _⟩ := hpr j k v e
    have eb : ps.getD j 0 = b := by simp [List.getD, e1]
    refine ⟨by simp [e1], .inl ?_⟩
    show Heap.IsTuple s.heap (ps.getD j 0) #[k, v]
    rw [eb]
    obtain ⟨ob, h1, h2, m, h3⟩ := e2
    exact ⟨ob, h1, h2, m, h3⟩⟩
  refine PySem.call_dict_pairs (knd := mixKind X.prog X.w) (kvs := prs) (PairArg.tuple a _ _ qs) (I.ok.hd hcalm) ⟨⟨o, n, hget, hc, hod, hd⟩, items⟩ ⟨by rw [l2, l1], fun i key v e => ?_⟩ (by rw [l1]; exact hz) fun h' tk hd' kp => ?_
  · obtain ⟨_, k, _, _, e3, e4⟩ := hpr i key v e
    exact ⟨k, e3, e4⟩
  · have hm : (s.heap.objs.size == sysModules) = false := beq_eq_false_iff_ne.mpr (Nat.ne_of_gt I.big)
    have hlen : (mergeK [] kvs).length ≤ sizeLine := by
      have h1 := length_mergeK kvs []
      have h2 := rel.length
      simp only [List.length_nil] at h1
      omega
    exact ⟨.ref s.heap.objs.size, _, I.laid (t' := tk) (o := .dK (mergeK [] kvs)) (fun b ob e => kp b ob (by simp) e) (Nat.le_refl _) ⟨hlen, hm, merged [] prs, KV.merge rel .nil, hd'⟩, rfl, q _ (I.hok.fresh (Nat.le_refl _))⟩
/-- data that are pairs -/
theorem pairsK_rep {K : PySem.W.Frag} {H : Hp} {μ : Mu} : ∀ {ds : List D} {vs : List V} {kvs : List (Key × W)}, RepDs K H μ ds vs → pairsK ds = some kvs → ∃ (ps : List Addr) (us : List (Key × V)), vs = ps.map V.ref ∧ Paired (fun p kv => SqT K H p [kV kv.1, kv.2]) ps us ∧ RepKs K H μ kvs us
  | [], _, _, .nil, e => by cases e; exact ⟨[], [], rfl, .nil, .nil⟩
  | d :: ds, _, kvs, .cons r t, e => by
    unfold pairsK at e
    split at e
    · rename_i h; cases h
    · rename_i x y r' h
      cases h
      split at e
      · rename_i k ks e1 e2
        cases e
        obtain ⟨ps, us, rfl, q1, q2⟩ := pairsK_rep t e2
        cases r with
        | @tup a ws _ ha hs =>
          cases hs with
          | @cons _ vx _ vs' rx hs =>
            cases hs with
            | @cons _ vy _ _ ry hs =>
              cases hs
              obtain rfl := key_rep rx e1
              exact ⟨a :: ps, (k, vy) :: us, rfl, .cons ha.sq q1, .cons ⟨rfl, ry⟩ q2⟩
      · cases e
    · cases e
theorem cr_dictW (hc : X.calm = true) {pins : List (Addr × Obj)} {s : Shared} {σ : L2.St} {H : Hp} {v : V} {us : List Value} {Q : VK} (I : Inv X pins σ H s) (r : Vals [v] us) {S : Sto} {μ : Mu} {w : W} (hS : StoRep X.K H S μ) (hw : RepW X.K H μ w v)
    (hp : PostE X.K U H μ (dictW S w) (VP X.K Q)) : wpAny (model X.prog X.w) X.A (call (.type "dict") us) (EP X pins σ Q) X.xe s := by
  replace hp : PostE X.K U H μ (match rdK S w with | some kvs => .ok (.obj S.length) (S ++ [.dic kvs]) | none => match rdD S w with | some (.list ds) => dictP S ds | some (.tuple ds) => dictP S ds | _ => .no) (VP X.K Q) := hp
  cases e : rdK S w with
  | some kvs =>
    rw [e] at hp
    obtain ⟨a, vs, rfl, hr, rk⟩ := obj_rdK hS hw e
    exact cr_dictC pins s σ H _ us Q I r ⟨a, vs, rfl, hr, vp_dic hS hp rk⟩
  | none =>
    rw [e] at hp
    replace hp : PostE X.K U H μ (match rdD S w with | some (.list ds) => dictP S ds | some (.tuple ds) => dictP S ds | _ => .no) (VP X.K Q) := hp
    cases e1 : rdD S w with
    | none => rw [e1] at hp; exact hp.elim
    | some d =>
      rw [e1] at hp
      have t := rdD_rep hS hw e1
      cases d with
      | list ds =>
        replace hp : PostE X.K U H μ (dictP S ds) (VP X.K Q) := hp
        unfold dictP at hp
        split at hp
        · rename_i kvs e2
          split at hp
          · obtain ⟨a, xs, rfl, ha, hr⟩ := t.lst
            obtain ⟨ps, zs, rfl, q1, q2⟩ := pairsK_rep hr e2
            exact call_dictP hc pins s σ H _ us Q I r ⟨a, ps, zs, rfl, SqL.of ha, q1, vp_dic hS hp (RepKs.merge q2 .nil)⟩
          · exact hp.elim
        · exact hp.elim
      | tuple ds =>
        replace hp : PostE X.K U H μ (dictP S ds) (VP X.K Q) := hp
        unfold dictP at hp
        split at hp
        · rename_i kvs e2
          split at hp
          · have h := rdD_tup hw e1
            cases h with
              | @tup a vs _ ha hr =>
                have hb : isPr ds = false := by
                  cases hq : isPr ds with
                  | false => rfl
                  | true =>
                    unfold isPr at hq
                    split at hq
                    · unfold pairsK at e2; cases e2
                    · cases hq
                rw [hb] at ha
                obtain ⟨o, ho, ha⟩ := ha
                obtain ⟨ps, zs, rfl, q1, q2⟩ := pairsK_rep hr e2
                exact cr_dictT hc pins s σ H _ us Q I r ⟨a, o, ps, zs, rfl, ho, ha, q1, vp_dic hS hp (RepKs.merge q2 .nil)⟩
          · exact hp.elim
        · exact hp.elim
      | _ => exact hp.elim
theorem cr_biW (hc : X.calm = true) (b : BI) (m : Bool) (hnr : b ≠ .repr) : CallR X (biF b) (rOfL X.K U fun S ws => biW S b m ws) := by
  intro pins s σ H vs us Q I r h
  obtain ⟨S, μ, ws, hS, hw, hp⟩ := h
  have old : (∀ ds, ¬ (b = .tuple ∧ ws = [.cst ds])) → PostE X.K U H μ (biW0 S b m ws) (VP X.K Q) → wpAny (model X.prog X.w) X.A (call (biF b) us) (EP X pins σ Q) X.xe s := fun hnc hp => call_biW0 hc b m I r hS hw hnc hp
  cases b with
  | tuple =>
    have hnc : ∀ ds, ¬ (BI.tuple = .tuple ∧ ws = [.cst ds]) := fun ds z => by
      obtain ⟨z1, rfl⟩ := z
      exact hp
    refine old hnc ?_
    have e : biW S .tuple m ws = biW0 S .tuple m ws := by
      cases ws with
      | nil => rfl
      | cons w ws => cases ws with
        | cons _ _ => cases w <;> rfl
        | nil => cases w with
          | cst ds => exact absurd ⟨rfl, rfl⟩ (hnc ds)
          | _ => rfl
    rw [← e]
    exact hp
  | len =>
    cases ws with
    | nil => exact old (fun _ z => by cases z.1) hp
    | cons w ws =>
      cases ws with
      | cons _ _ => exact old (fun _ z => by cases z.1) hp
      | nil =>
        replace hp : PostE X.K U H μ (match rdK S w with | some kvs => .ok (.dat (.int kvs.length)) S | none => biW0 S .len m [w]) (VP X.K Q) := hp
        cases e : rdK S w with
        | none => rw [e] at hp; exact old (fun _ z => by cases z.1) hp
        | some kvs =>
          rw [e] at hp
          cases hw with
          | cons rw' t =>
            cases t
            obtain ⟨a, us', rfl, hr, rk⟩ := obj_rdK hS rw' e
            exact cr_lenK pins s σ H _ us Q I r ⟨a, us', rfl, hr, by rw [← rk.len]; exact vp_here hS hp (.int _)⟩
  | list =>
    cases ws with
    | nil => exact old (fun _ z => by cases z.1) hp
    | cons w ws =>
      cases ws with
      | cons _ _ => exact old (fun _ z => by cases z.1) hp
      | nil =>
        replace hp : PostE X.K U H μ (match rdK S w with | some kvs => mk m (.list (kvs.map fun kv => dKey kv.1)) S | none => biW0 S .list m [w]) (VP X.K Q) := hp
        cases e : rdK S w with
        | none => rw [e] at hp; exact old (fun _ z => by cases z.1) hp
        | some kvs =>
          rw [e] at hp
          cases hw with
          | cons rw' t =>
            cases t
            obtain ⟨a, us', rfl, hr, rk⟩ := obj_rdK hS rw' e
            exact call_listD hc pins s σ H _ us Q I r ⟨a, us', rfl, hr, vp_mk hS hp (keys_rep rk)⟩
  | dict =>
    cases ws with
    | nil => exact old (fun _ z => by cases z.1) hp
    | cons w ws =>
      cases ws with
      | cons _ _ => exact old (fun _ z => by cases z.1) hp
      | nil =>
        cases hw with
        | cons rw' t =>
          cases t
          exact cr_dictW hc I r hS rw' hp
  | repr => exact absurd rfl hnr
  | _ => exact old (fun _ z => by cases z.1) hp
/-- repr, where no guard is open -/
theorem cr_reprW (ng : X.A.guards = some []) (hu : X.A.units + 65 < cLine) (m : Bool) : CallR X (.builtin "repr") (rOfL X.K U fun S ws => biW S .repr m ws) := by
  intro pins s σ H vs us Q I r h
  obtain ⟨S, μ, ws, hS, hw, hp⟩ := h
  have none' : ∀ ws, biW0 S .repr m ws = .no := fun ws => by
    unfold biW0
    cases rdDs S ws <;> rfl
  have one : ∀ w : W, ws = [w] → wpAny (model X.prog X.w) X.A (call (.builtin "repr") us) (EP X pins σ Q) X.xe s := by
    rintro w rfl
    replace hp : PostE X.K U H μ (shW S w) (VP X.K Q) := hp
    unfold shW at hp
    obtain ⟨v, rfl, rv⟩ : ∃ v, vs = [v] ∧ RepW X.K H μ w v := by
      cases hw with
      | cons a t => cases t; exact ⟨_, rfl, a⟩
    obtain ⟨u, rfl, ru⟩ := vals1 r
    cases e : rdC S w with
    | none => simp only [e] at hp; exact hp.elim
    | some d =>
      simp only [e] at hp
      split at hp
      · rename_i c
        obtain ⟨c1, c2, c3, c4⟩ := c
        have t := rdC_rep hS rv e
        obtain ⟨a, rfl⟩ : ∃ a, v = .ref a := by
          cases d with
          | list ds => obtain ⟨a, _, rfl, _⟩ := t.lst; exact ⟨a, rfl⟩
          | tuple ds => obtain ⟨a, _, rfl, _⟩ := t.tup; exact ⟨a, rfl⟩
          | _ => cases c1
        obtain rfl : u = Value.ref a := ru
        obtain ⟨as, rd⟩ := Dp.reads I d _ _ t.dp (show RelV (.ref a) (.ref a) from rfl)
        have dp : d.depth ≤ 64 := by
          have z : (PyData.canLay0 d && decide (PyData.depth d ≤ 64) && decide (PyData.weight d ≤ 2 ^ 20)) = true := c2
          simp only [Bool.and_eq_true, decide_eq_true_eq] at z
          exact z.1.2
        refine repr_of_reads' rd c3 (PyData.noDict_hsm (PyData.hasDict_of_layable c2)) ng (by omega) (fun _ _ z => z) (fun h2 u2 tk keep => ?_) c4
        exact ⟨.str d.shown, H, I.kept (t' := tk) keep, ⟨u2, rfl⟩, vp_here hS hp (.str _)⟩
      · exact hp.elim
  cases ws with
  | nil => exact hp.elim
  | cons w ws =>
    cases ws with
    | nil => exact one w rfl
    | cons y ys =>
      replace hp : PostE X.K U H μ (biW0 S .repr m (w :: y :: ys)) (VP X.K Q) := hp
      rw [none'] at hp
      exact hp.elim
/-! ### methods -/
def mtId : MT → String
  | .append => "list.append" | .pop => "list.pop" | .popAt => "list.pop" | .count => "list.count" | .index => "list.index" | .extend => "list.extend"
def rMOf (K : PySem.W.Frag) (U : Wx) (m : MT) : V → List V → Hp → VK → Prop := fun v vs H Q => ∃ S μ x ws, StoRep K H S μ ∧ RepW K H μ x v ∧ RepWs K H μ ws vs ∧ PostE K U H μ (mthW S m x ws) (VP K Q)
theorem ws_nil {K : PySem.W.Frag} {H : Hp} {μ : Mu} {vs : List V} (h : RepWs K H μ [] vs) : vs = [] := by cases h; rfl
theorem ws_one {K : PySem.W.Frag} {H : Hp} {μ : Mu} {w : W} {vs : List V} (h : RepWs K H μ [w] vs) : ∃ v, vs = [v] ∧ RepW K H μ w v := by
  cases h with
  | cons r t => cases t; exact ⟨_, rfl, r⟩
theorem mt_mthW (m : MT) : MtR X (mtId m) (rMOf X.K U m) := by
  intro pins s σ H x xs v us Q I rx rs h
  obtain ⟨S, μ, wx, ws, hS, hx, hw, hp⟩ := h
  unfold mthW at hp
  split at hp
  · rename_i p d
    obtain ⟨y, rfl, ry⟩ := ws_one hw
    split at hp
    · rename_i ds e
      split at hp
      · rename_i hz
        obtain ⟨a, vs, rfl, hm, ha, hr⟩ := obj_lst hS hx e
        rw [hr.length] at hz
        have mu : Mut (H a) := by rw [ha]; trivial
        have ex := Ext.write (o := .lst (vs ++ [y])) mu hm
        exact mt_append pins s σ H _ _ v us Q I rx rs ⟨a, vs, y, rfl, rfl, ha, hz, vp_put hS mu hm (ob := .lst (ds ++ [d])) ⟨_, upd_same, (hr.up ex).append (.cons (RepD.up ex ry) .nil)⟩ hp .non⟩
      · exact hp.elim
    · exact hp.elim
  · rename_i p
    obtain rfl := ws_nil hw
    split at hp
    · rename_i ds e
      split at hp
      · rename_i d e2
        obtain ⟨a, vs, rfl, hm, ha, hr⟩ := obj_lst hS hx e
        obtain ⟨y, e3, ry⟩ := hr.get e2
        have mu : Mut (H a) := by rw [ha]; trivial
        have ex := Ext.write (o := .lst vs.dropLast) mu hm
        exact mt_pop pins s σ H _ _ v us Q I rx rs ⟨a, vs, y, rfl, rfl, ha, by rw [← hr.length]; exact e3, vp_put hS mu hm (ob := .lst ds.dropLast) ⟨_, upd_same, (hr.up ex).dropLast⟩ hp (RepD.up ex ry)⟩
      · exact hp.elim
    · exact hp.elim
  · rename_i p i
    obtain ⟨y, rfl, ry⟩ := ws_one hw
    have ry : RepD X.K H μ (.int i) y := ry
    cases ry
    split at hp
    · rename_i ds e
      split at hp
      · rename_i hi
        split at hp
        · rename_i d e2
          obtain ⟨a, vs, rfl, hm, ha, hr⟩ := obj_lst hS hx e
          obtain ⟨y, e3, ry⟩ := hr.get e2
          have mu : Mut (H a) := by rw [ha]; trivial
          have ex := Ext.write (o := .lst (vs.eraseIdx i.toNat)) mu hm
          have hlt : i.toNat < vs.length := (List.getElem?_eq_some_iff.mp e3).1
          have hsi : seqIndex? i vs.length = some i.toNat := by
            have e4 : ixN vs.length i = some i.toNat := by
              unfold ixN
              rw [if_pos hi.1, if_pos (by omega)]
            exact (ixN_seq e4).1
          exact mt_popAt pins s σ H _ _ v us Q I rx rs ⟨a, vs, i, i.toNat, y, rfl, rfl, ha, by omega, by omega, hsi, e3, vp_put hS mu hm (ob := .lst (ds.eraseIdx i.toNat)) ⟨_, upd_same, (hr.up ex).eraseIdx _⟩ hp (RepD.up ex ry)⟩
        · exact hp.elim
      · exact hp.elim
    · exact hp.elim
  · rename_i p es
    obtain ⟨y, rfl, ry⟩ := ws_one hw
    have ry : RepD X.K H μ (.list es) y := ry
    split at hp
    · rename_i ds e
      split at hp
      · rename_i hz
        obtain ⟨a, vs, rfl, hm, ha, hr⟩ := obj_lst hS hx e
        cases ry with
        | @lst b zs _ hb _ _ hzs =>
          rw [hr.length, hzs.length] at hz
          have mu : Mut (H a) := by rw [ha]; trivial
          have ex := Ext.write (o := .lst (vs ++ zs)) mu hm
          exact mt_extend pins s σ H _ _ v us Q I rx rs ⟨a, b, vs, zs, rfl, rfl, ha, hb, hz, vp_put hS mu hm (ob := .lst (ds ++ es)) ⟨_, upd_same, (hr.up ex).append (hzs.up ex)⟩ hp .non⟩
      · exact hp.elim
    · exact hp.elim
  · rename_i ds k
    obtain ⟨y, rfl, ry⟩ := ws_one hw
    have ry : RepD X.K H μ (.int k) y := ry
    cases ry
    split at hp
    · rename_i ns e
      obtain ⟨a, vs, rfl, ha, hr⟩ := (rdD_rep hS hx (show rdD S (.dat (.list ds)) = some (.list ds) from rfl)).lst
      obtain ⟨rfl, _⟩ := intsD_rep hr e
      exact mt_lcount pins s σ H _ _ v us Q I rx rs ⟨a, ns, k, rfl, rfl, SqL.of ha, vp_here hS hp (.int _)⟩
    · exact hp.elim
  · exact hp.elim
/-! ### truth -/
theorem tru_truW {H : Hp} {x : V} {μ : Mu} {w : W} {S : Sto} {Q : Bool → Hp → Prop} (hS : StoRep X.K H S μ) (hw : RepW X.K H μ w x)
    (hp : PostE X.K U H μ (truW S w) fun w H' _ _ => ∃ b, w = .dat (.bool b) ∧ Q b H') : ∃ k, TruV X.K x H k ∧ Q k H := by
  unfold truW at hp
  cases e1 : rdC S w with
  | none => simp only [e1] at hp; exact hp.elim
  | some d =>
    simp only [e1] at hp
    have t := rdC_rep hS hw e1
    cases e2 : truD d with
    | none => simp only [e2] at hp; exact hp.elim
    | some c =>
      simp only [e2] at hp
      obtain ⟨b, eb, q⟩ := hp H μ (Ext.refl H μ) hS
      cases eb
      refine ⟨c, ?_, q⟩
      cases d with
      | none => obtain rfl := t.non; cases e2; rfl
      | bool b => obtain rfl := t.bl; cases e2; rfl
      | int i => obtain rfl := t.int; cases e2; rfl
      | str z =>
        obtain rfl := t.str
        have e2 : (if z.length ≤ sizeLine then some (z.length != 0) else none) = some c := e2
        split at e2
        · have e2 := Option.some.inj e2
          subst e2
          refine ⟨by assumption, ?_⟩
          rw [bne, bne]
          congr 1
          by_cases h0 : z.length = 0
          · rw [h0]; rfl
          · rw [beq_eq_false_iff_ne.mpr h0, beq_eq_false_iff_ne.mpr (by omega)]
        · cases e2
      | list ds =>
        obtain ⟨a, vs, rfl, ha, hr⟩ := t.lst
        have e2 := Option.some.inj e2
        subst e2
        exact .inl ⟨vs, SqL.of ha, by cases hr <;> rfl⟩
      | tuple ds =>
        obtain ⟨a, vs, rfl, ha, hr⟩ := t.tup
        have e2 := Option.some.inj e2
        subst e2
        exact .inr (.inl ⟨vs, ha, by cases hr <;> rfl⟩)
      | dict _ => cases e2
/-- isinstance -/
theorem cr_isiW (T : Ty5) : CallR X (.builtin "isinstance") (fun vs H Q => ∃ v, vs = [v, .ty (tyN T)] ∧ rOf1 X.K U (fun S x => isiW S T x) v H Q) := by
  intro pins s σ H vs us Q I r h
  obtain ⟨v, rfl, S, μ, wx, hS, hx, hp⟩ := h
  unfold isiW at hp
  cases e1 : rdC S wx with
  | none => simp only [e1] at hp; exact hp.elim
  | some d =>
    simp only [e1] at hp
    obtain ⟨t, h1, h2⟩ := isi_ty T (rdC_rep hS hx e1)
    exact call_isi pins s σ H _ us Q I r ⟨v, .ty (tyN T), t, .type (tyN T), isiD T d, rfl, .ty _, h1, h2, vp_here hS hp (.bl _)⟩
end
end MP
set_option Elab.async false
set_option linter.all false
set_option maxRecDepth 100000
set_option maxHeartbeats 8000000
/-! sorted(set(a list of ints)). -/
namespace MP
open PySem PySem.Spec PyProof.Rows L2
/-- a set just made -/
abbrev nset (w : World) : Obj := { cls := .type "set", dict := none, data := .set #[] 0 (.fresh 0 0 (!w.params.followText "set-order")) }
section
variable {P : Program} {w : World} {A : Around} {E : Value → Shared → Prop} {s : Shared}
/-- what the set's filling leaves -/
def Filled (w : World) (ns : List Int) (s : Shared) (a : Addr) (h' : Heap) (c : Nat) : Prop :=
  SetR w h' a (fun j => decide (j ∈ ns)) c ∧ c ≤ ns.length ∧ ∀ b o, b < a → s.heap.get? b = some o → h'.get? b = some o
theorem int_at' {its : Array Value} {ns : List Int} (hi : IntsAre its.toList ns) (j : Nat) (v : Value) (e : its[j]? = some v) : ∃ k t, ns[j]? = some k ∧ v = .int k t := by
  have hl := IntsAre.length hi
  rw [Array.length_toList] at hl
  have hj : j < ns.length := hl ▸ (Array.getElem?_eq_some_iff.mp e).1
  obtain ⟨t, q⟩ := IntsAre.int_at hi j v (by rw [Array.getElem?_toList]; exact e)
  exact ⟨ns[j], t, List.getElem?_eq_getElem hj, by rw [q, List.getD_eq_getElem?_getD, List.getElem?_eq_getElem hj]; rfl⟩
/-- the filling: __init__ of the set at a, handed the list at l -/
theorem set_fill {R : PySem.Fin → Shared → Prop} {a l : Addr} {its : Array Value} {ns : List Int} (hh : A.handled = none) (ha : s.heap.get? a = some (nset w)) (hn : s.heap.objs.size = a + 1) (hl : s.heap.IsList l its) (hla : l < a) (hi : IntsAre its.toList ns) (hb : ns.length + 1 < scanBound)
    (k : ∀ (h' : Heap) (tk c : Nat), Filled w ns s a h' c → R (.done (.ret .none)) { s with heap := h', toks := tk }) :
    wpAny (model P w) A (Builtin.«set.__init__» ⟨[.ref a, .ref l], []⟩) R E s := by
  have size : its.size = ns.length := by
    have q := IntsAre.length hi
    rwa [Array.length_toList] at q
  have typ : s.TypeIs (.ref a) "set" := ⟨_, ha, rfl⟩
  obtain ⟨ol, look, hcl, nl, hdl⟩ := id hl
  obtain ⟨ocls, odict, odata, oslots⟩ := ol
  simp only at hcl hdl
  subst hcl
  subst hdl
  have n1 := F.sub_list_set
  have n2 := F.sub_list_frozenset
  have n3 : (Value.type "list" == Value.type "dict") = false := by decide
  unfold Builtin.«set.__init__» noKeywords Builtin.Frozenset.updateFrom
  generalize keep : pyIter = walk
  wp_walk
  subst keep
  refine wpAny_pyIter_list hl (wpAny_bind (wpAny_runValue ?_))
  have hd : ∀ B : Around, B.handled = none → B.in1.handled = none := fun B q => by simp [q]
  have apart : a ∉ [s.heap.objs.size, l] := by
    rw [hn]
    simp only [List.mem_cons, List.not_mem_nil, or_false, not_or]
    exact ⟨Nat.ne_of_lt (Nat.lt_succ_self _), Nat.ne_of_gt hla⟩
  have other : l ≠ s.heap.objs.size := by
    rw [hn]
    exact Nat.ne_of_lt (Nat.lt_succ_of_lt hla)
  refine set_update_ints ((Walks.list (by simp [hh]) _ l other its).toS) a apart ns size hb (int_at' hi) its.size 0 _ (by omega) (Nat.zero_le _) ⟨⟨_, Heap.get?_push_size _ rfl, rfl, rfl⟩, hl.push _⟩ ⟨0, Nat.le_refl 0, setR_new_at (Heap.get?_push_of_some _ ha)⟩ ?_
  rintro ⟨h', g2, d2, t2, o2⟩ c mv hc done
  have q1 : g2 = s.gens := mv.gens
  have q2 : d2 = s.drawn := mv.drawn
  have q3 : o2 = s.os := mv.os
  subst q1 q2 q3
  rw [size] at hc
  show wpAny _ _ _ _ _ _
  refine wpAny_pure ?_
  show wpAny _ _ (ret Value.none) _ _ _
  refine wpAny_pure (k h' t2 c ⟨done, hc, fun b o hb e => mv.heap b o ?_ (Heap.get?_push_of_some _ e)⟩)
  simp only [List.mem_cons, List.not_mem_nil, or_false, not_or]
  rw [hn]
  exact ⟨Nat.ne_of_lt hb, Nat.ne_of_lt (Nat.lt_succ_of_lt hb)⟩
/-- set(l), l a list of ints -/
theorem call_setL {l : Addr} {its : Array Value} {ns : List Int} {Q : Value → Shared → Prop} (hh : A.handled = none) (hl : s.heap.IsList l its) (hi : IntsAre its.toList ns) (hb : ns.length + 1 < scanBound)
    (k : ∀ (h' : Heap) (tk c : Nat), Filled w ns s s.heap.objs.size h' c → Q (.ref s.heap.objs.size) { s with heap := h', toks := tk }) : wpAny (model P w) A (call (.type "set") [.ref l]) Q E s := by
  have ⟨_, _, mro⟩ := F.called_set.mro
  have made := F.called_set.made; have sub := F.called_set.sub; have notT := F.called_set.notType; have can := F.called_set.canCreate; have form := F.typeCall_set_1 (.ref l)
  have lt : l < s.heap.objs.size := by obtain ⟨o, e, _⟩ := hl; exact Heap.lt_size e
  refine wpAny_call (codeAny_of_tree (show wpAny _ _ (callAny (.type "set") _) _ _ _ from wpAny_pure ⟨Code.quiet_builtin _ (by decide +kernel), codeAny_builtin F.entry_type_call ?_⟩))
  rw [Around.under_plain (weight_type_call_type "set" [.ref l] []) rfl]; repeat (any_goals (first | assumption | wp_step))
  refine codeAny_mono (code_set_led1 (.ref l) (E := E) (Q₁ := fun v s1 => v = .ref s.heap.objs.size ∧ s1 = { s with heap := s.heap.push (nset w) }) ⟨rfl, rfl⟩) (fun r s1 z => ?_)
  rcases r with e | fl
  · exact z
  cases fl with
  | ret v =>
    obtain ⟨rfl, rfl⟩ := z
    have at1 : (s.heap.push (nset w)).get? s.heap.objs.size = some (nset w) := Heap.get?_push_size _ rfl
    have typ : Shared.TypeIs { s with heap := s.heap.push (nset w) } (.ref s.heap.objs.size) "set" := ⟨_, at1, rfl⟩
    have look := F.called_set.init.lookup; have bnd := F.called_set.init.bind (.ref s.heap.objs.size)
    repeat (any_goals (first | assumption | wp_step))
    refine codeAny_mono (codeAny_call_builtin (R := wants (fun u s2 => u = .none ∧ ∃ h' tk c, s2 = { s with heap := h', toks := tk } ∧ Filled w ns s s.heap.objs.size h' c) E) F.called_set.init.plain F.entry_set_init (check_set_init_1 typ ?_)) (fun r2 s2 z2 => ?_)
    · refine set_fill (s := { s with heap := s.heap.push (nset w) }) (by simp [hh]) at1 (Heap.size_push ..) (hl.push _) lt hi hb fun h' tk c f => ⟨rfl, h', tk, c, rfl, f.1, f.2.1, fun b o hb2 e => f.2.2 b o hb2 (Heap.get?_push_of_some _ e)⟩
    · rcases r2 with e | fl2
      · exact z2
      cases fl2 with
      | ret u =>
        obtain ⟨rfl, h', tk, c, rfl, f⟩ := z2
        repeat (any_goals (first | assumption | wp_step))
        exact k _ _ _ f
      | _ => exact z2.elim
  | _ => exact z.elim
end
/-! sorted, each once -/
theorem insU_mem {k j : Int} : ∀ {l : List Int}, j ∈ insU k l ↔ j = k ∨ j ∈ l
  | [] => by simp [insU]
  | x :: r => by
    unfold insU
    split
    · simp
    · split
      · rename_i h
        subst h
        simp
      · simp only [List.mem_cons, insU_mem (l := r)]
        constructor
        · rintro (h | h | h)
          · exact .inr (.inl h)
          · exact .inl h
          · exact .inr (.inr h)
        · rintro (h | h | h)
          · exact .inr (.inl h)
          · exact .inl h
          · exact .inr (.inr h)
theorem insU_up {k : Int} : ∀ {l : List Int}, l.Pairwise (· < ·) → (insU k l).Pairwise (· < ·)
  | [], _ => by simp [insU]
  | x :: r, h => by
    have ⟨h1, h2⟩ := List.pairwise_cons.mp h
    unfold insU
    split
    · rename_i q
      refine List.pairwise_cons.mpr ⟨fun z hz => ?_, h⟩
      rcases List.mem_cons.mp hz with rfl | hz
      · exact q
      · exact Int.lt_trans q (h1 z hz)
    · split
      · exact h
      · refine List.pairwise_cons.mpr ⟨fun z hz => ?_, insU_up h2⟩
        rcases insU_mem.mp hz with rfl | hz
        · omega
        · exact h1 z hz
theorem sortU_up : ∀ l : List Int, (sortU l).Pairwise (· < ·)
  | [] => List.Pairwise.nil
  | k :: r => insU_up (sortU_up r)
theorem sortU_mem {j : Int} : ∀ {l : List Int}, j ∈ sortU l ↔ j ∈ l
  | [] => Iff.rfl
  | k :: r => by
    show j ∈ insU k (sortU r) ↔ _
    rw [insU_mem, sortU_mem, List.mem_cons]
theorem up_one : ∀ {l m : List Int}, l.Pairwise (· < ·) → m.Pairwise (· < ·) → (∀ k, k ∈ l ↔ k ∈ m) → l = m
  | [], [], _, _, _ => rfl
  | [], y :: m, _, _, h => nomatch (h y).mpr List.mem_cons_self
  | x :: l, [], _, _, h => nomatch (h x).mp List.mem_cons_self
  | x :: l, y :: m, hl, hm, h => by
    have ⟨l1, l2⟩ := List.pairwise_cons.mp hl
    have ⟨m1, m2⟩ := List.pairwise_cons.mp hm
    have e : x = y := by
      rcases List.mem_cons.mp ((h x).mp List.mem_cons_self) with e | e
      · exact e
      · rcases List.mem_cons.mp ((h y).mpr List.mem_cons_self) with q | q
        · exact q.symm
        · have := m1 x e
          have := l1 y q
          omega
    subst e
    rw [up_one l2 m2 fun k => ?_]
    have hk := h k
    simp only [List.mem_cons] at hk
    constructor
    · intro q
      have := l1 k q
      rcases hk.mp (.inr q) with e | e
      · omega
      · exact e
    · intro q
      have := m1 k q
      rcases hk.mpr (.inr q) with e | e
      · omega
      · exact e
section
variable {X : Cx} {U : Wx}
theorem or_rplW : OpR X (binaryOp .Mult) (rOf X.K U fun S x y => rplW S x y) := by
  intro pins s σ H x y v u Q I rx ry h
  obtain ⟨S, μ, wx, wy, hS, hx, hy, hp⟩ := h
  replace hp : PostE X.K U H μ (rplW S wx wy) (VP X.K Q) := hp
  unfold rplW at hp
  split at hp
  · rename_i xs k
    obtain ⟨a, vs, rfl, ha, hr⟩ := (rdD_rep hS hx (show rdD S (.dat (.list xs)) = some (.list xs) from rfl)).lst
    have hy : RepD X.K H μ (.int k) y := hy
    cases hy
    split at hp
    · rename_i z
      obtain ⟨h1, h2, h3⟩ := z
      rw [hr.length] at h3
      exact op_rep pins s σ H _ _ v u Q I rx ry ⟨_, _, _, rfl, rfl, ha, h1, h2, h3, vp_mk hS hp (hr.rep _)⟩
    · exact hp.elim
  · exact hp.elim
theorem cr_setL (hc : X.calm = true) : CallR X (.type "set") (fun vs H Q => ∃ (p : Addr) (ns : List Int), vs = [V.ref p] ∧ SqL X.K H p (ns.map V.int) ∧ ns.length + 1 < scanBound ∧ ∀ a c, H a = none → c ≤ ns.length → Q (.ref a) (upd H a (SetO X.w a (fun j => decide (j ∈ ns)) c))) := by
  intro pins s σ H vs us Q I r h
  obtain ⟨p, ns, rfl, hs, hb, q⟩ := h
  rw [Vals.ref1 r]
  obtain ⟨its, rv, pl, hz⟩ := I.list hs
  refine call_setL (I.ok.hd hc) pl.isList (by simpa using ints_of_vals rv) hb fun h' tk c f => ?_
  exact ⟨.ref _, _, I.laid (t' := tk) (fun b o e => f.2.2 b o (Heap.lt_size e) e) (Nat.le_refl _) (setO_new f.1), rfl, q _ c (I.hok.fresh (Nat.le_refl _)) f.2.1⟩
end
end MP
set_option Elab.async false
set_option linter.all false
set_option maxRecDepth 100000
set_option maxHeartbeats 4000000
/-! The text of an expression and its meaning. -/
namespace MP
open PySem PySem.Spec PyProof.Rows L2

/-! ### the look -/
/-- the names of a def by slot; what the numbers of constants and defs mean; the built-ins that are still built in -/
structure Ck where
  N : List Str
  gl : Nat → Option Str
  fn : Nat → Option Str
  blt : List Str
  cf : List (Str × Str) := []           -- attributes of classes
  cm : List (Str × Str × Nat) := []     -- methods of classes
  ck : Nat → Option (Str × Str) := fun _ => none   -- defs with one keyword: the keyword, the name
def noStar : Expr → Bool | .Starred .. => false | _ => true
def noSlice : Expr → Bool | .Slice .. => false | _ => true
def noSet : Expr → Bool | .Set .. => false | _ => true
def noSuper : Expr → Bool | .Call (.Name _ _) [] [] _ => false | _ => true
def plainT : Expr → Bool
  | .UnaryOp .Not _ _ => false
  | .BoolOp .. => false
  | .IfExp .. => false
  | .Compare .. => false
  | _ => true
def visB (sc : Scope) (x : Str) : Bool := match sc.names.lookup x with
  | some .local => true
  | some .cell => true
  | some .free => true
  | _ => false
def locB (top : Bool) (sc : Scope) (x : Str) : Bool := match sc.names.lookup x with
  | some .local => true
  | some .cell => top
  | _ => false
def glB (sc : Scope) (x : Str) : Bool := decide (sc.names.lookup x = some .globalImplicit)
def plainN (x : Str) : Bool := !(x == ("__debug__" : Str)) && !(x == ("__classdict__" : Str)) && decide (x ≠ ("__name__" : Str))
def biN : BI → Str
  | .len => "len" | .abs => "abs" | .min => "min" | .max => "max" | .int => "int" | .list => "list" | .tuple => "tuple" | .sum => "sum" | .sorted => "sorted" | .all => "all" | .any => "any" | .dict => "dict" | .repr => "repr"
def tyS : Ty5 → Str
  | .int => "int" | .bool => "bool" | .str => "str" | .tuple => "tuple" | .list => "list"
def mtN : MT → Str
  | .append => "append" | .pop => "pop" | .popAt => "pop" | .count => "count" | .index => "index" | .extend => "extend"
def mt0 : MT → Bool
  | .pop => true
  | _ => false
def dmN : DM → Str
  | .get => "get" | .pop => "pop"
/-- a built-in's name here -/
def bltB (C : Ck) (sc : Scope) (x : Str) : Bool := glB sc x && plainN x && decide (x ∈ C.blt)
def ownOf (C : Ck) (vs : List Nat) : List (Str × Nat) := vs.map fun v => (C.N.getD v "", v)

/-! one look a kind: p, q look at the parts -/
abbrev LkE := Scope → Expr → Bool
def kInt (i : Int) : Expr → Bool | .Constant (.int j) _ _ => decide (i = j) | _ => false
def kBl (b : Bool) : Expr → Bool | .Constant (.bool c) _ _ => decide (b = c) | _ => false
def kNon : Expr → Bool | .Constant .none _ _ => true | _ => false
def kStr (s : Str) : Expr → Bool | .Constant (.str t) _ _ => decide (s = t) | _ => false
def kVar (C : Ck) (k : Nat) (sc : Scope) : Expr → Bool | .Name x _ => decide (C.N[k]? = some x) && visB sc x && plainN x | _ => false
def kGlb (C : Ck) (g : Nat) (sc : Scope) : Expr → Bool | .Name x _ => decide (C.gl g = some x) && glB sc x && plainN x | _ => false
def kBin (op : BO) (p q : Expr → Bool) : Expr → Bool | .BinOp x o y _ => decide (o = opOf op) && p x && q y | _ => false
def kNeg (p : Expr → Bool) : Expr → Bool | .UnaryOp .USub x _ => p x | _ => false
def kCmp (op : CO) (p q : Expr → Bool) : Expr → Bool | .Compare x [o] [y] _ => decide (o = cmpOf op) && p x && q y && !behindInMarks o y | _ => false
def kChn (o1 o2 : CO) (p q r : Expr → Bool) : Expr → Bool | .Compare x [p1, p2] [y, z] _ => decide (p1 = cmpOf o1) && decide (p2 = cmpOf o2) && p x && q y && r z && !behindInMarks p2 z | _ => false
def kOne (p : Expr → Bool) : Expr → Bool | .BoolOp _ [x] _ => p x | _ => false
def kAnd (p q : Expr → Bool) : Expr → Bool | .BoolOp .And (x :: y :: r) pos => p x && q (.BoolOp .And (y :: r) pos) | _ => false
def kOr (p q : Expr → Bool) : Expr → Bool | .BoolOp .Or (x :: y :: r) pos => p x && q (.BoolOp .Or (y :: r) pos) | _ => false
def kNot (p : Expr → Bool) : Expr → Bool | .UnaryOp .Not x _ => p x | _ => false
def kIfx (t p q : Expr → Bool) : Expr → Bool | .IfExp a b c _ => t a && p b && q c | _ => false
def kTup (p : List Expr → Bool) : Expr → Bool | .Tuple xs _ _ => p xs | _ => false
def kLst (p : List Expr → Bool) : Expr → Bool | .List xs _ => p xs | _ => false
def kSlc (p : Expr → Bool) (q r : Option Expr → Bool) : Expr → Bool | .Subscript x (.Slice l h none _) _ => p x && q l && r h | _ => false
def kIdx (p q : Expr → Bool) : Expr → Bool | .Subscript x y _ => p x && q y && noSlice y | _ => false
def kCall (C : Ck) (f : Nat) (sc : Scope) (p : List Expr → Bool) : Expr → Bool | .Call (.Name x _) xs [] _ => decide (C.fn f = some x) && glB sc x && plainN x && p xs | _ => false
def kFnv (C : Ck) (i : Nat) (x : Str) (sc : Scope) : Expr → Bool | .Name y _ => decide (y = x) && decide (C.fn i = some x) && glB sc x && plainN x | _ => false
def kCallv (C : Ck) (k : Nat) (sc : Scope) (p : List Expr → Bool) : Expr → Bool | .Call (.Name x _) (y :: ys) [] _ => decide (C.N[k]? = some x) && visB sc x && plainN x && p (y :: ys) | _ => false
def kBi (C : Ck) (b : BI) (sc : Scope) (p : List Expr → Bool) : Expr → Bool | .Call (.Name x _) (y :: ys) [] _ => decide (x = biN b) && bltB C sc x && p (y :: ys) | _ => false
def kIsi (C : Ck) (T : Ty5) (sc : Scope) (p : Expr → Bool) : Expr → Bool | .Call (.Name x _) [y, .Name t _] [] _ => decide (x = "isinstance") && bltB C sc x && decide (t = tyS T) && bltB C sc t && p y && noStar y | _ => false
def kMth (m : MT) (p : Expr → Bool) (q : List Expr → Bool) : Expr → Bool
  | .Call (.Attribute y name apos) xs [] cpos => decide (name = mtN m) && p y && noSuper y && (apos.endLine == cpos.line) && (if mt0 m then xs.isEmpty else decide (0 < xs.length) && decide (xs.length < 20)) && q xs
  | _ => false
def kTrev (C : Ck) (sc : Scope) (p : Expr → Bool) : Expr → Bool | .Call (.Name x _) [.Call (.Name z _) [y] [] _] [] _ => decide (x = "tuple") && bltB C sc x && decide (z = "reversed") && bltB C sc z && p y && noStar y | _ => false
def kLrng (C : Ck) (sc : Scope) (p : Expr → Bool) : Expr → Bool | .Call (.Name x _) [.Call (.Name z _) [y] [] _] [] _ => decide (x = "list") && bltB C sc x && decide (z = "range") && bltB C sc z && p y && noStar y | _ => false
def kComp (C : Ck) (vs : List Nat) (tg : E) (sc : Scope) (pi : Expr → Bool) (pg : LkE) (pt : Scope → List Expr → Bool) (pe : LkE) : Expr → Bool
  | .ListComp elt' [⟨tg', it', ifs, 0⟩] scope _ => blkC C.N sc scope (ownOf C vs) && (tslots tg).all (fun k => decide (k ∈ vs)) && noSet it' && pi it' && pg (relS scope sc) tg' && pt (relS scope sc) ifs && pe (relS scope sc) elt'
  | _ => false
def kDct (p : List (Option Expr) → List Expr → Bool) : Expr → Bool | .Dict ks vs _ => p ks vs && ks.all (·.isSome) && decide (ks.length = vs.length) && decide (ks.length ≤ 15) | _ => false
def kDm1 (m : DM) (p q : Expr → Bool) : Expr → Bool
  | .Call (.Attribute y name apos) [x] [] cpos => decide (name = dmN m) && p y && noSuper y && (apos.endLine == cpos.line) && q x && noStar x
  | _ => false
def kDm2 (m : DM) (p q r : Expr → Bool) : Expr → Bool
  | .Call (.Attribute y name apos) [x, z] [] cpos => decide (name = dmN m) && p y && noSuper y && (apos.endLine == cpos.line) && q x && noStar x && r z && noStar z
  | _ => false
def kDcp (C : Ck) (vs : List Nat) (tg : E) (sc : Scope) (pi : Expr → Bool) (pg : LkE) (pt : Scope → List Expr → Bool) (pk pe : LkE) : Expr → Bool
  | .DictComp kx' vx' [⟨tg', it', ifs, 0⟩] scope _ => blkC C.N sc scope (ownOf C vs) && (tslots tg).all (fun k => decide (k ∈ vs)) && noSet it' && pi it' && pg (relS scope sc) tg' && pt (relS scope sc) ifs && pk (relS scope sc) kx' && pe (relS scope sc) vx'
  | _ => false
def kCdx (C : Ck) (g : Nat) (sc : Scope) (p : Expr → Bool) : Expr → Bool | .Subscript (.Name x _) y _ => decide (C.gl g = some x) && glB sc x && plainN x && p y && noSlice y | _ => false
def kCdi (C : Ck) (b : Bool) (g : Nat) (sc : Scope) (p : Expr → Bool) : Expr → Bool | .Compare y [o] [.Name x q] _ => decide (o = if b = true then .In else .NotIn) && decide (C.gl g = some x) && glB sc x && plainN x && p y && !behindInMarks o (.Name x q) | _ => false
def kFld (C : Ck) (x f : Str) (p : Expr → Bool) : Expr → Bool | .Attribute y g _ => decide (g = f) && decide ((x, f) ∈ C.cf) && p y && noSuper y | _ => false
def kMcl (C : Ck) (x m : Str) (i : Nat) (p : Expr → Bool) (q : List Expr → Bool) : Expr → Bool | .Call (.Attribute y name apos) xs [] cpos => decide (name = m) && decide ((x, m, i) ∈ C.cm) && p y && noSuper y && (apos.endLine == cpos.line) && decide (xs.length < 20) && q xs | _ => false
def kSset (C : Ck) (sc : Scope) (p : Expr → Bool) : Expr → Bool | .Call (.Name x _) [.Call (.Name z _) [y] [] _] [] _ => decide (x = "sorted") && bltB C sc x && decide (z = "set") && bltB C sc z && p y && noStar y | _ => false
def kCkw (C : Ck) (f : Nat) (sc : Scope) (p : List Expr → Bool) (q : Expr → Bool) : Expr → Bool | .Call (.Name x _) (y :: ys) [⟨some k, z, _⟩] _ => decide (C.ck f = some (k, x)) && glB sc x && plainN x && p (y :: ys) && q z | _ => false
def kPrs (p q : Expr → Bool) (r : List (Option Expr) → List Expr → Bool) : List (Option Expr) → List Expr → Bool | some x :: ks, y :: vs => p x && q y && r ks vs | _, _ => false
def kPnil : List (Option Expr) → List Expr → Bool | [], [] => true | _, _ => false
def kTv (p : Expr → Bool) (x : Expr) : Bool := p x && plainT x
def kNil : List Expr → Bool | [] => true | _ => false
def kCons (p : Expr → Bool) (q : List Expr → Bool) : List Expr → Bool | x :: xs => p x && noStar x && q xs | [] => false
def kOpt (p : Expr → Bool) : Option Expr → Bool | some x => p x | none => false
def kNone : Option Expr → Bool | none => true | _ => false
def kTs1 (p : Expr → Bool) : List Expr → Bool | [x] => p x | _ => false
def kRg1 (C : Ck) (sc : Scope) (nm : Str) (p : Expr → Bool) : Expr → Bool | .Call (.Name x _) [y] [] _ => decide (x = nm) && bltB C sc x && p y && noStar y | _ => false
def kRr2 (C : Ck) (sc : Scope) (p q : Expr → Bool) : Expr → Bool | .Call (.Name u _) [.Call (.Name x _) [y, z] [] _] [] _ => decide (u = "reversed") && bltB C sc u && decide (x = "range") && bltB C sc x && p y && noStar y && q z && noStar z | _ => false
def kRg2 (C : Ck) (sc : Scope) (p q : Expr → Bool) : Expr → Bool | .Call (.Name x _) [y, z] [] _ => decide (x = "range") && bltB C sc x && p y && noStar y && q z && noStar z | _ => false
def kRg3 (C : Ck) (sc : Scope) (p q r : Expr → Bool) : Expr → Bool | .Call (.Name x _) [y, z, u] [] _ => decide (x = "range") && bltB C sc x && p y && noStar y && q z && noStar z && r u && noStar u | _ => false
def kNm (C : Ck) (top : Bool) (k : Nat) (sc : Scope) : Expr → Bool | .Name x _ => decide (C.N[k]? = some x) && locB top sc x | _ => false

mutual
def okE (C : Ck) (top : Bool) : E → Scope → Expr → Bool
  | .int i, _, x => kInt i x
  | .bl b, _, x => kBl b x
  | .non, _, x => kNon x
  | .str s, _, x => kStr s x
  | .var k, sc, x => kVar C k sc x
  | .glb g, sc, x => kGlb C g sc x
  | .bin op a b, sc, x => kBin op (okE C top a sc) (okE C top b sc) x
  | .neg a, sc, x => kNeg (okE C top a sc) x
  | .cmp op a b, sc, x => kCmp op (okE C top a sc) (okE C top b sc) x
  | .chn o1 o2 a b c, sc, x => kChn o1 o2 (okE C top a sc) (okE C top b sc) (okE C top c sc) x
  | .one a, sc, x => kOne (okE C top a sc) x
  | .and a b, sc, x => kAnd (okE C top a sc) (okE C top b sc) x
  | .or a b, sc, x => kOr (okE C top a sc) (okE C top b sc) x
  | .not a, sc, x => kNot (okE C top a sc) x
  | .ifx t a b, sc, x => kIfx (okT C top t sc) (okE C top a sc) (okE C top b sc) x
  | .tup es, sc, x => kTup (okA C top es sc) x
  | .lst _ es, sc, x => kLst (okA C top es sc) x
  | .slc a lo hi, sc, x => kSlc (okE C top a sc) (okO C top lo sc) (okO C top hi sc) x
  | .idx a b, sc, x => kIdx (okE C top a sc) (okE C top b sc) x
  | .call f es, sc, x => kCall C f sc (okA C top es sc) x
  | .bi b _ es, sc, x => kBi C b sc (okA C top es sc) x
  | .isi T a, sc, x => kIsi C T sc (okE C top a sc) x
  | .mth m o es, sc, x => kMth m (okE C top o sc) (okA C top es sc) x
  | .trev a, sc, x => kTrev C sc (okE C top a sc) x
  | .lrng _ a, sc, x => kLrng C sc (okE C top a sc) x
  | .comp _ vs elt tg it tst, sc, x => kComp C vs tg sc (okI C top it sc) (okG C false tg) (okTs C false tst) (okE C false elt) x
  | .dct es, sc, x => kDct (okP C top es sc) x
  | .dm1 m o a, sc, x => kDm1 m (okE C top o sc) (okE C top a sc) x
  | .dm2 m o a b, sc, x => kDm2 m (okE C top o sc) (okE C top a sc) (okE C top b sc) x
  | .dcp vs kx vx tg it tst, sc, x => kDcp C vs tg sc (okI C top it sc) (okG C false tg) (okTs C false tst) (okE C false kx) (okE C false vx) x
  | .lck _ e, sc, x => okE C top e sc x
  | .cdx g e, sc, x => kCdx C g sc (okE C top e sc) x
  | .fnv i y, sc, x => kFnv C i y sc x
  | .callv k es, sc, x => kCallv C k sc (okA C top es sc) x
  | .cdi b g e, sc, x => kCdi C b g sc (okE C top e sc) x
  | .fld y o f, sc, x => kFld C y f (okE C top o sc) x
  | .mcl y m i o es, sc, x => kMcl C y m i (okE C top o sc) (okA C top es sc) x
  | .sset a, sc, x => kSset C sc (okE C top a sc) x
  | .rpl a b, sc, x => kBin .mul (okE C top a sc) (okE C top b sc) x
  | .ckw f es e, sc, x => kCkw C f sc (okA C top es sc) (okE C top e sc) x
  | _, _, _ => false
def okT (C : Ck) (top : Bool) : E → Scope → Expr → Bool
  | .tv e, sc, x => kTv (okE C top e sc) x
  | .tcdi b g e, sc, x => kCdi C b g sc (okE C top e sc) x
  | .tcmp op a b, sc, x => kCmp op (okE C top a sc) (okE C top b sc) x
  | .tchn o1 o2 a b c, sc, x => kChn o1 o2 (okE C top a sc) (okE C top b sc) (okE C top c sc) x
  | .one a, sc, x => kOne (okT C top a sc) x
  | .tand a b, sc, x => kAnd (okT C top a sc) (okT C top b sc) x
  | .tor a b, sc, x => kOr (okT C top a sc) (okT C top b sc) x
  | .tnot a, sc, x => kNot (okT C top a sc) x
  | _, _, _ => false
def okA (C : Ck) (top : Bool) : E → Scope → List Expr → Bool
  | .nil, _, x => kNil x
  | .cons e es, sc, x => kCons (okE C top e sc) (okA C top es sc) x
  | _, _, _ => false
def okP (C : Ck) (top : Bool) : E → Scope → List (Option Expr) → List Expr → Bool
  | .nil, _, ks, vs => kPnil ks vs
  | .prs k v es, sc, ks, vs => kPrs (okE C top k sc) (okE C top v sc) (okP C top es sc) ks vs
  | _, _, _, _ => false
def okO (C : Ck) (top : Bool) : E → Scope → Option Expr → Bool
  | .nil, _, x => kNone x
  | .cons e _, sc, x => kOpt (okE C top e sc) x
  | _, _, _ => false
def okTs (C : Ck) (top : Bool) : E → Scope → List Expr → Bool
  | .nil, _, x => kNil x
  | .cons e _, sc, x => kTs1 (okT C top e sc) x
  | _, _, _ => false
def okI (C : Ck) (top : Bool) : E → Scope → Expr → Bool
  | .isq e, sc, x => okE C top e sc x
  | .irg1 a, sc, x => kRg1 C sc "range" (okE C top a sc) x
  | .irr2 a b, sc, x => kRr2 C sc (okE C top a sc) (okE C top b sc) x
  | .irg2 a b, sc, x => kRg2 C sc (okE C top a sc) (okE C top b sc) x
  | .irg3 a b c, sc, x => kRg3 C sc (okE C top a sc) (okE C top b sc) (okE C top c sc) x
  | .irev e, sc, x => kRg1 C sc "reversed" (okE C top e sc) x
  | .idk e, sc, x => okE C top e sc x
  | _, _, _ => false
def okG (C : Ck) (top : Bool) : E → Scope → Expr → Bool
  | .tnm k, sc, x => kNm C top k sc x
  | .tsub o i, sc, x => kIdx (okE C top o sc) (okE C top i sc) x
  | .tfld y o f, sc, x => kFld C y f (okE C top o sc) x
  | .ttup ts, sc, x => kTup (okGs C top ts sc) x
  | _, _, _ => false
def okGs (C : Ck) (top : Bool) : E → Scope → List Expr → Bool
  | .nil, _, x => kNil x
  | .cons e es, sc, x => kCons (okG C top e sc) (okGs C top es sc) x
  | _, _, _ => false
end
end MP
set_option Elab.async false
set_option linter.all false
set_option maxRecDepth 100000
set_option maxHeartbeats 4000000
/-! Calls of defs where it is known that no repr, no == stands open around: the promise of a def, its rule, a call, the head. -/
namespace MP
open PySem PySem.Spec PyProof.Rows L2

abbrev NoG (A : Around) : Prop := A.guards = some []
/-- a def's promise where no guard is open -/
structure GFn (P : Program) (w : World) (K : PySem.W.Frag) (mg : Str → Option Value) (base : Heap) (n : Nat) (fa : Addr) (fd : FuncData) (ps : List Str) (sp : Sp) : Prop where
  len : ∀ xs H Q E, sp xs H Q E → xs.length = ps.length
  go : ∀ (A : Around) (ou : List Env) (s : Shared) (H : Hp) (ar : Args) (ys : List Value) (xs : List V) (Q : VK) (E : XK), Room n A → NoG A → Env0 P w K mg base A ou s H → BindsTo s fd ar (ps.zip ys) → Vals xs ys → sp xs H Q E →
    codeAny (model P w) A (.call (.ref fa) ar) (CR CX0 ou P w H s Q E) s

section
variable {P : Program} {w : World} {K : PySem.W.Frag} {mg : Str → Option Value} {base : Heap}
/-- the rule for a def -/
theorem GFn.of {x qn : Str} {st : Stmt} {fa : Addr} {fd : FuncData} {N ps : List Str} {n : Nat} {sp : Sp} (F : L2.Fun K x qn st fa fd) (sc : FnScope N ps (L2.defScope st)) (hl : ∀ xs H Q E, sp xs H Q E → xs.length = ps.length)
    (bd : ∀ (c : Value) (A : Around) (ou : List Env) (s : Shared) (H : Hp) (xs : List V) (Q : VK) (E : XK), Room n (A.deeper (envOfC qn (L2.defScope st) s.heap.objs.size fa c)) → NoG A → sp xs H Q E →
      ∃ t, PSs (cxOf CX0 P w K mg base N qn (L2.defScope st) fa c A ou s H E).nox (L2.defBody st) t ∧ t { nx := fun _ H2 => Q .non H2, rt := Q } (L2.start N xs) H) : GFn P w K mg base (n + 1) fa fd ps sp := by
  obtain ⟨oc, od, kV, doc, pm, an, c, ct, osl, rfl, look, cok⟩ := F.ex
  refine ⟨hl, fun A ou s H ar ys xs Q E room ng e0 bs rv hs => ?_⟩
  have inK : K.In s.heap := e0.mod.kin.keeps fun b o h => (e0.bs b o h).1
  have nl : s.heap.NoLimit := e0.mod.nolimit.keeps fun b o h => (e0.bs b o h).1
  have kinds : ∀ y ∈ ps.zip ys, (L2.defScope st).names.lookup y.1 = some .local ∨ ((L2.defScope st).names.lookup y.1 = some .cell ∧ ((cellsFrom (s.heap.objs.size + 1) (L2.defScope st).names []).lookup y.1).isSome = true) := by
    rintro ⟨a, b⟩ hy
    exact (sc.par a (List.of_mem_zip hy).1).imp id fun q => ⟨q, PySem.W.cellsFrom_some _ _ _ (.inl q)⟩
  have leaveN : wpAny (model P w) A.in1 (newFunctionEnv (L2.defScope st) mainGlobals [] (ps.zip ys) (qn ++ ".<locals>.") (some fa) c none builtinsNs)
      (fun env s2 => s2.heap.NoLimit ∧ codeAny (model P w) A (.func (L2.defBody st) env) (CR CX0 ou P w H s Q E) s2) (fun e s2 => CR CX0 ou P w H s Q E (.error e) s2) s := by
    refine wpAny_newFunctionEnv_cells sc.kind kinds fun env henv s2 x => ?_
    subst henv
    refine ⟨nl.keeps x.toInCall.keep, codeAny_func ?_⟩
    obtain ⟨t, tb, tq⟩ := bd c A ou s H xs Q E (room.deeper _) ng hs
    have I := inv_start (CX := CX0) (cd := c) (f := fa) (qual := qn) (E := E) sc room.hd e0 (hl _ _ _ _ hs) rv x
    refine wpAny_mono (tb.nox.run [] s2 (L2.start N xs) H _ I tq) (fun fl s3 z => ?_) fun _ _ z => z
    cases fl with
    | next => obtain ⟨_, H3, J, q⟩ := z; exact ⟨V.non, H3, J.os, J.bare, J.base, J.hok, rfl, q⟩
    | ret u => obtain ⟨v, _, H3, J, r, q⟩ := z; exact ⟨v, H3, J.os, J.bare, J.base, J.hok, r, q⟩
    | brk => obtain ⟨_, _, _, q⟩ := z; exact q.elim
    | cont => obtain ⟨_, _, _, q⟩ := z; exact q.elim
  exact codeAny_call_function room.depth (inK _ _ look) rfl sc.co sc.gen rfl (PySem.W.codeRec_of inK cok) (bs _ _ _ _ leaveN)
end

section
variable {X : Cx} {n : Nat} {fa : Addr} {fd : FuncData} {ps : List Str} {sp : Sp} {x : Str} {p pos : Pos} {e : Expr} {es : List Expr} {t : TA}
theorem GFn.call {pins : List (Addr × Obj)} {σ : L2.St} {H : Hp} {s : Shared} {Q : VK} {ys : List Value} {xs : List V} (F : GFn X.prog X.w X.K X.mg X.base n fa fd ps sp) (room : Room n X.A) (ng : NoG X.A) (hb : Binds X.K fd ps []) (I : Inv X pins σ H s) (rv : Vals xs ys) (h : sp xs H Q E0) :
    wpAny (model X.prog X.w) X.A (PySem.call (.ref fa) ys) (EP X pins σ Q) X.xe s := by
  have hl : (ys ++ []).length = ps.length := by rw [List.append_nil, ← rv.length]; exact F.len _ _ _ _ h
  have b := hb s ys I.kIn hl
  rw [List.append_nil] at b
  refine wpAny_call (codeAny_mono (F.go X.A X.stack s H ⟨ys, []⟩ ys xs Q E0 room ng I.env0 b rv h) ?_)
  rintro (e | fl) s2 z
  · exact z.elim
  · cases fl with
    | ret u => exact I.after z
    | _ => exact z.elim
theorem pe_callG (F : GFn X.prog X.w X.K X.mg X.base n fa fd ps sp) (room : Room n X.A) (ng : NoG X.A) (hg : Gl X x) (hm : X.mg x = some (.ref fa)) (hk : PySem.W.keepIn X.K (.ref fa) = true) (hb : Binds X.K fd ps [])
    (ha : PA X (e :: es) t) (h1 : (x == ("__debug__" : Str)) = false) (h2 : starEach (e :: es) X.env = (false, eval e X.env) :: starEach es X.env) (h3 : (backTo pos (starEach es X.env)).any (·.1) = false) :
    PE X (.Call (.Name x p) (e :: es) [] pos) (fun σ H Q => t σ H fun xs H1 => sp xs H1 Q E0) := by
  refine ⟨fun pins s σ H Q I h => wpAny_Call_Name_kw (ld_glob I hg hm (PySem.W.callWith_K (h₀ := X.base) I.ok.mod.kin hk (thn (ha.run pos pins s σ H _ I h) ?_) h2 h3) h1)⟩
  rintro ys s2 ⟨xs, H2, I2, rv, q⟩
  exact ⟨I2.kIn, F.call room ng hb I2 rv q⟩
/-- a call of the def that a local name holds -/
theorem pe_callGL {i : Nat} (F : GFn X.prog X.w X.K X.mg X.base n fa fd ps sp) (room : Room n X.A) (ng : NoG X.A) (hk : PySem.W.keepIn X.K (.ref fa) = true) (hb : Binds X.K fd ps []) {pins : List (Addr × Obj)} {σ : L2.St} {H : Hp} {s : Shared} {Q : VK}
    (hN : X.N[i]? = some x) (hv : Vis X.env.scope x) (ha : PA X (e :: es) t) (h0 : (x == ("__debug__" : Str)) = false) (h1 : (x == ("__classdict__" : Str)) = false) (h2 : starEach (e :: es) X.env = (false, eval e X.env) :: starEach es X.env) (h3 : (backTo pos (starEach es X.env)).any (·.1) = false)
    (I : Inv X pins σ H s) (at1 : σ[i]? = some (some (.ref fa))) (h : t σ H fun xs H1 => sp xs H1 Q E0) : wpAny (model X.prog X.w) X.A (eval (.Call (.Name x p) (e :: es) [] pos) X.env) (EP X pins σ Q) X.xe s := by
  refine wpAny_Call_Name_kw (thn ((pe_var (pos := p) hN hv h0 h1).run pins s σ H (fun v H1 => v = .ref fa ∧ H1 = H) I ⟨.ref fa, at1, rfl, rfl⟩) ?_)
  rintro u s1 ⟨v, H1, I1, rv, rfl, rfl⟩
  obtain rfl : u = Value.ref fa := rv
  refine PySem.W.callWith_K (h₀ := X.base) I1.ok.mod.kin hk (thn (ha.run pos pins s1 σ _ _ I1 h) ?_) h2 h3
  rintro ys s2 ⟨xs, H2, I2, rr, q⟩
  exact ⟨I2.kIn, F.call room ng hb I2 rr q⟩
/-- how a def with one keyword binds -/
def KB (K : PySem.W.Frag) (fd : FuncData) (ps : List Str) (k : Str) : Prop := ∀ (s : Shared) (us : List Value) (v : Value), K.In s.heap → (us ++ [v]).length = ps.length → BindsTo s fd ⟨us, [(k, v)]⟩ (ps.zip (us ++ [v]))
/-- f(e, .., k = z) -/
theorem pe_callGK {k : Str} {z : Expr} {kpos : Pos} {tz : TE} (F : GFn X.prog X.w X.K X.mg X.base n fa fd ps sp) (room : Room n X.A) (ng : NoG X.A) (hg : Gl X x) (hm : X.mg x = some (.ref fa)) (hk : PySem.W.keepIn X.K (.ref fa) = true) (hb : KB X.K fd ps k)
    (ha : PA X (e :: es) t) (hz : PE X z tz) (h1 : (x == ("__debug__" : Str)) = false) (h2 : starEach (e :: es) X.env = (false, eval e X.env) :: starEach es X.env) (h3 : (backTo pos (starEach es X.env)).any (·.1) = false) :
    PE X (.Call (.Name x p) (e :: es) [⟨some k, z, kpos⟩] pos) (fun σ H Q => t σ H fun xs H1 => tz σ H1 fun y H2 => sp (xs ++ [y]) H2 Q E0) := by
  have hpl : ((backTo pos (starEach (e :: es) X.env)).any (·.1) || (backToKw pos (keywordEach [⟨some k, z, kpos⟩] X.env)).any (·.1.isNone)) = false := by
    have q : (backTo pos (starEach (e :: es) X.env)).any (·.1) = false := by
      rw [h2]
      show (false || (backTo pos (starEach es X.env)).any (·.1)) = false
      rw [h3]; rfl
    rw [q]; rfl
  refine ⟨fun pins s σ H Q I h => wpAny_Call_Name_kw (ld_glob I hg hm (PySem.W.callWith_KW (h₀ := X.base) I.ok.mod.kin hk rfl (thn (ha.run pos pins s σ H _ I h) ?_) hpl h2) h1)⟩
  rintro us s1 ⟨vs, H1, I1, r, q⟩
  show wpAny _ _ (evalAll ((do let v ← eval z X.env; standAt pos; pure v) :: [])) _ _ s1
  refine wpAny_evalAll_cons (wpAny_bind (thn (hz.run pins s1 σ H1 _ I1 q) fun u s2 ⟨y, H2, I2, ru, q2⟩ => wpAny_bind (wpAny_standAt (wpAny_pure (wpAny_evalAll_nil ?_)))))
  refine ⟨I2.kIn, ?_⟩
  have r2 : Vals (vs ++ [y]) (us ++ [u]) := Vals.append r (.cons ru .nil)
  have hl : (us ++ [u]).length = ps.length := by rw [← r2.length]; exact F.len _ _ _ _ q2
  refine wpAny_call (codeAny_mono (F.go X.A X.stack s2 H2 ⟨us, [(k, u)]⟩ (us ++ [u]) (vs ++ [y]) Q E0 room ng I2.env0 (hb s2 us u I2.kIn hl) r2 q2) ?_)
  rintro (e | fl) s3 z
  · exact z.elim
  · cases fl with
    | ret u => exact I2.after z
    | _ => exact z.elim
theorem pe_callG0 (F : GFn X.prog X.w X.K X.mg X.base n fa fd ps sp) (room : Room n X.A) (ng : NoG X.A) (hg : Gl X x) (hm : X.mg x = some (.ref fa)) (hk : PySem.W.keepIn X.K (.ref fa) = true) (hb : Binds X.K fd ps []) (h1 : (x == ("__debug__" : Str)) = false) :
    PE X (.Call (.Name x p) [] [] pos) (fun σ H Q => sp [] H Q E0) :=
  ⟨fun pins s σ H Q I h => wpAny_Call_Name_kw (ld_glob I hg hm (PySem.W.callWith_K0 I.kIn hk (F.call (ys := []) room ng hb I .nil h)) h1)⟩
end

/-! ### methods, classes -/
section
variable {X : Cx} {n k : Nat} {fa C : Addr} {fd : FuncData} {ps : List Str} {sp : Sp} {x m f : Str} {p pos apos : Pos} {e o : Expr} {es : List Expr} {t : TA} {ta : TE}
/-- a method's call: the receiver, its method, then the call -/
theorem wp_meth {A : Around} {M : Model} {env : Env} {Q E : Value → Shared → Prop} {s : Shared} (hb : attributeBase o m env (eval o env) = eval o env) (hf : methodCallForm (es.length + ([] : List Keyword).length) (backTo pos (starEach es env)) (backToKw pos (keywordEach [] env)) = true)
    (hl : (apos.endLine == pos.line) = true) (h : ∀ pl : Sem Bool, wpAny M A (eval o env) (fun ov s1 => wpAny M A (getMethod ov m pl) (fun fx s2 => wpAny M A (callWith pos fx.1 fx.2 (backTo pos (starEach es env)) (backToKw pos (keywordEach [] env))) (fun v s => Q v s) (fun v s => E v s) s2) (fun v s => E v s) s1) (fun v s => E v s) s) :
    wpAny M A (eval (.Call (.Attribute o m apos) es [] pos) env) (fun v s => Q v s) (fun v s => E v s) s := by
  have hp : methodCallPos true o env apos pos = pure pos := by unfold methodCallPos; rw [hl]; rfl
  rw [arm_eval_Call, hb]
  refine wpAny_bind (wpAny_mono (h (do return (← importBound o env).getD true)) (fun ov s1 h1 => ?_) fun _ _ z => z)
  refine wpAny_bind (wpAny_standAt ?_)
  unfold methodCall
  rw [hf, hp]
  refine wpAny_bind (wpAny_holding (wpAny_mono (show wpAny M A (getMethod ov m _) _ _ s1 from h1) (fun fx s2 h2 => ?_) fun _ _ z => z))
  exact wpAny_bind (wpAny_pure h2)
theorem pe_methG (he : PE X o ta) (c : Cls X.K C) (hm : Meth X.K C m fa) (F : GFn X.prog X.w X.K X.mg X.base n fa fd ps sp) (room : Room n X.A) (ng : NoG X.A) (hb : Binds X.K fd ps []) (ha : PA X (e :: es) t)
    (h1 : attributeBase o m X.env (eval o X.env) = eval o X.env) (h2 : methodCallForm ((e :: es).length + ([] : List Keyword).length) (backTo pos (starEach (e :: es) X.env)) (backToKw pos (keywordEach [] X.env)) = true) (h3 : (apos.endLine == pos.line) = true)
    (h5 : starEach (e :: es) X.env = (false, eval e X.env) :: starEach es X.env) (h6 : (backTo pos (starEach es X.env)).any (·.1) = false) :
    PE X (.Call (.Attribute o m apos) (e :: es) [] pos) (fun σ H Q => ta σ H fun x H1 => ∃ a dx fs, x = .ref a ∧ H1 a = some (.ins C dx fs) ∧ fs.lookup m = none ∧ t σ H1 fun vs H2 => sp (.ref a :: vs) H2 Q E0) := by
  refine ⟨fun pins s σ H Q I h => wp_meth h1 h2 h3 fun pl => thn (he.run pins s σ H _ I h) fun u s1 z => ?_⟩
  obtain ⟨_, H1, I1, rx, a, dx, fs, rfl, ea, l, q⟩ := z
  obtain rfl : u = Value.ref a := rx
  refine getmeth_ok I1 ea c hm l (PySem.W.callWith_K (first := [.ref a]) (h₀ := X.base) I1.ok.mod.kin hm.kp (thn (ha.run pos pins s1 σ H1 _ I1 q) ?_) h5 h6)
  rintro us s2 ⟨vs, H2, I2, r, q2⟩
  exact ⟨I2.kIn, F.call (ys := .ref a :: us) (xs := .ref a :: vs) room ng hb I2 (.cons rfl r) q2⟩
theorem pe_methG0 (he : PE X o ta) (c : Cls X.K C) (hm : Meth X.K C m fa) (F : GFn X.prog X.w X.K X.mg X.base n fa fd ps sp) (room : Room n X.A) (ng : NoG X.A) (hb : Binds X.K fd ps [])
    (h1 : attributeBase o m X.env (eval o X.env) = eval o X.env) (h3 : (apos.endLine == pos.line) = true) :
    PE X (.Call (.Attribute o m apos) [] [] pos) (fun σ H Q => ta σ H fun x H1 => ∃ a dx fs, x = .ref a ∧ H1 a = some (.ins C dx fs) ∧ fs.lookup m = none ∧ sp [.ref a] H1 Q E0) := by
  refine ⟨fun pins s σ H Q I h => wp_meth h1 rfl h3 fun pl => thn (he.run pins s σ H _ I h) fun u s1 z => ?_⟩
  obtain ⟨_, H1, I1, rx, a, dx, fs, rfl, ea, l, q⟩ := z
  obtain rfl : u = Value.ref a := rx
  exact getmeth_ok I1 ea c hm l (PySem.W.callWith_K0 (first := [.ref a]) I1.kIn hm.kp (F.call (ys := [.ref a]) (xs := [.ref a]) room ng hb I1 (.cons rfl .nil) q))
/-- a class called -/
theorem pe_makeG (M : Mk X.K C fa) (F : GFn X.prog X.w X.K X.mg X.base k fa fd ps sp) (room : Room (k + 1) X.A) (ng : NoG X.A) (hg : Gl X x) (hm : X.mg x = some (.ref C)) (hb : Binds X.K fd ps [])
    (ha : PA X (e :: es) t) (h1 : (x == ("__debug__" : Str)) = false) (h2 : starEach (e :: es) X.env = (false, eval e X.env) :: starEach es X.env) (h3 : (backTo pos (starEach es X.env)).any (·.1) = false) :
    PE X (.Call (.Name x p) (e :: es) [] pos) (fun σ H Q => t σ H fun vs H1 => ∀ a d, H1 a = none → H1 d = none → d ≠ a → sp (.ref a :: vs) (upd (upd H1 d (.own a)) a (.ins C d [])) (fun v H2 => v = .non ∧ Q (.ref a) H2) E0) := by
  refine ⟨fun pins s σ H Q I h => wpAny_Call_Name_kw (ld_glob I hg hm (PySem.W.callWith_K (h₀ := X.base) I.ok.mod.kin M.kp (thn (ha.run pos pins s σ H _ I h) ?_) h2 h3) h1)⟩
  rintro us s1 ⟨vs, H1, I1, r, q⟩
  refine ⟨I1.kIn, ?_⟩
  have q := q (s1.heap.objs.size + 1) s1.heap.objs.size (I1.hok.fresh (Nat.le_succ _)) (I1.hok.fresh (Nat.le_refl _)) (Nat.ne_of_lt (Nat.lt_succ_self _))
  have J := Inv.made (C := C) I1
  have rr : Vals (V.ref (s1.heap.objs.size + 1) :: vs) (Value.ref (s1.heap.objs.size + 1) :: us) := .cons rfl r
  have hl : (Value.ref (s1.heap.objs.size + 1) :: us ++ []).length = ps.length := by rw [List.append_nil, ← rr.length]; exact F.len _ _ _ _ q
  have b := hb _ (Value.ref (s1.heap.objs.size + 1) :: us) J.kIn hl
  rw [List.append_nil] at b
  refine wpAny_call (make_map (f := fa) I1.kIn M.makes M.init (beq_iff_eq.mp M.fn) (codeAny_mono (F.go _ X.stack _ _ ⟨_, []⟩ _ _ _ E0 (room.make C us []) ng (J.env0.make C us []) b rr q) ?_))
  rintro (z | fl) s2 z2
  · exact z2.elim
  · cases fl with
    | ret u =>
      obtain ⟨v, H2, I2, rv, rfl, q3⟩ := J.after z2
      exact ⟨rv, V.ref (s1.heap.objs.size + 1), H2, I2, rfl, q3⟩
    | _ => exact z2.elim
theorem pg_fldG (he : PE X o ta) (hs : ∀ v, assign (.Attribute o f pos) X.env v = (do
      let ov ← holding [v] (eval o X.env)
      standAt pos.atName
      holding [v, ov] (setAttr ov f v)
      release [v, ov] [])) : PG X (.Attribute o f pos) (fun v σ H Q => ta σ H fun x H1 => ∃ a C dx fs, x = .ref a ∧ H1 a = some (.ins C dx fs) ∧ Cls X.K C ∧ NoAttr X.K C f ∧ fs.length < 1000 ∧ Q σ (upd H1 a (.ins C dx (putF f v fs)))) := by
  refine ⟨fun pins s σ H v u Q I r h => ?_⟩
  rw [hs]
  refine wpAny_bind (wpAny_holding (thn (he.run pins s σ H _ I h) fun ov s1 z => ?_))
  obtain ⟨_, H1, I1, rx, a, C, dx, fs, rfl, ea, c, nn, l, q⟩ := z
  obtain rfl : ov = Value.ref a := rx
  refine wpAny_bind (wpAny_standAt (wpAny_bind (wpAny_holding (setattr_ok I1 ea c nn l r fun s2 I2 => ?_))))
  exact wpAny_release ⟨σ, _, I2, q⟩
end

/-! ### the head -/
section
variable {P : Program} {w : World} {K : PySem.W.Frag} {mg mb : Str → Option Value} {n : Nat} {fa scr : Addr} {fd : FuncData} {x : Str} {sp : Sp} {s1 : Shared} {us : List Value} {ns : List Int}
/-- what is asked of the law's call -/
abbrev LawEnd (s1 : Shared) (r : Result) (s2 : Shared) : Prop := r = .ok (.ret (.bool true)) ∧ OldK s1.heap s2.heap ∧ s2.os = s1.os ∧ AllBare s2.gens
/-- .. of a heap of values that knows the script alone -/
theorem head_at {H : Hp} (KX : K.In s1.heap) (g1 : s1.heap.Ns mainGlobals mg) (g2 : s1.heap.Ns builtinsNs mb) (g3 : ∀ x : Str, x ≠ "__name__" → mb x = bootBuiltins x) (nl : s1.heap.NoLimit) (ng : s1.gens = #[])
    (obj : s1.heap.get? scr = some { cls := .type "list", data := .seq us.toArray }) (room : Room n callerA) (F : ∀ base : Heap, K.In base → base.Ns mainGlobals mg → GFn P w K mg base n fa fd [x] sp)
    (bs : ∀ (s : Shared) (u : Value), BindsTo s fd ⟨[u], []⟩ [(x, u)]) (only : Only H) (hq : sp [.ref scr] H (fun v _ => v = .bl true) E0) (ok : HOk P w H s1.heap) (alone : ∀ b, H b ≠ none → b = scr ∧ K.lookup scr = none) :
    codeAny (model P w) callerA (.call (.ref fa) ⟨[.ref scr], []⟩) (LawEnd s1) s1 := by
  -- the heap without the script
  have out : ∀ {b : Addr} {o : Obj}, s1.heap.get? b = some o → (b = scr → H b = none) → (hidT s1.heap H).get? b = some o := fun {b o} e z => hidT_get e (by
    cases q : H b with
    | none => rfl
    | some v =>
      have y := alone b (by rw [q]; simp)
      rw [z y.1] at q
      cases q)
  have spaces : ∀ {b : Addr} {m : Str → Option Value}, s1.heap.Ns b m → (hidT s1.heap H).Ns b m := by
    rintro b m ⟨o, es, ep, e, d, r⟩
    refine ⟨o, es, ep, out e fun z => ?_, d, r⟩
    subst z
    rw [obj] at e
    cases e
    cases (show Data.seq us.toArray _ = Data.dict es ep from d)
  have KB : K.In (hidT s1.heap H) := fun b o e => out (KX b o e) fun z => by
    subst z
    cases q : H b with
    | none => rfl
    | some v =>
      have y := (alone b (by rw [q]; simp)).2
      rw [y] at e
      cases e
  have md : Mod K mg (hidT s1.heap H) := by
    obtain ⟨mc, c1, c2⟩ := nl
    exact ⟨KB, spaces g1, ⟨mb, spaces g2, g3⟩, mc, spaces c1, c2⟩
  have e0 : Env0 P w K mg (hidT s1.heap H) callerA [] s1 H :=
    ⟨rfl, md, fun b o e => of_hidT e, Nat.le_of_eq (hidT_size _ _), trivial, fun b z => (by cases z), ok, AllBare.of_eq ng⟩
  refine codeAny_mono ((F _ KB (spaces g1)).go callerA [] s1 H ⟨[.ref scr], []⟩ [.ref scr] [.ref scr] _ _ room rfl e0 (bs s1 (.ref scr)) (.cons rfl .nil) hq) ?_
  rintro (e | fl) s2 z
  · exact z.elim
  cases fl with
  | ret u =>
    obtain ⟨v, H2, z1, z2, un, ok2, rv, rfl⟩ := z
    obtain rfl : u = Value.bool true := rv
    refine ⟨rfl, OldK.of_keep fun b o e => ?_, z1, z2⟩
    rcases only b with q | ⟨o2, xs, q⟩
    · exact un.keep b o e q (fun z => by cases z) (by simp)
    · have a1 := (ok b _ q).1
      have a2 := (ok2 b _ (un.frzs b o2 _ q)).1
      rw [e] at a1
      cases a1
      exact a2
  | _ => exact z.elim
theorem headG (KX : K.In s1.heap) (g1 : s1.heap.Ns mainGlobals mg) (g2 : s1.heap.Ns builtinsNs mb) (g3 : ∀ x : Str, x ≠ "__name__" → mb x = bootBuiltins x) (nl : s1.heap.NoLimit) (ng : s1.gens = #[])
    (obj : s1.heap.get? scr = some { cls := .type "list", data := .seq us.toArray }) (isI : IntsAre us ns) (few : ns.length ≤ sizeLine) (room : Room n callerA) (F : ∀ base : Heap, K.In base → base.Ns mainGlobals mg → GFn P w K mg base n fa fd [x] sp)
    (bs : ∀ (s : Shared) (u : Value), BindsTo s fd ⟨[u], []⟩ [(x, u)]) (hq : ∀ H : Hp, Only H → SqL K H scr (ns.map V.int) → sp [.ref scr] H (fun v _ => v = .bl true) E0) :
    codeAny (model P w) callerA (.call (.ref fa) ⟨[.ref scr], []⟩) (LawEnd s1) s1 := by
  have vals := vals_ints isI
  cases known : K.lookup scr with
  | some o =>
    have e := KX scr o known
    rw [obj] at e
    cases e
    have non : Only fun _ => none := fun _ => .inl rfl
    refine head_at KX g1 g2 g3 nl ng obj room F bs non (hq _ non (.inr ⟨_, us.toArray, _, known, rfl, rfl, rfl, ?_, by simpa using vals⟩)) (fun _ _ z => by cases z) fun b z => absurd rfl z
    rw [List.size_toArray, isI.length]
    exact few
  | none =>
    let o : Obj := { cls := .type "list", data := .seq us.toArray }
    let H : Hp := fun b => if b = scr then some (.frz o (.lst (ns.map V.int))) else none
    have at1 : H scr = some (.frz o (.lst (ns.map V.int))) := if_pos rfl
    have at2 : ∀ b, b ≠ scr → H b = none := fun b z => if_neg z
    have one : Only H := fun b => by
      by_cases z : b = scr
      · exact .inr ⟨o, _, z ▸ at1⟩
      · exact .inl (at2 b z)
    refine head_at (H := H) KX g1 g2 g3 nl ng obj room F bs one (hq _ one (.inl (.inr ⟨o, at1⟩))) (fun b u z => ?_) fun b z => ?_
    · by_cases y : b = scr
      · subst y
        rw [at1] at z
        cases z
        exact ⟨obj, by rw [List.length_map]; exact few, us, _, vals, obj⟩
      · rw [at2 b y] at z
        cases z
    · refine ⟨Decidable.byContradiction fun y => z (at2 b y), known⟩
end
theorem walkG {l : PySem.W.OpenLaw} {m n : Nat} {q : Program} {loose : List Str} {XP : (Str → Option Value) → Heap → Prop} {YP : World → Heap → Prop} {d : DefRec} {K : Params → PySem.W.Frag} {sp : World → Sp} {x : Str}
    (hm : l.most = some m) (hm2 : m ≤ sizeLine) (hdf : d.params.defaults = []) (room : Room n callerA) (hY : ∀ (w : World) (h : Heap), YP w h → (K w.params).In h)
    (F : ∀ (w : World) (mg : Str → Option Value) (fa : Addr) (h : Heap), (K w.params).In h → h.Ns mainGlobals mg → mg d.name = some (.ref fa) →
      ∃ fd : FuncData, (∀ (s : Shared) (u : Value), BindsTo s fd ⟨[u], []⟩ [(x, u)]) ∧ ∀ base : Heap, (K w.params).In base → base.Ns mainGlobals mg → GFn l.prog w (K w.params) mg base n fa fd [x] (sp w))
    (hq : ∀ (w : World) (H : Hp) (a : Addr) (ns : List Int), ns.length ≤ m → Only H → SqL (K w.params) H a (ns.map V.int) → sp w [.ref a] H (fun v _ => v = .bl true) E0) :
    PySem.W.WalkO q loose XP YP l.row.toRowW d [] (fun f vs => PySem.call f vs) := by
  refine Att.attach_call hm hdf fun w s0 s1 mg mb fa o pm cd doc a us ns G Y _ _ _ hmg obj isI few ng => ?_
  obtain ⟨fd, bs, hF⟩ := F w mg fa _ (hY w _ Y) G.T.g hmg
  exact headG (hY w _ Y) G.T.g G.T.b G.T.builtins G.T.nolimit ng obj isI (Nat.le_trans few hm2) room hF bs fun H h1 h2 => hq w H a ns few h1 h2
end MP
set_option Elab.async false
set_option linter.all false
set_option maxRecDepth 100000
set_option maxHeartbeats 4000000
/-! An expression does what it means. -/
namespace MP
open PySem PySem.Spec PyProof.Rows L2

/-- no exception is wished for -/
abbrev U0 : Wx := fun _ _ => False
/-- a def's promise: what its meaning gives -/
def spF (K : PySem.W.Frag) (F : Fun') (f : Nat) : Sp := fun vs H Q _ => ∃ S μ ws, StoRep K H S μ ∧ RepWs K H μ ws vs ∧ PostE K U0 H μ (F f ws S) (VP K Q)
/-- what stands in a dict of the module at the key z -/
def CdAt (K : PySem.W.Frag) (d : Addr) (kvs : List (Str × D)) (z : Str) : Prop := match valC kvs z with
  | none => PySem.W.nsIn K d z = some none
  | some dt => ∃ u v, PySem.W.nsIn K d z = some (some u) ∧ RelV v u ∧ ∀ H μ, RepD K H μ dt v
/-- a def, by its number and name -/
def FnP (X : Cx) (F : Fun') (n f : Nat) (x : Str) : Prop := ∃ fa fd ps, (X.mg x = some (.ref fa) ∧ PySem.W.nsIn X.K mainGlobals x = some (some (.ref fa))) ∧ PySem.W.keepIn X.K (.ref fa) = true ∧ Binds X.K fd ps [] ∧ GFn X.prog X.w X.K X.mg X.base n fa fd ps (spF X.K F f)
/-- a class that may be called -/
def MkP (X : Cx) (F : Fun') (n f : Nat) (x : Str) : Prop := ∃ Cd, (X.mg x = some (.ref Cd) ∧ PySem.W.nsIn X.K mainGlobals x = some (some (.ref Cd))) ∧ PySem.W.keepIn X.K (.ref Cd) = true ∧ (∀ S, F f [] S = .no) ∧ ((∀ ws S, F f ws S = .no) ∨
  ∃ fa fd ps k F' i, k + 1 ≤ n ∧ Mk X.K Cd fa ∧ Binds X.K fd ps [] ∧ GFn X.prog X.w X.K X.mg X.base k fa fd ps (spF X.K F' i) ∧ ∀ ws S, F f ws S = .no ∨ F f ws S = newI x (F' i) ws S)
/-- a def with one keyword, by its number, its keyword and name -/
def KwP (X : Cx) (F : Fun') (n f : Nat) (k x : Str) : Prop := ∃ fa fd ps, (X.mg x = some (.ref fa) ∧ PySem.W.nsIn X.K mainGlobals x = some (some (.ref fa))) ∧ PySem.W.keepIn X.K (.ref fa) = true ∧ KB X.K fd ps k ∧ GFn X.prog X.w X.K X.mg X.base n fa fd ps (spF X.K F f)
structure XF (X : Cx) (C : Ck) (G : Nat → Option W) (F : Fun') (n : Nat) : Prop where
  hN : X.N = C.N
  nd : C.N.Nodup
  calm : X.calm = true
  hr : Room n X.A
  hg : NoG X.A
  glb : ∀ g x w, C.gl g = some x → G g = some w → ∃ v u, X.mg x = some u ∧ RelV v u ∧ ∀ H μ, RepW X.K H μ w v
  cds : ∀ g x kvs, C.gl g = some x → G g = some (.cdi kvs) → ∃ d es m, X.mg x = some (.ref d) ∧ KDict X.K X.w d es m ∧ ∀ z, CdAt X.K d kvs z
  blt : ∀ x, x ∈ C.blt → X.mg x = none
  nms : ∀ i x, G (fnAt + i) = some (.dat (.str x)) → FnP X F n i x
  fns : ∀ f x, C.fn f = some x → FnP X F n f x ∨ MkP X F n f x
  fls : ∀ x f, (x, f) ∈ C.cf → ∃ Cd, PySem.W.nsIn X.K mainGlobals x = some (some (.ref Cd)) ∧ Cls X.K Cd ∧ NoAttr X.K Cd f
  mts : ∀ x m i, (x, m, i) ∈ C.cm → ∃ Cd fa fd ps, PySem.W.nsIn X.K mainGlobals x = some (some (.ref Cd)) ∧ Cls X.K Cd ∧ Meth X.K Cd m fa ∧ Binds X.K fd ps [] ∧ GFn X.prog X.w X.K X.mg X.base n fa fd ps (spF X.K F i)
  kws : ∀ f k x, C.ck f = some (k, x) → KwP X F n f k x
theorem XF.blk {X : Cx} {C : Ck} {G : Nat → Option W} {F : Fun'} {n : Nat} (x : XF X C G F n) (s : Shared) (H : Hp) (scope : Scope) (cenv : Env) (fp : List Addr) : XF (X.blk s H scope cenv fp) C G F n :=
  ⟨x.hN, x.nd, x.calm, x.hr, x.hg, x.glb, x.cds, x.blt, x.nms, x.fns, x.fls, x.mts, x.kws⟩

/-! ### small facts of the look -/
theorem and_of {a b : Bool} (h : (a && b) = true) : a = true ∧ b = true := by simpa using h
theorem dec_of {p : Prop} [Decidable p] (h : decide p = true) : p := of_decide_eq_true h
theorem not_of' {b : Bool} (h : (!b) = true) : b = false := by simpa using h
theorem star_cons {e : Expr} {es : List Expr} {env : Env} (h : noStar e = true) : starEach (e :: es) env = (false, eval e env) :: starEach es env := by
  cases e <;> first | rfl | cases h
theorem visB_vis {sc : Scope} {x : Str} (h : visB sc x = true) : Vis sc x := by
  unfold visB at h
  split at h
  · exact .inl (by assumption)
  · exact .inr (.inl (by assumption))
  · exact .inr (.inr (by assumption))
  · cases h
theorem plainN_d {x : Str} (h : plainN x = true) : (x == ("__debug__" : Str)) = false := not_of' (and_of (and_of h).1).1
theorem plainN_c {x : Str} (h : plainN x = true) : (x == ("__classdict__" : Str)) = false := not_of' (and_of (and_of h).1).2
theorem plainN_n {x : Str} (h : plainN x = true) : x ≠ ("__name__" : Str) := dec_of (and_of h).2
theorem glB_gl {X : Cx} {sc : Scope} {x : Str} (hs : X.env.scope = sc) (h : glB sc x = true) : Gl X x := by
  show X.env.scope.names.lookup x = some .globalImplicit
  rw [hs]; exact dec_of h
theorem nostar_all {C : Ck} {top : Bool} {env : Env} {sc : Scope} (pos : Pos) : ∀ (es : E) (xs : List Expr), okA C top es sc xs = true → ((backTo pos (starEach xs env)).any (·.1) = false ∧ (backTo pos (starEach xs env)).all (fun x => !x.1) = true) := by
  intro es
  induction es with
  | nil =>
    intro xs h
    cases xs with
    | nil => exact ⟨rfl, rfl⟩
    | cons _ _ => cases h
  | cons e es _ ih =>
    intro xs h
    cases xs with
    | nil => cases h
    | cons x xs =>
      have h : (okE C top e sc x && noStar x && okA C top es sc xs) = true := h
      obtain ⟨h1, h2⟩ := and_of h
      obtain ⟨a, b⟩ := ih xs h2
      rw [star_cons (and_of h1).2]
      constructor
      · show (false || (backTo pos (starEach xs env)).any (·.1)) = false
        rw [a] <;> rfl
      · show (!false && (backTo pos (starEach xs env)).all (fun x => !x.1)) = true
        rw [b] <;> rfl
  | _ => intro xs h; cases h
theorem plain_true {e : Expr} {env : Env} (h : plainT e = true) : ∀ whole, isTrue e env whole = (do let v ← whole; standAt e.pos; holding [v] (truthy v)) := by
  intro whole
  cases e with
  | UnaryOp op a p => cases op <;> first | rfl | cases h
  | BoolOp => cases h
  | IfExp => cases h
  | Compare => cases h
  | _ => rfl
theorem ix_plain {e : Expr} (h : noSlice e = true) : PlainIx e := by
  intro o i
  cases e <;> first | rfl | cases h
theorem noset_fold {e : Expr} {env : Env} (h : noSet e = true) : ∀ x, foldedSetIterable e env x = pure x := by
  intro x
  cases e <;> first | rfl | cases h
theorem super_base {o : Expr} {attr : Str} {env : Env} {w : Sem Value} (h : noSuper o = true) : attributeBase o attr env w = w := by
  unfold attributeBase
  split
  · cases h
  · rfl
theorem marks_two {o1 o2 : CmpOp} {a b : Expr} (h : behindInMarks o2 b = false) : lastMarks [o1, o2] [a, b] = false := h

/-! ### readings -/
section
variable {K : PySem.W.Frag} {U : Wx} {σ : L2.St} {H : Hp} {Q : VK}
def TOof (K : PySem.W.Frag) (U : Wx) (r : Loc → Sto → Rs (Option Int)) : TO := fun σ H Q => ∃ l S μ, LocRep K H μ l σ ∧ StoRep K H S μ ∧ PostE K U H μ (r l S) fun o H' _ _ => Q o H'
def TBof (K : PySem.W.Frag) (U : Wx) (r : Loc → Sto → Rs Bool) : TT := fun σ H Q => ∃ l S μ, LocRep K H μ l σ ∧ StoRep K H S μ ∧ PostE K U H μ (r l S) fun o H' _ _ => Q o H'
/-- a target -/
def TGof (K : PySem.W.Frag) (U : Wx) (ts : List Nat) (r : W → Loc → Sto → Rs Loc) : TG := fun v σ H Q => ∃ l S μ w, LocRep K H μ l σ ∧ StoRep K H S μ ∧ RepW K H μ w v ∧ PostE K U H μ (r w l S) fun l' H' μ' S' => ∀ σ', LocRep K H' μ' l' σ' → (σ'.length = σ.length ∧ ∀ i, i ∉ ts → σ'[i]? = σ[i]?) → Q σ' H'
def TGsof (K : PySem.W.Frag) (U : Wx) (ts : List Nat) (r : List D → Loc → Sto → Rs Loc) : TGs := fun vs σ H Q => ∃ l S μ ds, LocRep K H μ l σ ∧ StoRep K H S μ ∧ RepDs K H μ ds vs ∧ PostE K U H μ (r ds l S) fun l' H' μ' S' => ∀ σ', LocRep K H' μ' l' σ' → (σ'.length = σ.length ∧ ∀ i, i ∉ ts → σ'[i]? = σ[i]?) → Q σ' H'
theorem te_pure {w : W} {v : V} {σ : L2.St} {H : Hp} {Q : VK} (hr : ∀ H μ, RepW K H μ w v) (h : TEof K U (fun _ S => .ok w S) σ H Q) : tC v σ H Q := by
  obtain ⟨l, S, μ, hl, hS, hp⟩ := h
  exact hp H μ (Ext.refl H μ) hS v (hr H μ)
theorem te_var {k : Nat} {σ : L2.St} {H : Hp} {Q : VK} (h : TEof K U (fun l S => getV l k S) σ H Q) : tVar k σ H Q := by
  obtain ⟨l, S, μ, hl, hS, hp⟩ := h
  have hp : PostE K U H μ (getV l k S) (VP K Q) := hp
  unfold getV at hp
  split at hp
  · rename_i w e
    obtain ⟨v, e2, rv⟩ := hl.2 k w e
    exact ⟨v, e2, hp H μ (Ext.refl H μ) hS v rv⟩
  · exact hp.elim
/-- an answer that is a bool -/
theorem bool_rep {w : W} {H : Hp} {μ : Mu} {b : Bool} (h : RepW K H μ w (.bl b)) (e : ∃ c, w = .dat (.bool c)) : w = .dat (.bool b) := by
  obtain ⟨c, rfl⟩ := e
  have h : RepD K H μ (.bool c) (.bl b) := h
  cases h
  rfl
theorem ifW_at {α : Type} {w : W} {A B : Rs α} {H : Hp} {μ : Mu} {R : α → Hp → Mu → Sto → Prop} (h : PostE K U H μ (ifW w A B) R) : ∃ b : Bool, w = .dat (.bool b) ∧ PostE K U H μ (if b = true then A else B) R := by
  unfold ifW at h
  split at h
  · exact ⟨true, rfl, h⟩
  · exact ⟨false, rfl, h⟩
  · exact h.elim
theorem post_if {α : Type} {b : Bool} {A B : Rs α} {H : Hp} {μ : Mu} {R : α → Hp → Mu → Sto → Prop} {P P' : Prop} (h : PostE K U H μ (if b = true then A else B) R) (h1 : PostE K U H μ A R → P) (h2 : PostE K U H μ B R → P') : if b = true then P else P' := by
  cases b with
  | true => rw [if_pos rfl] at h ⊢; exact h1 h
  | false => rw [if_neg Bool.false_ne_true] at h ⊢; exact h2 h
theorem blrep {H : Hp} {μ : Mu} {b : Bool} {v : V} (h : RepW K H μ (.dat (.bool b)) v) : v = .bl b := by
  have h : RepD K H μ (.bool b) v := h
  cases h; rfl
theorem te_args2 {ra : Loc → Sto → Rs (List W)} {f : List W → Sto → Rs W} (h : TEof K U (fun l S => (ra l S).bind f) σ H Q) : TAof K U ra σ H fun vs H1 => rOfL K U (fun S ws => f ws S) vs H1 Q := by
  obtain ⟨l, S, μ, hl, hS, hp⟩ := h
  exact ⟨l, S, μ, hl, hS, hp.bind.imp fun x H1 μ1 S1 e1 s1 q1 v rv => ⟨S1, μ1, x, s1, rv, q1⟩⟩
theorem dsOf_rep : ∀ {ws : List W} {vs : List V} {ds : List D} {H : Hp} {μ : Mu}, dsOf ws = some ds → RepWs K H μ ws vs → RepDs K H μ ds vs
  | [], _, ds, _, _, e, h => by
    cases h
    cases e
    exact .nil
  | w :: ws, _, ds, H, μ, e, h => by
    cases h with
    | cons r t =>
      unfold dsOf at e
      cases w with
      | dat d =>
        cases e2 : dsOf ws with
        | none => simp only [dOf, e2] at e; cases e
        | some xs =>
          simp only [dOf, e2] at e
          cases e
          exact .cons r (dsOf_rep e2 t)
      | obj p => simp only [dOf] at e; cases e
      | scr p => simp only [dOf] at e; cases e
      | cdi p => simp only [dOf] at e; cases e
      | fn _ _ => simp only [dOf] at e; cases e
      | cst p => simp only [dOf] at e; cases e
theorem wipe_rep {H : Hp} {μ : Mu} {l : Loc} {σ : L2.St} (h : LocRep K H μ l σ) : ∀ vs : List Nat, LocRep K H μ (wipeL l vs) (wipe σ vs)
  | [] => h
  | v :: vs => by
    have ih := wipe_rep h vs
    show LocRep K H μ ((wipeL l vs).set v none) ((wipe σ vs).set v none)
    refine ⟨by simp [ih.1], fun i w q => ?_⟩
    by_cases e : v = i
    · subst e
      by_cases hv : v < (wipeL l vs).length
      · rw [List.getElem?_set_self hv] at q; cases q
      · rw [List.getElem?_eq_none (by simpa using hv)] at q; cases q
    · rw [List.getElem?_set_ne e] at q ⊢
      exact ih.2 i w q
end

/-! ### what is walked -/
structure Walks (K : PySem.W.Frag) (J : It) (ds : List D) (A : Hp → Mu → Prop) : Prop where
  up : ∀ {H μ H' μ'}, A H μ → Ext H μ H' μ' → A H' μ'
  grow : ∀ {H μ p xs ys}, A H μ → H p = some (.lst xs) → p ∈ μ.hid → A (upd H p (.lst ys)) μ
  go : ∀ {H μ} {i : Nat}, A H μ → i < ds.length → J.go i H
  yld : ∀ {H μ} {i : Nat} {x H' d}, A H μ → J.yld i H x H' → ds[i]? = some d → Ext H μ H' μ ∧ (∀ S, StoRep K H S μ → StoRep K H' S μ) ∧ RepD K H' μ d x
  stop : ∀ {H μ} {i : Nat}, A H μ → ds.length ≤ i → J.stop i H
def TIof (K : PySem.W.Frag) (U : Wx) (r : Loc → Sto → Rs (List D)) : TI := fun σ H R => ∃ l S μ, LocRep K H μ l σ ∧ StoRep K H S μ ∧ PostE K U H μ (r l S) fun ds H' μ' _ => ∀ J A, Walks K J ds A → A H' μ' → R J H'
section
variable {K : PySem.W.Frag}
theorem sqL_one {H : Hp} {μ : Mu} {w : W} {a : Addr} {ds : List D} (h : RepW K H μ w (.ref a)) (hw : w = .dat (.list ds) ∨ w = .scr ds) : ∃ vs, SqL K H a vs ∧ RepDs K H μ ds vs := by
  rcases hw with rfl | rfl
  · have h : RepD K H μ (.list ds) (.ref a) := h
    cases h with
    | lst ha _ _ r => exact ⟨_, SqL.of ha, r⟩
  · obtain ⟨b, vs, e, q, r⟩ := h
    cases e
    rcases q with ⟨o, q⟩ | q
    · exact ⟨vs, .inl (.inr ⟨o, q⟩), r⟩
    · exact ⟨vs, .inr q, r⟩
/-- a list's items, from the list at a that does not change -/
theorem walks_l {w : W} {a : Addr} {ds : List D} (hw : w = .dat (.list ds) ∨ w = .scr ds) : Walks K (Itl K a) ds fun H μ => RepW K H μ w (.ref a) where
  up := fun h e => RepW.up e h
  grow := fun h hp hh => RepW.grow hp hh h
  go := fun {H μ i} h hi => by
    obtain ⟨vs, q, r⟩ := sqL_one h hw
    have : i < vs.length := by rw [← r.length]; exact hi
    exact ⟨vs, vs[i], q, List.getElem?_eq_getElem this⟩
  yld := fun {H μ i x H' d} h y e => by
    obtain ⟨vs, q, r⟩ := sqL_one h hw
    obtain ⟨e1, y⟩ := y
    subst e1
    obtain ⟨v, e2, rv⟩ := r.get e
    have e3 := y vs q
    rw [e2] at e3
    cases e3
    exact ⟨Ext.refl _ _, fun _ s => s, rv⟩
  stop := fun {H μ i} h hi => by
    obtain ⟨vs, q, r⟩ := sqL_one h hw
    exact ⟨vs, q, by rw [← r.length]; exact hi⟩
theorem sqT_one {H : Hp} {μ : Mu} {w : W} {a : Addr} {ds : List D} (h : RepW K H μ w (.ref a)) (hw : w = .dat (.tuple ds) ∨ w = .cst ds) : ∃ vs, SqT K H a vs ∧ RepDs K H μ ds vs := by
  rcases hw with rfl | rfl
  · have h : RepD K H μ (.tuple ds) (.ref a) := h
    cases h with
    | tup ha r => exact ⟨_, ha.sq, r⟩
  · obtain ⟨b, vs, e, q, r⟩ := h
    cases e
    exact ⟨vs, .inr q, r⟩
theorem walks_t {w : W} {a : Addr} {ds : List D} (hw : w = .dat (.tuple ds) ∨ w = .cst ds) : Walks K (Itt K a) ds fun H μ => RepW K H μ w (.ref a) where
  up := fun h e => RepW.up e h
  grow := fun h hp hh => RepW.grow hp hh h
  go := fun {H μ i} h hi => by
    obtain ⟨vs, q, r⟩ := sqT_one h hw
    have : i < vs.length := by rw [← r.length]; exact hi
    exact ⟨vs, vs[i], q, List.getElem?_eq_getElem this⟩
  yld := fun {H μ i x H' d} h y e => by
    obtain ⟨vs, q, r⟩ := sqT_one h hw
    obtain ⟨e1, y⟩ := y
    subst e1
    obtain ⟨v, e2, rv⟩ := r.get e
    have e3 := y vs q
    rw [e2] at e3
    cases e3
    exact ⟨Ext.refl _ _, fun _ s => s, rv⟩
  stop := fun {H μ i} h hi => by
    obtain ⟨vs, q, r⟩ := sqT_one h hw
    exact ⟨vs, q, by rw [← r.length]; exact hi⟩
theorem rng_len (lo c : Int) : ∀ n, (rng lo c n).length = n
  | 0 => rfl
  | n + 1 => by show (rng (lo + c) c n).length + 1 = n + 1; rw [rng_len]
theorem rng_get : ∀ (n : Nat) (lo c : Int) (i : Nat), i < n → (rng lo c n)[i]? = some (.int (lo + i * c))
  | 0, _, _, _, h => absurd h (Nat.not_lt_zero _)
  | n + 1, lo, c, 0, _ => by show some (PyData.int lo) = _; simp
  | n + 1, lo, c, i + 1, h => by
    show (rng (lo + c) c n)[i]? = _
    rw [rng_get n (lo + c) c i (by omega)]
    congr 2
    have : ((i + 1 : Nat) : Int) * c = i * c + c := by rw [Int.natCast_succ, Int.add_mul, Int.one_mul]
    rw [this]
    omega
theorem walks_r {lo : Int} {n : Nat} : Walks K (Itr lo n) (rng lo 1 n) fun _ _ => True where
  up := fun _ _ => trivial
  grow := fun _ _ _ => trivial
  go := fun _ hi => by rw [rng_len] at hi; exact hi
  yld := fun {H μ i x H' d} _ y e => by
    obtain ⟨e1, y⟩ := y
    subst e1 y
    have hi : i < n := by rw [← rng_len lo 1 n]; exact (List.getElem?_eq_some_iff.mp e).1
    rw [rng_get n lo 1 i hi] at e
    cases e
    refine ⟨Ext.refl _ _, fun _ s => s, ?_⟩
    rw [Int.mul_one]
    exact .int _
  stop := fun _ hi => by rw [rng_len] at hi; exact hi
theorem walks_c {lo c : Int} {n : Nat} : Walks K (Itc lo c n) (rng lo c n) fun _ _ => True where
  up := fun _ _ => trivial
  grow := fun _ _ _ => trivial
  go := fun _ hi => by rw [rng_len] at hi; exact hi
  yld := fun {H μ i x H' d} _ y e => by
    obtain ⟨e1, y⟩ := y
    subst e1 y
    have hi : i < n := by rw [← rng_len lo c n]; exact (List.getElem?_eq_some_iff.mp e).1
    rw [rng_get n lo c i hi] at e
    cases e
    exact ⟨Ext.refl _ _, fun _ s => s, .int _⟩
  stop := fun _ hi => by rw [rng_len] at hi; exact hi
theorem walks_vl {a : Addr} {ds : List D} : Walks K (Itv K a ds.length) ds.reverse fun H μ => RepD K H μ (.list ds) (.ref a) where
  up := fun h e => RepD.up e h
  grow := fun h hp hh => RepD.grow hp hh _ _ h
  go := fun {H μ i} h hi => by
    obtain ⟨vs, q, r⟩ := sqL_one (w := .dat (.list ds)) h (.inl rfl)
    rw [List.length_reverse] at hi
    have : ds.length - 1 - i < vs.length := by rw [← r.length]; omega
    exact ⟨hi, vs, vs[ds.length - 1 - i], q, List.getElem?_eq_getElem this⟩
  yld := fun {H μ i x H' d} h y e => by
    obtain ⟨vs, q, r⟩ := sqL_one (w := .dat (.list ds)) h (.inl rfl)
    obtain ⟨e1, y⟩ := y
    subst e1
    have hi : i < ds.length := by have := (List.getElem?_eq_some_iff.mp e).1; rw [List.length_reverse] at this; exact this
    rw [List.getElem?_reverse hi] at e
    obtain ⟨v, e2, rv⟩ := r.get e
    have e3 := y vs q
    rw [e2] at e3
    cases e3
    exact ⟨Ext.refl _ _, fun _ s => s, rv⟩
  stop := fun {H μ i} h hi => by rw [List.length_reverse] at hi; exact hi
theorem walks_vt {a : Addr} {ds : List D} : Walks K (RT.ItvT K a ds.length) ds.reverse fun H μ => RepD K H μ (.tuple ds) (.ref a) where
  up := fun h e => RepD.up e h
  grow := fun h hp hh => RepD.grow hp hh _ _ h
  go := fun {H μ i} h hi => by
    obtain ⟨vs, q, r⟩ := sqT_one (w := .dat (.tuple ds)) h (.inl rfl)
    rw [List.length_reverse] at hi
    have : ds.length - 1 - i < vs.length := by rw [← r.length]; omega
    exact ⟨hi, vs, vs[ds.length - 1 - i], q, List.getElem?_eq_getElem this⟩
  yld := fun {H μ i x H' d} h y e => by
    obtain ⟨vs, q, r⟩ := sqT_one (w := .dat (.tuple ds)) h (.inl rfl)
    obtain ⟨e1, y⟩ := y
    subst e1
    have hi : i < ds.length := by have := (List.getElem?_eq_some_iff.mp e).1; rw [List.length_reverse] at this; exact this
    rw [List.getElem?_reverse hi] at e
    obtain ⟨v, e2, rv⟩ := r.get e
    have e3 := y vs q
    rw [e2] at e3
    cases e3
    exact ⟨Ext.refl _ _, fun _ s => s, rv⟩
  stop := fun {H μ i} h hi => by rw [List.length_reverse] at hi; exact hi
end

/-- the keys of a dict that is walked -/
theorem walks_k {K : PySem.W.Frag} {d : Addr} {o : Obj} {vs : List (Key × V)} {ks : List Key} (hk : vs.map (·.1) = ks) : Walks K (Itk d o vs) (ks.map dKey) fun H _ => H d = some (.frz o (.dK vs)) where
  up := fun h e => e.frz _ _ _ h
  grow := fun {H μ p xs ys} h hp _ => by rw [upd_ne (by rintro rfl; rw [h] at hp; cases hp)]; exact h
  go := fun h hi => ⟨h, by subst hk; simpa using hi⟩
  yld := fun {H μ i x H' d} h y e => by
    obtain ⟨rfl, k, v, e1, rfl⟩ := y
    subst hk
    rw [List.map_map, List.getElem?_map, e1] at e
    cases e
    exact ⟨Ext.refl _ _, fun _ s => s, dkey_rep k⟩
  stop := fun h hi => ⟨h, by subst hk; simpa using hi⟩
/-- keys and values by turns -/
def flatP : List (V × V) → List V
  | [] => []
  | p :: r => p.1 :: p.2 :: flatP r
def TPof (K : PySem.W.Frag) (r : Loc → Sto → Rs (List W)) (σ : L2.St) (H : Hp) (Q : List (V × V) → Hp → Prop) : Prop := ∃ l S μ, LocRep K H μ l σ ∧ StoRep K H S μ ∧ PostE K U0 H μ (r l S) fun ws H' μ' _ => ∀ ps, RepWs K H' μ' ws (flatP ps) → Q ps H'
/-! ### the theorem -/
section
variable (C : Ck) (G : Nat → Option W) (F : Fun') (n : Nat)
structure Snd (e : E) : Prop where
  ee : ∀ (top : Bool) (sc : Scope) (x : Expr) (X : Cx), XF X C G F n → X.env.scope = sc → (top = true → ∀ y, X.fn y = true) → okE C top e sc x = true → PE X x (TEof X.K U0 (ev G F e))
  tt : ∀ (top : Bool) (sc : Scope) (x : Expr) (X : Cx), XF X C G F n → X.env.scope = sc → (top = true → ∀ y, X.fn y = true) → okT C top e sc x = true → PT X x (TTof X.K U0 (ev G F e))
  ww : ∀ (top : Bool) (sc : Scope) (op : BoolOp) (y : Expr) (r : List Expr) (pos : Pos) (X : Cx), XF X C G F n → X.env.scope = sc → (top = true → ∀ y, X.fn y = true) → okT C top e sc (.BoolOp op (y :: r) pos) = true → PW X (.BoolOp op (y :: r) pos) (TTof X.K U0 (ev G F e))
  aa : ∀ (top : Bool) (sc : Scope) (xs : List Expr) (X : Cx), XF X C G F n → X.env.scope = sc → (top = true → ∀ y, X.fn y = true) → okA C top e sc xs = true → PA X xs (TAof X.K U0 (evs G F e))
  oo : ∀ (top : Bool) (sc : Scope) (x : Option Expr) (X : Cx), XF X C G F n → X.env.scope = sc → (top = true → ∀ y, X.fn y = true) → okO C top e sc x = true → PO X x (TOof X.K U0 (evo G F e))
  ts : ∀ (top : Bool) (sc : Scope) (xs : List Expr) (X : Cx), XF X C G F n → X.env.scope = sc → (top = true → ∀ y, X.fn y = true) → okTs C top e sc xs = true → PTs X xs (TBof X.K U0 (evt G F e))
  ii : ∀ (tg : Expr) (top : Bool) (sc : Scope) (x : Expr) (X : Cx), XF X C G F n → X.env.scope = sc → (top = true → ∀ y, X.fn y = true) → okI C top e sc x = true → PI X tg x (TIof X.K U0 (evi G F e))
  gg : ∀ (top : Bool) (sc : Scope) (x : Expr) (X : Cx), XF X C G F n → X.env.scope = sc → (top = true → ∀ y, X.fn y = true) → okG C top e sc x = true → PG X x (TGof X.K U0 (tslots e) (asg G F e))
  gs : ∀ (top : Bool) (sc : Scope) (xs : List Expr) (X : Cx), XF X C G F n → X.env.scope = sc → (top = true → ∀ y, X.fn y = true) → okGs C top e sc xs = true → PGs X xs (TGsof X.K U0 (tslots e) (asgs G F e))
  pp : ∀ (top : Bool) (sc : Scope) (ks : List (Option Expr)) (vs : List Expr) (pos : Pos) (X : Cx), XF X C G F n → X.env.scope = sc → (top = true → ∀ y, X.fn y = true) → okP C top e sc ks vs = true → ∃ trs, PPs X pos ks vs trs ∧ ∀ σ H Q, TPof X.K (evs G F e) σ H Q → tPairs trs σ H Q
end
end MP
set_option Elab.async false
set_option linter.all false
set_option maxRecDepth 100000
set_option maxHeartbeats 4000000
/-! tuple(reversed(a tuple)). -/
namespace RTT
open PySem PySem.Spec PyProof.Rows L2 RT

theorem no_len : typeLookup (.type "reversed") "__len__" = pure none := by rw [typeLookup_type, builtinLookup_eq_fast]; kernel_rfl
theorem slot_hint : Slot "reversed" "__length_hint__" "reversed.__length_hint__" :=
  Slot.of (owner := "reversed") (n := "__length_hint__") (by rw [typeLookup_type, builtinLookup_eq_fast]; kernel_rfl) (by decide +kernel) (by decide +kernel) (by decide +kernel) (by first | exact .inr (by decide +kernel) | exact .inl (by decide +kernel)) sub_self
where sub_self : isSubtype (.type "reversed") (.type "reversed") = pure true := by rw [isSubtype_type]; kernel_rfl
theorem entry_hint : entryFor table "reversed.__length_hint__" = some Builtin.«reversed.__length_hint__» := entryFor_of_tree (by kernel_rfl)
theorem args_hint (a : Value) : argsOk "reversed.__length_hint__" ⟨[a], []⟩ := by
  have e := signature?_of (id := "reversed.__length_hint__") (n := ['_', '_', 't', 'n', 'i', 'h', '_', 'h', 't', 'g', 'n', 'e', 'l', '_', '_']) (o := ['d', 'e', 's', 'r', 'e', 'v', 'e', 'r']) (by kernel_rfl) owner_rt
  rw [argsOk, e]
  kernel_rfl
section
variable {prog : Program} {w : World} {A : Around} {E : Value → Shared → Prop} {s : Shared}
/-- how many there still are -/
theorem call_hint {it t : Addr} {items : Array Value} {Q : Value → Shared → Prop} (hit : IsRt s.heap it t ((items.size : Int) - 1)) (ht : IsTup s.heap t items) (hz : (items.size : Int) < 2 ^ 63)
    (h : ∀ tk u, Q (.int items.size u) { s with toks := tk }) : wpAny (model prog w) A (call (.builtin "reversed.__length_hint__") [.ref it]) Q E s := by
  obtain ⟨o, ho, hc, hd⟩ := id hit
  refine wpAny_call_entry slot_hint hit.typeIs entry_hint ?_ (args_hint _)
  unfold Builtin.«reversed.__length_hint__»
  refine wpAny_bind (wpAny_of_eq (a := Value.ref it) rfl (wpAny_bind (wpAny_field ho hd (x := .ref t) rfl ?_)))
  rw [if_neg (show ¬ (Value.ref t == Value.none) = true by simp)]
  try dsimp only
  refine wpAny_bind (len_tuple ht hz (wpAny_bind (wpAny_of_eq (a := some (items.size : Int)) rfl ?_)))
  refine wpAny_bind (wpAny_field (s := { s with toks := s.toks + 1 + 1 }) ho hd (x := rawInt ((items.size : Int) - 1)) rfl ?_)
  have e : (items.size : Int) - 1 + 1 = items.size := by omega
  show wpAny _ _ (if (items.size : Int) < (items.size : Int) - 1 + 1 then _ else _) _ _ _
  rw [if_neg (by omega), e]
  exact wpAny_bind (wpAny_mkInt (wpAny_pure ⟨_, rfl, h _ _⟩))
/-- what list.extend asks ahead of its turns -/
theorem hint_len {it t : Addr} {items : Array Value} {Q : Bool → Shared → Prop} (hit : IsRt s.heap it t ((items.size : Int) - 1)) (ht : IsTup s.heap t items) (hz : items.size ≤ sizeLine)
    (h : ∀ tk b, Q b { s with toks := tk }) : wpAny (model prog w) A (Builtin.List.listLengthHint (.ref it)) Q E s := by
  have hT := hit.typeIs
  have h63 : (items.size : Int) < 2 ^ 63 := by rw [sizeLine_eq] at hz; omega
  unfold Builtin.List.listLengthHint
  refine wpAny_bind (wpAny_specialOf hT no_len ?_)
  show wpAny _ A (specialOf (Value.ref it) (Str.ofString "__length_hint__") >>= _) _ _ s
  refine wpAny_bind (wpAny_specialOf hT slot_hint.lookup ?_)
  have hs : splitId "reversed.__length_hint__" = some ("reversed", "__length_hint__") := by decide +kernel
  have hf : Builtin.List.listFitsIndex (items.size : Int) = true := by
    unfold Builtin.List.listFitsIndex
    simp
    omega
  have hl : Builtin.List.listTooLong ((items.size : Int).toNat) = false := by
    unfold Builtin.List.listTooLong
    simp
    omega
  have sub : isSubtype (.type "reversed") (.type "reversed") = pure true := by rw [isSubtype_type]; kernel_rfl
  generalize hid : ("reversed.__length_hint__" : String) = id0
  rw [hid] at hs
  dsimp only
  rw [hs]
  dsimp only
  refine wpAny_bind (wpAny_isInstance (b := true) hT sub ?_)
  subst hid
  rw [if_neg (by decide), if_neg (by decide +kernel)]
  refine wpAny_bind (wpAny_rule ?_)
  rw [slot_hint.bind]
  refine wpAny_bind (wpAny_pure ?_)
  try dsimp only
  refine wpAny_bind ?_
  refine wpAny_attempt ?_
  refine call_hint (s := s) hit ht h63 fun tk u => ?_
  have ha : asInt? (Value.int (items.size : Int) u) = pure (some (items.size : Int)) := rfl
  try dsimp only
  rw [ha, pure_bind]
  simp only [hf, hl, Bool.not_true, Bool.false_eq_true, if_false]
  rw [if_neg (by omega)]
  exact wpAny_pure (h _ _)
/-- where the iterator stands, the tuple, the count of places behind -/
theorem walks {it t : Addr} {items : Array Value} (hh : A.handled = none) (hne : t ≠ it) (hz : items.size ≤ sizeLine) :
    Walks prog w A it [it, t] [it] items.size (fun i v => items[items.size - 1 - i]? = some v) fun i h => i ≤ items.size ∧ IsRt h it t ((items.size : Int) - 1 - (i : Int)) ∧ IsTup h t items where
  sub := by simp
  frame := fun i h h' x k => ⟨x.1, x.2.1.at fun o e => k it (by simp) o e, by
    obtain ⟨o, e, r⟩ := x.2.2
    exact ⟨o, k t (by simp) o e, r⟩⟩
  item := by
    rintro i s Q E hi ⟨_, x1, x2⟩ k
    have ei : (items.size : Int) - 1 - (i : Int) = ((items.size - 1 - i : Nat) : Int) := by omega
    have en : ((items.size - 1 - i : Nat) : Int) - 1 = (items.size : Int) - 1 - ((i + 1 : Nat) : Int) := by omega
    rw [ei] at x1
    have hx := Array.getElem?_eq_getElem (xs := items) (i := items.size - 1 - i) (by omega)
    refine next_rt_item x1 x2 hx hz fun h' x3 sb => k _ h' _ hx ⟨hi, en ▸ x3, ?_⟩ fun b o hb e => ?_
    · obtain ⟨o, e, r⟩ := x2
      exact ⟨o, (sb.2 t hne).trans e, r⟩
    · exact (sb.2 b (by simpa using hb)).trans e
  done := by
    rintro s Q E ⟨_, x1, x2⟩ k
    have en : (items.size : Int) - 1 - (items.size : Int) = -1 := by omega
    rw [en] at x1
    exact next_rt_end hh x1 fun h' eb => k h' _ fun b o hb e => eb b o (by simpa using hb) e
  self := fun i s Q E x k => iter_rt x.2.1 k
theorem collect_rt {it t : Addr} {items : Array Value} {Q : List Value → Shared → Prop} (hh : A.handled = none) (hit : IsRt s.heap it t ((items.size : Int) - 1)) (ht : IsTup s.heap t items) (hne : t ≠ it) (hz : items.size ≤ sizeLine)
    (hQ : ∀ (h' : Heap) (tk : Nat) (acc : Array Value), (∀ b o, b ≠ it → s.heap.get? b = some o → h'.get? b = some o) → ItemsOf (fun i v => items[items.size - 1 - i]? = some v) acc items.size → Q acc.toList { s with heap := h', toks := tk }) :
    wpAny (model prog w) A (collect (.ref it)) Q E s := by
  let L := s.heap.objs.size
  obtain ⟨oi, hoi, _⟩ := id hit
  obtain ⟨ot, hot, _⟩ := id ht
  have n1 : L ≠ it := Nat.ne_of_gt (Heap.lt_size hoi)
  have n2 : L ≠ t := Nat.ne_of_gt (Heap.lt_size hot)
  let l0 : Obj := { cls := .type "list", data := .seq ([] : List Value).toArray }
  let s1 : Shared := { s with heap := s.heap.push l0 }
  have hit1 : IsRt s1.heap it t ((items.size : Int) - 1) := hit.at fun o e => Heap.get?_push_of_some _ e
  have ht1 : IsTup s1.heap t items := let ⟨o, e, r⟩ := ht; ⟨o, Heap.get?_push_of_some _ e, r⟩
  have hL1 : s1.heap.get? L = some l0 := Heap.get?_push_size _ rfl
  have tT := IsRt.typeIs (s := s1) hit1
  -- the turns, wherever the empty list's room stands
  have turns : ∀ (h2 : Heap) (tk c : Nat), (∀ b o, b ≠ L → s1.heap.get? b = some o → h2.get? b = some o) → h2.get? L = some { cls := .type "list", dict := none, data := .seq #[] c, slots := #[] } →
      ∀ R : Result → Shared → Prop, (∀ (h' : Heap) (tk c : Nat) (acc : Array Value), (∀ b o, b ≠ it → s.heap.get? b = some o → h'.get? b = some o) → h'.get? L = some { cls := .type "list", dict := none, data := .seq acc c, slots := #[] } → ItemsOf (fun i v => items[items.size - 1 - i]? = some v) acc items.size → R (.ok (.ret (.ref L))) { s with heap := h', toks := tk }) →
      codeAny (model prog w) A (.builtin "list.extend.loop" ⟨[.ref L, .ref it, .ref L], []⟩) R { s with heap := h2, toks := tk } := by
    intro h2 tk c kp hL R k
    have W := (walks (prog := prog) (w := w) (A := A.in1) (it := it) (t := t) (items := items) hh hne hz).toS
    have hLf : L ∉ [it, t] := by simp [n1, n2]
    have e0 : (items.size : Int) - 1 - ((0 : Nat) : Int) = (items.size : Int) - 1 := by omega
    refine codeAny_extend_loopS W hz L hLf _ items.size 0 _ #[] c rfl (Nat.zero_le _) ⟨Nat.zero_le _, ?_, ?_⟩ hL (ItemsOf.nil _) fun s' acc c' hm hS hi => ?_
    · rw [e0]
      exact hit1.at fun o e => kp it o (Ne.symm n1) e
    · obtain ⟨o, e, r⟩ := ht1
      exact ⟨o, kp t o (Ne.symm n2) e, r⟩
    · rw [Moved.eq_with hm]
      refine k s'.heap s'.toks c' acc (fun b o hb e => ?_) hS hi
      have hbL : b ≠ L := Nat.ne_of_lt (Heap.lt_size e)
      exact hm.heap b o (by simp [hb, hbL]) (kp b o hbL (Heap.get?_push_of_some _ e))
  unfold collect
  refine wpAny_bind (wpAny_runValue (codeAny_builtin F.entry_proto_collect ?_))
  rw [Around.under_plainId F.plain_proto_collect]
  refine wpAny_bind (m := newList []) (wpAny_newObj_type (wpAny_pure ⟨plainId_quiet F.plain_list_iadd _, codeAny_builtin F.entry_list_iadd ?_⟩))
  rw [Around.under_plainId F.plain_list_iadd]
  have ld : ∀ (h' : Heap) (tk c : Nat) (acc : Array Value), (∀ b o, b ≠ it → s.heap.get? b = some o → h'.get? b = some o) → h'.get? L = some { cls := .type "list", dict := none, data := .seq acc c, slots := #[] } → ItemsOf (fun i v => items[items.size - 1 - i]? = some v) acc items.size →
      wpAny (model prog w) A (do let o ← load L; match o.data with | .seq xs _ => pure xs.toList | _ => unsupported "internal:collect") Q E { s with heap := h', toks := tk } := fun h' tk c acc k1 k2 k3 => by
    refine wpAny_bind (wpAny_load k2 ?_)
    exact wpAny_pure (hQ h' tk acc k1 k3)
  show wpAny _ A.in1 (Builtin.List.listExtendWith (.ref L) (.ref it) (.ref L)) _ _ s1
  have same : Builtin.List.listSameRef (.ref L) (.ref it) = false := by simp [Builtin.List.listSameRef, n1]
  unfold Builtin.List.listExtendWith
  refine wpAny_bind (wpAny_typeOf tT ?_)
  rw [if_neg (by rw [same]; decide)]
  refine wpAny_bind (iter_rt (s := s1) hit1 ?_)
  refine wpAny_bind (wpAny_holding (hint_len (s := s1) hit1 ht1 hz fun tk b => ?_))
  have q := plainId_quiet F.plain_extend_loop
  dsimp only
  split
  · refine wpAny_bind (wpAny_rule (wpAny_bind ?_))
    refine wpAny_bind (wpAny_updateSeq hL1 rfl ?_)
    have g2 := Heap.get?_update_self (Obj.mapSeq (·.push Value.none)) hL1 rfl
    refine wpAny_updateSeq g2 rfl ?_
    have g3 := Heap.get?_update_self (Obj.mapSeq (·.pop)) g2 rfl
    exact wpAny_pure ⟨q _, turns _ tk _ (fun b o hb e => (Heap.get?_update_other _ _ (Ne.symm hb)).trans ((Heap.get?_update_other _ _ (Ne.symm hb)).trans e)) g3 _ ld⟩
  · exact wpAny_pure ⟨q _, turns _ tk _ (fun b o _ e => e) hL1 _ ld⟩
theorem call_tuple_rt {it t : Addr} {items : Array Value} {Q : Value → Shared → Prop} (hh : A.handled = none) (hit : IsRt s.heap it t ((items.size : Int) - 1)) (ht : IsTup s.heap t items) (hne : t ≠ it) (hz : items.size ≤ sizeLine)
    (hQ : ∀ (h' : Heap) (tk : Nat) (acc : Array Value), (∀ b o, b ≠ it → s.heap.get? b = some o → h'.get? b = some o) → ItemsOf (fun i v => items[items.size - 1 - i]? = some v) acc items.size →
      Q (.ref h'.objs.size) { s with heap := h'.push { cls := .type "tuple", data := .seq acc }, toks := tk }) : wpAny (model prog w) A (call (.type "tuple") [.ref it]) Q E s := by
  have new : codeAny (model prog w) A.in1 (.call (.builtin "tuple.__new__") ⟨[.type "tuple", .ref it], []⟩) (wants (fun obj s₁ => s₁.TypeIs obj "tuple" ∧ Q obj s₁) E) s := by
    refine codeAny_of_tree (wpAny_bind (wpAny_of_eq (F.newCall_tuple_1 _) (wpAny_pure ⟨plainId_quiet F.plain_tuple_new _, codeAny_builtin F.entry_tuple_new ?_⟩)))
    rw [Around.under_plainId F.plain_tuple_new]
    have f1 := sub_tuple_self
    have f2 := init_tuple_lookup
    have f3 := madeHere_tuple
    have tT := hit.typeIs
    wp_walk using wpAny_typeOf tT, collect_rt (A := A.in1.in1) hh hit ht hne hz
    intro h' tk acc k hi
    have ea : acc.toList.toArray = acc := by simp
    show wpAny _ _ (Builtin.Tuple.tupleExact acc.toList.toArray >>= fun v => ret v) _ _ _
    rw [ea]
    unfold Builtin.Tuple.tupleExact
    exact wpAny_bind (wpAny_newObj_type (wpAny_pure ⟨⟨_, Heap.get?_push_size _ rfl, rfl⟩, hQ h' tk acc k hi⟩) (by show acc.size ≤ sizeLine; rw [hi.1]; exact hz))
  exact callType_codes F.called_tuple (F.typeCall_tuple_1 _) F.entry_object_init new fun obj s₁ h₁ => ⟨h₁.1, F.args_object_init_2 obj _, object_init_meets F.called_tuple.init.lookup F.called_tuple.made (by decide) prog w A.in1 _ s₁ ⟨h₁.1, rfl, h₁.2⟩⟩
end
/-- tuple(reversed(x)), x a tuple: a new tuple -/
def tTupRevT (K : PySem.W.Frag) (te : TE) : TE := fun σ H Q => te σ H fun v H1 => ∃ (a : Addr) (xs : List V), v = .ref a ∧ (SqT K H1 a xs ∧ MP.NewT H1 Q xs.reverse)
section
variable {X : Cx}
theorem pe_or {e : Expr} {t u : TE} (h1 : PE X e t) (h2 : PE X e u) : PE X e fun σ H Q => t σ H Q ∨ u σ H Q :=
  ⟨fun pins s σ H Q I h => h.elim (fun q => h1.run pins s σ H Q I q) fun q => h2.run pins s σ H Q I q⟩
theorem pe_tupRevT {e : Expr} {te : TE} {p p2 pos pos2 : Pos} (hc : X.calm = true) (hg : Gl X "tuple") (hm : X.mg "tuple" = none) (hg2 : Gl X "reversed") (hm2 : X.mg "reversed" = none) (he : PE X e te)
    (hs : starEach [e] X.env = (false, eval e X.env) :: starEach [] X.env := by rfl)
    (hs2 : starEach [.Call (.Name "reversed" p2) [e] [] pos2] X.env = (false, eval (.Call (.Name "reversed" p2) [e] [] pos2) X.env) :: starEach [] X.env := by rfl) :
    PE X (.Call (.Name "tuple" p) [.Call (.Name "reversed" p2) [e] [] pos2] [] pos) (tTupRevT X.K te) := by
  refine ⟨fun pins s σ H Q I h => ?_⟩
  refine Call_ (ld_blt I hg hm boot_tuple (PyProof.Rows.callWith_type1 (args_cons ?_ hs2) hs2 rfl))
  refine Call_ (ld_blt I hg2 hm2 PyProof.Rows.boot_reversed (PyProof.Rows.callWith_type1 (args_cons (thn (he.run pins s σ H _ I h) fun u s1 q => args_nil ?_) hs) hs rfl))
  obtain ⟨v, H1, I1, r1, a, xs, ev, hx, k⟩ := q
  subst ev
  obtain rfl : u = Value.ref a := r1
  obtain ⟨its, rv, pt, hz⟩ := I1.tuple hx
  have hn : its.toArray.size ≤ sizeLine := by rw [List.size_toArray, ← rv.length]; exact hz
  have h63 := line63
  refine call_reversed_tup pt (fun A E Q k => len_tuple pt (by simp only [List.size_toArray] at hn ⊢; omega) k) (args_nil ?_)
  let s2 : Shared := { s1 with heap := s1.heap.push (rtObj a ((its.toArray.size : Int) - 1)), toks := s1.toks + 1 + 1 }
  have I2 : Inv X pins σ H1 s2 := I1.kept (t' := s1.toks + 1 + 1) fun b o e => Heap.get?_push_of_some _ e
  obtain ⟨f0, f1, f2, f3, f4, f5⟩ := I1.fpOk (H' := H1) (b := s1.heap.objs.size) (Nat.le_refl _) (I1.hok.fresh (Nat.le_refl _))
  obtain ⟨ot, hot, rt⟩ := id pt
  have hne : a ≠ s1.heap.objs.size := Nat.ne_of_lt (Heap.lt_size hot)
  refine call_tuple_rt (s := s2) (I1.ok.hd hc) ⟨_, Heap.get?_push_size _ rfl, rfl, rfl⟩ ⟨ot, Heap.get?_push_of_some _ hot, rt⟩ hne hn fun h' tk acc kp hi => ?_
  have I3 : Inv X pins σ H1 { s1 with heap := h', toks := tk } := I2.turned (t' := tk) (fun b o hb e => kp b o hb e) f0 f1 f3 f4 f5
  have z := MP.lay_tup I3 (by rw [List.length_reverse]; exact hz) (vals_rev rv hi) k
  simpa using z
/-- tuple(reversed(x)), x a list -/
def tTupRevL (K : PySem.W.Frag) (te : TE) : TE := fun σ H Q => te σ H fun v H1 => ∃ (a : Addr) (xs : List V), v = .ref a ∧ (SqL K H1 a xs ∧ MP.NewT H1 Q xs.reverse)
theorem pe_tupRevL {e : Expr} {te : TE} {p p2 pos pos2 : Pos} (hc : X.calm = true) (hg : Gl X "tuple") (hm : X.mg "tuple" = none) (hg2 : Gl X "reversed") (hm2 : X.mg "reversed" = none) (he : PE X e te)
    (ha : starEach [e] X.env = (false, eval e X.env) :: starEach [] X.env := by rfl)
    (hb : starEach [.Call (.Name "reversed" p2) [e] [] pos2] X.env = (false, eval (.Call (.Name "reversed" p2) [e] [] pos2) X.env) :: starEach [] X.env := by rfl) :
    PE X (.Call (.Name "tuple" p) [.Call (.Name "reversed" p2) [e] [] pos2] [] pos) (tTupRevL X.K te) := by
  refine ⟨fun pins s σ H Q I h => Call_ (ld_blt I hg hm boot_tuple (PyProof.Rows.callWith_type1 (args_cons ?_ hb) hb rfl))⟩
  refine Call_ (ld_blt I hg2 hm2 PyProof.Rows.boot_reversed (PyProof.Rows.callWith_type1 (args_cons (thn (he.run pins s σ H _ I h) fun u t ⟨v, J, IJ, r1, a, xs, ev, hx, k⟩ => args_nil ?_) ha) ha rfl))
  subst ev
  obtain rfl : u = Value.ref a := r1
  obtain ⟨its, rv, pl, hz⟩ := IJ.list hx
  have hn : its.toArray.size ≤ sizeLine := by have := rv.length; simp only [List.size_toArray]; omega
  obtain ⟨f0, f1, f2, f3, f4, f5⟩ := IJ.fpOk (H' := J) (b := t.heap.objs.size) (Nat.le_refl _) (IJ.hok.fresh (Nat.le_refl _))
  obtain ⟨ol, hol, _⟩ := id pl.isList
  refine call_reversed_list pl.isList (args_nil ?_)
  refine call_tuple_rev (s := { t with heap := t.heap.push (revObj a ((its.toArray.size : Int) - 1)) }) (IJ.ok.hd hc) ⟨_, Heap.get?_push_size _ rfl, rfl, rfl⟩ (pl.isList.push _) (Nat.ne_of_lt (Heap.lt_size hol)) hn fun h' tk acc kp hi => ?_
  have IK : Inv X pins σ J { t with heap := t.heap.push (revObj a ((its.toArray.size : Int) - 1)) } := IJ.kept (t' := t.toks) fun _ _ e => Heap.get?_push_of_some _ e
  have z := MP.lay_tup (IK.turned (t' := tk) (fun b o ne e => kp b o ne e) f0 f1 f3 f4 f5) (by rw [List.length_reverse]; exact hz) (vals_rev rv hi) k
  simpa using z
end
end RTT
set_option Elab.async false
set_option linter.all false
set_option maxRecDepth 100000
set_option maxHeartbeats 8000000
/-! An expression does what it means: the induction. -/
namespace MP
open PySem PySem.Spec PyProof.Rows L2 RT

section
variable {C : Ck} {G : Nat → Option W} {F : Fun'} {n : Nat}
theorem XF.hu {X : Cx} (xf : XF X C G F n) : X.A.units + 64 < cLine := xf.hr.units
theorem XF.hu0 {X : Cx} (xf : XF X C G F n) : X.A.units < cLine := xf.hr.units0
theorem bltB_gl {X : Cx} {sc : Scope} {x : Str} (xf : XF X C G F n) (hs : X.env.scope = sc) (h : bltB C sc x = true) : Gl X x ∧ X.mg x = none ∧ x ≠ "__name__" ∧ (x == ("__debug__" : Str)) = false := by
  have a := and_of h
  have b := and_of a.1
  exact ⟨glB_gl hs b.1, xf.blt x (dec_of a.2), plainN_n b.2, plainN_d b.2⟩
theorem boot_bi : ∀ b : BI, bootBuiltins (biN b) = some (biF b) := by intro b; cases b <;> decide +kernel
theorem boot_isi : bootBuiltins ("isinstance" : Str) = some (.builtin "isinstance") := by decide +kernel
theorem boot_ty : ∀ T : Ty5, bootBuiltins (tyS T) = some (.type (tyN T)) := by intro T; cases T <;> decide +kernel
theorem slot_mt : ∀ m : MT, Slot "list" (mtN m) (mtId m)
  | .append => PySem.F.slot_list_append
  | .pop => PySem.F.slot_list_pop
  | .popAt => PySem.F.slot_list_pop
  | .count => PySem.F.slot_list_count
  | .index => PySem.F.slot_list_index
  | .extend => PySem.F.slot_list_extend
theorem type_mt : ∀ m : MT, typeOf (.builtin (mtId m)) = pure (.type "method_descriptor")
  | .append => PySem.F.type_list_append
  | .pop => PySem.F.type_list_pop
  | .popAt => PySem.F.type_list_pop
  | .count => PySem.F.type_list_count
  | .index => PySem.F.type_list_index
  | .extend => PySem.F.type_list_extend
theorem pe_none {X : Cx} {e : Expr} {t : TE} (h : ∀ σ H Q, t σ H Q → False) : PE X e t := ⟨fun pins s σ H Q I q => (h σ H Q q).elim⟩
/-- what the new instance's __init__ promises -/
theorem new_post {K : PySem.W.Frag} {H : Hp} {μ : Mu} {S : Sto} {x : Str} {Cd a d : Addr} {F' : Fun'} {i : Nat} {ws : List W} {vs : List V} {Q : VK} (hc : PySem.W.nsIn K mainGlobals x = some (some (.ref Cd))) (hS : StoRep K H S μ) (hw : RepWs K H μ ws vs) (ha : H a = none) (hd : H d = none) (hn : d ≠ a)
    (hp : PostE K U0 H μ (newI x (F' i) ws S) (VP K Q)) : spF K F' i (.ref a :: vs) (upd (upd H d (.own a)) a (.ins Cd d [])) (fun v H2 => v = .non ∧ Q (.ref a) H2) E0 := by
  have e1 : Ext H μ (upd H d (.own a)) μ := Ext.fresh hd
  have s1 := hS.fresh (o := .own a) hd
  have ha1 : upd H d (.own a) a = none := by rw [upd_ne (Ne.symm hn)]; exact ha
  have e2 : Ext (upd H d (.own a)) μ (upd (upd H d (.own a)) a (.ins Cd d [])) (μ.push a) := Ext.push ha1
  have s2 := s1.push (o := .ins Cd d []) (ob := .ins x []) ha1 ⟨Cd, d, [], hc, upd_same, .nil⟩
  have e := e1.trans e2
  have at1 : (μ.push a).ob[S.length]? = some (some a) := by
    show (μ.ob ++ [some a])[S.length]? = _
    rw [hS.len, List.getElem?_append_right (Nat.le_refl _)]
    simp
  refine ⟨S ++ [.ins x []], μ.push a, .obj S.length :: ws, s2, .cons ?_ (hw.up e), ?_⟩
  · show RepA (μ.push a).ob[S.length]? (.ref a)
    rw [at1]; rfl
  · unfold newI at hp
    generalize F' i (.obj S.length :: ws) (S ++ [.ins x []]) = r at hp ⊢
    have key : ∀ S', r = .ok (.dat .none) S' → PostE K U0 (upd (upd H d (.own a)) a (.ins Cd d [])) (μ.push a) r (VP K fun v H2 => v = .non ∧ Q (.ref a) H2) := fun S' er => by
      subst er
      intro H' μ' e3 s3 v rv
      refine ⟨by cases (show RepD K H' μ' .none v from rv); rfl, hp H' μ' (e.trans e3) s3 (.ref a) ?_⟩
      show RepA μ'.ob[S.length]? (.ref a)
      rcases e3.pre _ _ at1 with z | z <;> rw [z] <;> first | rfl | trivial
    have nope : newR S.length r = .no → PostE K U0 (upd (upd H d (.own a)) a (.ins Cd d [])) (μ.push a) r (VP K fun v H2 => v = .non ∧ Q (.ref a) H2) := fun z => by
      rw [z] at hp
      exact hp.elim
    cases r with
    | ok w S' =>
      cases w with
      | dat dd =>
        cases dd with
        | none => exact key S' rfl
        | _ => exact nope rfl
      | _ => exact nope rfl
    | ex y S' => exact nope rfl
    | no => exact nope rfl
/-- a class called -/
theorem pe_callM {X : Cx} {sc : Scope} {f : Nat} {x : Str} {p pos : Pos} {es : E} {xs : List Expr} {top : Bool} (xf : XF X C G F n) (hs : X.env.scope = sc) (h2 : glB sc x = true) (h3 : plainN x = true) (h4 : okA C top es sc xs = true) (h0 : MkP X F n f x)
    (ha : PA X xs (TAof X.K U0 (evs G F es))) : PE X (.Call (.Name x p) xs [] pos) (TEof X.K U0 fun l S => (evs G F es l S).bind fun ws S1 => F f ws S1) := by
  obtain ⟨Cd, ⟨hm, hn⟩, kp, hno, h0⟩ := h0
  cases xs with
  | nil =>
    refine pe_none fun σ H Q h => ?_
    obtain ⟨l, S, μ, hl, hS, hp⟩ := h
    cases es with
    | nil =>
      have hp : PostE X.K U0 H μ (F f [] S) (VP X.K Q) := hp
      rw [hno] at hp
      exact hp.elim
    | _ => cases h4
  | cons y ys =>
    have hst : noStar y = true := by
      cases es with
      | cons e es => exact (and_of (and_of h4).1).2
      | _ => cases h4
    have hpl : (backTo pos (starEach ys X.env)).any (·.1) = false := by
      cases es with
      | cons e es => exact (nostar_all (C := C) (top := top) (sc := sc) pos es ys (and_of h4).2).1
      | _ => cases h4
    rcases h0 with h0 | ⟨fa, fd, ps, k, F', i, hk, M, hb, gf, hF⟩
    · refine ⟨fun pins s σ H Q I h => wpAny_Call_Name_kw (ld_glob I (glB_gl hs h2) hm (PySem.W.callWith_K (h₀ := X.base) I.ok.mod.kin kp (thn (ha.run pos pins s σ H (fun _ _ => False) I ?_) ?_) (star_cons hst) hpl) (plainN_d h3))⟩
      · obtain ⟨l, S, μ, hl, hS, hp⟩ := h
        refine ⟨l, S, μ, hl, hS, hp.bind.imp fun ws H1 μ1 S1 e1 s1 q1 vs rv => ?_⟩
        rw [h0] at q1
        exact q1.elim
      · rintro us s1 ⟨_, _, _, _, q⟩
        exact q.elim
    · refine PE.imp (pe_makeG M gf (xf.hr.mono hk) xf.hg (glB_gl hs h2) hm hb ha (plainN_d h3) (star_cons hst) hpl) fun σ H Q h => ?_
      obtain ⟨l, S, μ, hl, hS, hp⟩ := h
      refine ⟨l, S, μ, hl, hS, hp.bind.imp fun ws H1 μ1 S1 e1 s1 q1 vs rv a d ha hd hne => ?_⟩
      rcases hF ws S1 with z | z
      · rw [z] at q1
        exact q1.elim
      · rw [z] at q1
        exact new_post hn s1 rv ha hd hne q1
/-- a call of a def -/
theorem pe_callF {X : Cx} {sc : Scope} {f : Nat} {x : Str} {p pos : Pos} {es : E} {xs : List Expr} {top : Bool} (xf : XF X C G F n) (hs : X.env.scope = sc) (h1 : C.fn f = some x) (h2 : glB sc x = true) (h3 : plainN x = true) (h4 : okA C top es sc xs = true)
    (ha : PA X xs (TAof X.K U0 (evs G F es))) : PE X (.Call (.Name x p) xs [] pos) (TEof X.K U0 fun l S => (evs G F es l S).bind fun ws S1 => F f ws S1) := by
  rcases xf.fns f x h1 with h0 | h0
  case inr => exact pe_callM xf hs h2 h3 h4 h0 ha
  obtain ⟨fa, fd, ps, ⟨hm, _⟩, hk, hb, hf⟩ := h0
  cases xs with
  | nil =>
    refine PE.imp (pe_callG0 hf xf.hr xf.hg (glB_gl hs h2) hm hk hb (plainN_d h3)) fun σ H Q h => ?_
    obtain ⟨l, S, μ, hl, hS, hp⟩ := h
    cases es with
    | nil => exact ⟨S, μ, [], hS, .nil, hp⟩
    | _ => cases h4
  | cons y ys =>
    have hst : noStar y = true := by
      cases es with
      | cons e es => exact (and_of (and_of h4).1).2
      | _ => cases h4
    have hpl : ∀ env : Env, (backTo pos (starEach ys env)).any (·.1) = false := fun env => by
      cases es with
      | cons e es => exact (nostar_all (C := C) (top := top) (sc := sc) pos es ys (and_of h4).2).1
      | _ => cases h4
    refine PE.imp (pe_callG hf xf.hr xf.hg (glB_gl hs h2) hm hk hb ha (plainN_d h3) (star_cons hst) (hpl X.env)) fun σ H Q h => ?_
    obtain ⟨l, S, μ, hl, hS, hp⟩ := h
    refine ⟨l, S, μ, hl, hS, hp.bind.imp fun ws H1 μ1 S1 e1 s1 q1 vs rv => ?_⟩
    show spF X.K F f vs H1 Q E0
    exact ⟨S1, μ1, ws, s1, rv, q1⟩
/-- a call with a keyword -/
theorem pe_ckwF {X : Cx} {sc : Scope} {f : Nat} {x k : Str} {p pos kpos : Pos} {es e : E} {y z : Expr} {ys : List Expr} {top : Bool} (xf : XF X C G F n) (hs : X.env.scope = sc) (h1 : C.ck f = some (k, x)) (h2 : glB sc x = true) (h3 : plainN x = true) (h4 : okA C top es sc (y :: ys) = true)
    (ha : PA X (y :: ys) (TAof X.K U0 (evs G F es))) (hz : PE X z (TEof X.K U0 (ev G F e))) : PE X (.Call (.Name x p) (y :: ys) [⟨some k, z, kpos⟩] pos) (TEof X.K U0 fun l S => (evs G F es l S).bind fun ws S1 => (ev G F e l S1).bind fun w S2 => F f (ws ++ [w]) S2) := by
  obtain ⟨fa, fd, ps, ⟨hm, _⟩, hk, hb, hf⟩ := xf.kws f k x h1
  have hst : noStar y = true := by
    cases es with
    | cons e es => exact (and_of (and_of h4).1).2
    | _ => cases h4
  have hpl : ∀ env : Env, (backTo pos (starEach ys env)).any (·.1) = false := fun env => by
    cases es with
    | cons e es => exact (nostar_all (C := C) (top := top) (sc := sc) pos es ys (and_of h4).2).1
    | _ => cases h4
  refine PE.imp (pe_callGK hf xf.hr xf.hg (glB_gl hs h2) hm hk hb ha hz (plainN_d h3) (star_cons hst) (hpl X.env)) fun σ H Q h => ?_
  obtain ⟨l, S, μ, hl, hS, hp⟩ := h
  refine ⟨l, S, μ, hl, hS, hp.bind.imp fun ws H1 μ1 S1 e1 s1 q1 vs rv => ?_⟩
  refine ⟨l, S1, μ1, hl.up e1, s1, q1.bind.imp fun w H2 μ2 S2 e2 s2 q2 v rw' => ?_⟩
  show spF X.K F f (vs ++ [v]) H2 Q E0
  exact ⟨S2, μ2, ws ++ [w], s2, Paired.snoc (RepWs.up e2 rv) rw', q2⟩
/-- a call through a local name -/
theorem pe_callvF {X : Cx} {sc : Scope} {k : Nat} {x : Str} {p pos : Pos} {es : E} {y : Expr} {ys : List Expr} {top : Bool} (xf : XF X C G F n) (hs : X.env.scope = sc) (h1 : C.N[k]? = some x) (h2 : visB sc x = true) (h3 : plainN x = true) (h4 : okA C top es sc (y :: ys) = true)
    (ha : PA X (y :: ys) (TAof X.K U0 (evs G F es))) : PE X (.Call (.Name x p) (y :: ys) [] pos) (TEof X.K U0 fun l S => (getV l k S).bind fun w S0 => (fnW G w S0).bind fun i S1 => (evs G F es l S1).bind fun ws S2 => F i ws S2) := by
  have hst : noStar y = true := by
    cases es with
    | cons e es => exact (and_of (and_of h4).1).2
    | _ => cases h4
  have hpl : (backTo pos (starEach ys X.env)).any (·.1) = false := by
    cases es with
    | cons e es => exact (nostar_all (C := C) (top := top) (sc := sc) pos es ys (and_of h4).2).1
    | _ => cases h4
  refine ⟨fun pins s σ H Q I h => ?_⟩
  obtain ⟨l, S, μ, hl, hS, hp⟩ := h
  replace hp : PostE X.K U0 H μ ((getV l k S).bind fun w S0 => (fnW G w S0).bind fun i S1 => (evs G F es l S1).bind fun ws S2 => F i ws S2) (VP X.K Q) := hp
  have hgo : (∃ w, l[k]? = some (some w)) ∨ getV l k S = .no := by
    unfold getV
    split
    · exact .inl ⟨_, by assumption⟩
    · exact .inr rfl
  rcases hgo with ⟨w, hw⟩ | hno
  · have eg : getV l k S = .ok w S := by unfold getV; rw [hw]
    rw [eg] at hp
    replace hp : PostE X.K U0 H μ ((fnW G w S).bind fun i S1 => (evs G F es l S1).bind fun ws S2 => F i ws S2) (VP X.K Q) := hp
    obtain ⟨v, hv, rv⟩ := hl.2 k w hw
    have hfn : (∃ i z, w = .fn i z ∧ G (fnAt + i) = some (.dat (.str z))) ∨ fnW G w S = .no := by
      cases w with
      | fn i z =>
        by_cases hg : G (fnAt + i) = some (.dat (.str z))
        · exact .inl ⟨i, z, rfl, hg⟩
        · refine .inr ?_
          show (match G (fnAt + i) with | some (.dat (.str y)) => if z = y then Rs.ok i S else .no | _ => .no) = _
          split
          · rename_i u e
            rw [if_neg (fun c => hg (by rw [e, c]))]
          · rfl
      | _ => exact .inr rfl
    rcases hfn with ⟨i, z, rfl, hg⟩ | hno
    · have ei : fnW G (.fn i z) S = .ok i S := by
        show (match G (fnAt + i) with | some (.dat (.str y)) => if z = y then Rs.ok i S else .no | _ => .no) = _
        rw [hg]
        show (if z = z then _ else _) = _
        rw [if_pos rfl]
      rw [ei] at hp
      replace hp : PostE X.K U0 H μ ((evs G F es l S).bind fun ws S2 => F i ws S2) (VP X.K Q) := hp
      obtain ⟨f, rfl, hf⟩ := rv
      obtain ⟨fa, fd, ps, ⟨_, hn⟩, hk, hb, gf⟩ := xf.nms i z hg
      rw [hf] at hn
      cases hn
      refine pe_callGL gf xf.hr xf.hg hk hb (by rw [xf.hN]; exact h1) (by rw [hs]; exact visB_vis h2) ha (plainN_d h3) (plainN_c h3) (star_cons hst) hpl I hv ⟨l, S, μ, hl, hS, hp.bind.imp fun ws H1 μ1 S1 e1 s1 q1 vs rvs => ?_⟩
      exact ⟨S1, μ1, ws, s1, rvs, q1⟩
    · rw [hno] at hp
      exact hp.elim
  · rw [hno] at hp
    exact hp.elim
theorem cr_range1 {X : Cx} : CallR X (.type "range") (fun vs H Q => ∃ j, vs = [V.int j] ∧ ∀ p, H p = none → Q (.ref p) (upd H p (.rng 0 j))) := by
  intro pins s σ H vs us Q I r h
  obtain ⟨j, rfl, q⟩ := h
  obtain ⟨u1, rfl, ri⟩ := vals1 r
  obtain ⟨t, rfl⟩ := ri
  refine call_range_1 ⟨.ref s.heap.objs.size, upd H s.heap.objs.size (.rng 0 j), I.laid (t' := s.toks + 1 + 1) (fun b o e => Heap.get?_push_of_some _ e) (Nat.le_refl _) ?_, rfl, q _ (I.hok.fresh (Nat.le_refl _))⟩
  exact ⟨s.toks, t, s.toks + 1, Heap.get?_push_size _ rfl⟩
/-- a range's numbers -/
def rngV (lo : Int) (n : Nat) : List V := (List.range n).map fun i => .int (lo + (i : Nat))
theorem rng_rep {K : PySem.W.Frag} {H : Hp} {μ : Mu} : ∀ (lo : Int) (n : Nat), RepDs K H μ (rng lo 1 n) (rngV lo n)
  | lo, 0 => .nil
  | lo, n + 1 => by
    have e : rngV lo (n + 1) = .int lo :: rngV (lo + 1) n := by
      unfold rngV
      rw [List.range_succ_eq_map, List.map_cons, List.map_map]
      congr 1
      · simp
      · refine List.map_congr_left fun i _ => ?_
        simp only [Function.comp, Nat.succ_eq_add_one]
        congr 1
        omega
    rw [e]
    exact .cons (.int lo) (rng_rep (lo + 1) n)
theorem vals_rng {acc : Array Value} {n : Nat} {lo : Int} (h : ItemsOf (fun i v => ∃ t, v = .int (lo + i * 1) t) acc n) : Vals (rngV lo n) acc.toList := by
  have el : acc.toList.length = acc.size := by simp
  refine vals_of_at (by rw [el, h.1]; simp [rngV]) fun j x w h1 h2 => ?_
  obtain ⟨t, rfl⟩ := h.2 j w (by rw [← Array.getElem?_toList]; exact h2)
  unfold rngV at h1
  rw [List.getElem?_map] at h1
  obtain ⟨k, hk, rfl⟩ := Option.map_eq_some_iff.mp h1
  obtain ⟨hlt, e⟩ := List.getElem?_eq_some_iff.mp hk
  rw [List.getElem_range] at e
  subst e
  exact ⟨t, by rw [Int.mul_one]⟩
theorem cr_listR {X : Cx} (hc : X.calm = true) : CallR X (.type "list") (fun vs H Q => ∃ r j, vs = [V.ref r] ∧ H r = some (.rng 0 j) ∧ smallI j = true ∧ j ≤ 1000000 ∧ ∀ p, H p = none → Q (.ref p) (upd H p (.lst (rngV 0 j.toNat)))) := by
  intro pins s σ H vs us Q I r h
  obtain ⟨a, j, rfl, ha, hs, hj, q⟩ := h
  obtain ⟨u, rfl, rx⟩ := vals1 r
  obtain rfl : u = Value.ref a := rx
  obtain ⟨t, u, v, e⟩ := (show ObjOk X.prog X.w H s.heap a (.rng 0 j) from I.hok a _ ha)
  unfold smallI at hs
  rw [Bool.and_eq_true, decide_eq_true_eq, decide_eq_true_eq] at hs
  have hsz : Builtin.Range.rangeSize 0 j 1 = ((j.toNat : Nat) : Int) := by rw [rangeSize_one]; split <;> omega
  refine call_list_range (n := j.toNat) (I.ok.hd hc) e (small_one (by decide) (by decide) hs.1 hs.2) hsz (by omega) fun h' tk acc c' hk he hi => ?_
  have hv := vals_rng (lo := 0) hi
  refine ⟨.ref s.heap.objs.size, _, I.laid hk (Nat.le_refl _) (show ObjOk X.prog X.w _ h' _ (.lst (rngV 0 j.toNat)) from ⟨?_, acc.toList, c', hv, by simpa using he⟩), rfl, q _ (I.hok.fresh (Nat.le_refl _))⟩
  have : j.toNat ≤ 1000000 := by omega
  simp only [rngV, List.length_map, List.length_range]
  exact Nat.le_trans this (by decide)
theorem pe_biW {X : Cx} {sc : Scope} {b : BI} {m : Bool} {x : Str} {p pos : Pos} {es : E} {y : Expr} {ys : List Expr} {top : Bool} (xf : XF X C G F n) (hs : X.env.scope = sc) (h1 : x = biN b) (h2 : bltB C sc x = true) (h4 : okA C top es sc (y :: ys) = true)
    (ha : PA X (y :: ys) (TAof X.K U0 (evs G F es))) : PE X (.Call (.Name x p) (y :: ys) [] pos) (TEof X.K U0 fun l S => (evs G F es l S).bind fun ws S1 => biW S1 b m ws) := by
  obtain ⟨g1, g2, g3, g4⟩ := bltB_gl xf hs h2
  subst h1
  have hst : noStar y = true := by
    cases es with
    | cons e es => exact (and_of (and_of h4).1).2
    | _ => cases h4
  have hpl : (backTo pos (starEach ys X.env)).any (·.1) = false := by
    cases es with
    | cons e es => exact (nostar_all (C := C) (top := top) (sc := sc) pos es ys (and_of h4).2).1
    | _ => cases h4
  have hcr := cr_biW (X := X) (U := U0) xf.calm b m
  have hu : X.A.units + 65 < cLine := by have := xf.hr.un; omega
  have hbt := boot_bi b
  have fin : ∀ σ H Q, TEof X.K U0 (fun l S => (evs G F es l S).bind fun ws S1 => biW S1 b m ws) σ H Q → tCB (rOfL X.K U0 fun S ws => biW S b m ws) (TAof X.K U0 (evs G F es)) σ H Q := fun σ H Q h => te_args2 h
  cases b with
  | repr => exact PE.imp (pe_callB (cr_reprW (X := X) (U := U0) xf.hg hu m) g1 g2 hbt ha g3 g4 (star_cons hst) hpl) fin
  | int => exact PE.imp (pe_callTy (hcr (by decide)) g1 g2 hbt ha g3 g4 (star_cons hst) hpl) fin
  | list => exact PE.imp (pe_callTy (hcr (by decide)) g1 g2 hbt ha g3 g4 (star_cons hst) hpl) fin
  | tuple => exact PE.imp (pe_callTy (hcr (by decide)) g1 g2 hbt ha g3 g4 (star_cons hst) hpl) fin
  | dict => exact PE.imp (pe_callTy (hcr (by decide)) g1 g2 hbt ha g3 g4 (star_cons hst) hpl) fin
  | _ => exact PE.imp (pe_callB (hcr (by decide)) g1 g2 hbt ha g3 g4 (star_cons hst) hpl) fin
theorem recv_ok {K : PySem.W.Frag} {H : Hp} {μ : Mu} {S : Sto} {x : W} {v : V} {R : W → Hp → Mu → Sto → Prop} (hS : StoRep K H S μ) (hx : RepW K H μ x v) (h : PostE K U0 H μ (recvW S x) R) : tyV K "list" v H ∧ R x H μ S := by
  unfold recvW at h
  split at h
  · rename_i ds e
    obtain ⟨a, vs, rfl, ha, _⟩ := (rdD_rep hS hx e).lst
    exact ⟨.inl ⟨rfl, _, SqL.of ha⟩, h H μ (Ext.refl H μ) hS⟩
  · exact h.elim
theorem pe_mthW {X : Cx} {sc : Scope} {m : MT} {o es : E} {y : Expr} {xs : List Expr} {apos cpos : Pos} {top : Bool} (xf : XF X C G F n) (hs : X.env.scope = sc) (h1 : noSuper y = true) (h2 : (apos.endLine == cpos.line) = true)
    (h3 : (if mt0 m then xs.isEmpty else decide (0 < xs.length) && decide (xs.length < 20)) = true) (h4 : okA C top es sc xs = true) (ho : PE X y (TEof X.K U0 (ev G F o))) (ha : PA X xs (TAof X.K U0 (evs G F es))) :
    PE X (.Call (.Attribute y (mtN m) apos) xs [] cpos) (TEof X.K U0 fun l S => (ev G F o l S).bind fun x S1 => (recvW S1 x).bind fun x1 S2 => (evs G F es l S2).bind fun ws S3 => mthW S3 m x1 ws) := by
  cases xs with
  | nil =>
    refine PE.imp (pe_bm0 PySem.F.plainAttrs_list (slot_mt m) (type_mt m) (mt_mthW (U := U0) m) ho (super_base h1) h2) fun σ H Q h => ?_
    obtain ⟨l, S, μ, hl, hS, hp⟩ := h
    refine ⟨l, S, μ, hl, hS, hp.bind.imp fun x H1 μ1 S1 e1 s1 q1 v rv => ?_⟩
    obtain ⟨t, q2⟩ := recv_ok s1 rv q1.bind
    cases es with
    | nil => exact ⟨t, S1, μ1, x, [], s1, rv, .nil, q2⟩
    | _ => cases h4
  | cons z zs =>
    have hm : mt0 m = false := by
      cases e : mt0 m with
      | false => rfl
      | true => rw [e] at h3; cases h3
    rw [hm] at h3
    have h3 := and_of (show (decide (0 < (z :: zs).length) && decide ((z :: zs).length < 20)) = true from h3)
    have hst : noStar z = true := by
      cases es with
      | cons e es => exact (and_of (and_of h4).1).2
      | _ => cases h4
    have hpl : (backTo cpos (starEach zs X.env)).any (·.1) = false := by
      cases es with
      | cons e es => exact (nostar_all (C := C) (top := top) (sc := sc) cpos es zs (and_of h4).2).1
      | _ => cases h4
    have hall := (nostar_all (C := C) (top := top) (sc := sc) (env := X.env) cpos es (z :: zs) h4).2
    have hlen : (z :: zs).length + 0 + 0 < 30 := by have := dec_of h3.2; omega
    refine PE.imp (pe_bm PySem.F.plainAttrs_list (slot_mt m) (type_mt m) (mt_mthW (U := U0) m) ho ha (super_base h1) ?_ h2 (star_cons hst) hpl) fun σ H Q h => ?_
    · rw [hall]
      show (true && true && decide ((z :: zs).length + 0 + 0 < 30)) = true
      rw [decide_eq_true hlen] <;> rfl
    · obtain ⟨l, S, μ, hl, hS, hp⟩ := h
      refine ⟨l, S, μ, hl, hS, hp.bind.imp fun x H1 μ1 S1 e1 s1 q1 v rv => ?_⟩
      obtain ⟨t, q2⟩ := recv_ok s1 rv q1.bind
      refine ⟨t, l, S1, μ1, hl.up e1, s1, q2.bind.imp fun ws H2 μ2 S2 e2 s2 q3 vs rvs => ?_⟩
      exact ⟨S2, μ2, x, ws, s2, RepW.up e2 rv, rvs, q3⟩
theorem pe_isiW {X : Cx} {sc : Scope} {T : Ty5} {a : E} {x t : Str} {p pt pos : Pos} {y : Expr} (xf : XF X C G F n) (hs : X.env.scope = sc) (h1 : x = "isinstance") (h2 : bltB C sc x = true) (h3 : t = tyS T) (h4 : bltB C sc t = true) (h5 : noStar y = true)
    (ha : PE X y (TEof X.K U0 (ev G F a))) : PE X (.Call (.Name x p) [y, .Name t pt] [] pos) (TEof X.K U0 fun l S => (ev G F a l S).bind fun x S1 => isiW S1 T x) := by
  obtain ⟨g1, g2, g3, g4⟩ := bltB_gl xf hs h2
  obtain ⟨k1, k2, k3, k4⟩ := bltB_gl xf hs h4
  subst h1 h3
  have pt := pe_bltn (X := X) (v := .ty (tyN T)) (pos := pt) k1 k2 (boot_ty T) rfl k3 k4
  have pa : PA X [y, .Name (tyS T) _] (tCons (TEof X.K U0 (ev G F a)) (tCons (tC (.ty (tyN T))) tNil)) := pa_cons ha (pa_cons pt pa_nil) (star_cons h5)
  refine PE.imp (pe_callB (cr_isiW (X := X) (U := U0) T) g1 g2 boot_isi pa g3 g4 (star_cons h5) rfl) fun σ H Q h => ?_
  obtain ⟨l, S, μ, hl, hS, hp⟩ := h
  exact ⟨l, S, μ, hl, hS, hp.bind.imp fun x H1 μ1 S1 e1 s1 q1 v rv => ⟨v, rfl, S1, μ1, x, s1, rv, q1⟩⟩
theorem pe_lrngW {X : Cx} {sc : Scope} {a : E} {m : Bool} {x z : Str} {p p2 pos pos2 : Pos} {y : Expr} (xf : XF X C G F n) (hs : X.env.scope = sc) (h1 : x = "list") (h2 : bltB C sc x = true) (h3 : z = "range") (h4 : bltB C sc z = true) (h5 : noStar y = true)
    (ha : PE X y (TEof X.K U0 (ev G F a))) : PE X (.Call (.Name x p) [.Call (.Name z p2) [y] [] pos2] [] pos) (TEof X.K U0 fun l S => (ev G F a l S).bind fun x S1 => lrngW m x S1) := by
  obtain ⟨g1, g2, g3, g4⟩ := bltB_gl xf hs h2
  obtain ⟨k1, k2, k3, k4⟩ := bltB_gl xf hs h4
  subst h1 h3
  have inner := pe_callTy (pos := pos2) (p := p2) (cr_range1 (X := X)) k1 k2 (by decide +kernel) (pa_cons ha pa_nil (star_cons h5)) k3 k4 (star_cons h5) rfl
  refine PE.imp (pe_callTy (cr_listR (X := X) xf.calm) g1 g2 (by decide +kernel) (pa_cons inner pa_nil (star_cons rfl)) g3 g4 (star_cons rfl) rfl) fun σ H Q h => ?_
  obtain ⟨l, S, μ, hl, hS, hp⟩ := h
  refine ⟨l, S, μ, hl, hS, hp.bind.imp fun x H1 μ1 S1 e1 s1 q1 v rv => ?_⟩
  unfold lrngW at q1
  split at q1
  · rename_i j
    obtain rfl : v = .int j := by cases (show RepD X.K H1 μ1 (.int j) v from rv); rfl
    split at q1
    · rename_i c
      refine ⟨j, rfl, fun r hr => ⟨r, j, rfl, upd_same, c.1, c.2, fun q hq => ?_⟩⟩
      have s2 := s1.fresh (o := .rng 0 j) hr
      refine vp_mk (m := m) s2 (PostE.up q1 (Ext.fresh hr)) ?_ q hq
      simpa using rng_rep (K := X.K) (H := upd H1 r (.rng 0 j)) (μ := μ1) 0 j.toNat
    · exact q1.elim
  · exact q1.elim
theorem pe_ssetW {X : Cx} {sc : Scope} {a : E} {x z : Str} {p p2 pos pos2 : Pos} {y : Expr} (xf : XF X C G F n) (hs : X.env.scope = sc) (h1 : x = "sorted") (h2 : bltB C sc x = true) (h3 : z = "set") (h4 : bltB C sc z = true) (h5 : noStar y = true)
    (ha : PE X y (TEof X.K U0 (ev G F a))) : PE X (.Call (.Name x p) [.Call (.Name z p2) [y] [] pos2] [] pos) (TEof X.K U0 fun l S => (ev G F a l S).bind fun x S1 => ssetW x S1) := by
  obtain ⟨g1, g2, g3, g4⟩ := bltB_gl xf hs h2
  obtain ⟨k1, k2, k3, k4⟩ := bltB_gl xf hs h4
  subst h1 h3
  have inner := pe_callTy (pos := pos2) (p := p2) (cr_setL (X := X) xf.calm) k1 k2 (by decide +kernel) (pa_cons ha pa_nil (star_cons h5)) k3 k4 (star_cons h5) rfl
  refine PE.imp (pe_callB (cr_sortedSet (X := X) xf.calm) g1 g2 (by decide +kernel) (pa_cons inner pa_nil (star_cons rfl)) g3 g4 (star_cons rfl) rfl) fun σ H Q h => ?_
  obtain ⟨l, S, μ, hl, hS, hp⟩ := h
  refine ⟨l, S, μ, hl, hS, hp.bind.imp fun x H1 μ1 S1 e1 s1 q1 v rv => ?_⟩
  unfold ssetW at q1
  split at q1
  · rename_i ds
    obtain ⟨b, vs, rfl, hb, hr⟩ := (rdD_rep s1 rv (show rdD S1 (.dat (.list ds)) = some (.list ds) from rfl)).lst
    split at q1
    · rename_i ns e
      obtain ⟨rfl, _⟩ := intsD_rep hr e
      split at q1
      · rename_i c
        refine ⟨b, ns, rfl, SqL.of hb, Nat.lt_of_lt_of_le (Nat.succ_lt_succ c) (by decide), fun r n hn hc => ⟨r, _, n, rfl, upd_same, by omega, fun ns' q u1 u2 _ hq => ?_⟩⟩
        have s2 := s1.fresh (o := SetO X.w r (fun j => decide (j ∈ ns)) n) hn
        have e2 : ns' = sortU ns := up_one u1 (sortU_up ns) fun k => by rw [u2 k, sortU_mem]; simp
        rw [e2]
        exact vp_mk (m := false) s2 (PostE.up q1 (Ext.fresh hn)) (reps_ints _) q hq
      · exact q1.elim
    · exact q1.elim
  · exact q1.elim
theorem pe_trevW {X : Cx} {sc : Scope} {a : E} {x z : Str} {p p2 pos pos2 : Pos} {y : Expr} (xf : XF X C G F n) (hs : X.env.scope = sc) (h1 : x = "tuple") (h2 : bltB C sc x = true) (h3 : z = "reversed") (h4 : bltB C sc z = true) (h5 : noStar y = true)
    (ha : PE X y (TEof X.K U0 (ev G F a))) : PE X (.Call (.Name x p) [.Call (.Name z p2) [y] [] pos2] [] pos) (TEof X.K U0 fun l S => (ev G F a l S).bind fun x S1 => revW x S1) := by
  obtain ⟨g1, g2, g3, g4⟩ := bltB_gl xf hs h2
  obtain ⟨k1, k2, k3, k4⟩ := bltB_gl xf hs h4
  subst h1 h3
  refine PE.imp (RTT.pe_or (RTT.pe_tupRevL xf.calm g1 g2 k1 k2 ha (star_cons h5) (star_cons rfl)) (RTT.pe_tupRevT xf.calm g1 g2 k1 k2 ha (star_cons h5) (star_cons rfl))) fun σ H Q h => ?_
  obtain ⟨l, S, μ, hl, hS, hp⟩ := h
  replace hp : PostE X.K U0 H μ ((ev G F a l S).bind revW) (VP X.K Q) := hp
  have left : (∀ x S1, ev G F a l S = .ok x S1 → revW x S1 = revL x S1) → RTT.tTupRevL X.K (TEof X.K U0 (ev G F a)) σ H Q := fun hx => by
    refine ⟨l, S, μ, hl, hS, ?_⟩
    have hp : PostE X.K U0 H μ ((ev G F a l S).bind revL) (VP X.K Q) := by
      cases er : ev G F a l S with
      | ok x S1 => rw [er] at hp; show PostE X.K U0 H μ (revL x S1) _; rw [← hx x S1 er]; exact hp
      | ex x S1 => rw [er] at hp; exact hp
      | no => rw [er] at hp; exact hp
    refine hp.bind.imp fun x H1 μ1 S1 e1 s1 q1 v rv => ?_
    unfold revL at q1
    cases e : rdL S1 x with
    | none => simp only [e] at q1; exact q1.elim
    | some ds =>
      simp only [e] at q1
      have ed : rdD S1 x = some (.list ds) := by
        cases x with
        | dat d => cases d <;> simp only [rdL] at e <;> try cases e
                   rfl
        | obj p =>
          simp only [rdL] at e
          show obD S1[p]? = _
          split at e
          · rename_i ds' e2
            cases e
            rw [e2] <;> rfl
          · cases e
        | scr _ => cases e
        | cst _ => cases e
        | cdi _ => cases e
        | fn _ _ => cases e
      obtain ⟨b, vs, rfl, hb, hr⟩ := (rdD_rep s1 rv ed).lst
      exact ⟨b, vs, rfl, SqL.of hb, vp_tup s1 q1 hr.reverse⟩
  by_cases ht : ∃ ds S1, ev G F a l S = .ok (.dat (.tuple ds)) S1
  · obtain ⟨ds, S1, er⟩ := ht
    refine .inr ⟨l, S, μ, hl, hS, ?_⟩
    rw [er] at hp ⊢
    intro H1 μ1 e1 s1 v rv
    obtain ⟨b, vs, rfl, hb, hr⟩ := RepT.tup (.dat (show RepD X.K H1 μ1 (.tuple ds) v from rv))
    exact ⟨b, vs, rfl, hb, vp_tup s1 (PostE.up (show PostE X.K U0 H μ (.ok (.dat (.tuple ds.reverse)) S1) (VP X.K Q) from hp) e1) hr.reverse⟩
  · refine .inl (left fun x S1 er => ?_)
    unfold revW
    split
    · exact absurd ⟨_, _, er⟩ ht
    · rfl
theorem PostE.at {α β : Type} {K : PySem.W.Frag} {U : Wx} {H H1 : Hp} {μ μ1 : Mu} {r : Rs α} {f : α → Sto → Rs β} {R : β → Hp → Mu → Sto → Prop} {R' : α → Hp → Mu → Sto → Prop} (h : PostE K U H1 μ1 (r.bind f) R)
    (tr : ∀ H' μ' S', Ext H μ H' μ' → StoRep K H' S' μ' → ∃ μ2, Ext H1 μ1 H' μ2 ∧ StoRep K H' S' μ2)
    (k : ∀ a S', PostE K U H1 μ1 (f a S') R → ∀ H' μ', Ext H μ H' μ' → StoRep K H' S' μ' → R' a H' μ' S') : PostE K U H μ r R' := by
  cases r with
  | ok a S' => exact fun H' μ' e s => k a S' h H' μ' e s
  | ex x S' => exact fun H' μ' e s => let ⟨μ2, e2, s2⟩ := tr H' μ' S' e s; h H' μ2 e2 s2
  | no => exact h
theorem wipe_get (σ : L2.St) {i : Nat} : ∀ {vs : List Nat}, i ∉ vs → (wipe σ vs)[i]? = σ[i]?
  | [], _ => rfl
  | v :: vs, h => by
    simp only [List.mem_cons, not_or] at h
    show ((wipe σ vs).set v none)[i]? = _
    rw [List.getElem?_set_ne (Ne.symm h.1)]
    exact wipe_get σ h.2
theorem wipe_in (σ : L2.St) {i : Nat} : ∀ {vs : List Nat}, i ∈ vs → i < σ.length → (wipe σ vs)[i]? = some none
  | v :: vs, h, hl => by
    show ((wipe σ vs).set v none)[i]? = _
    by_cases e : v = i
    · subst e
      exact List.getElem?_set_self (by rw [wipe_length]; exact hl)
    · rw [List.getElem?_set_ne e]
      exact wipe_in σ ((List.mem_cons.mp h).resolve_left fun z => e z.symm) hl
theorem wipe_same {σ σ2 : L2.St} {vs ts : List Nat} (hl : σ2.length = σ.length) (hs : ∀ k, k ∈ ts → k ∈ vs) (h : ∀ i, i ∉ ts → σ2[i]? = (wipe σ vs)[i]?) : wipe σ2 vs = wipe σ vs := by
  refine List.ext_getElem? fun i => ?_
  by_cases hi : i ∈ vs
  · by_cases hl2 : i < σ.length
    · rw [wipe_in σ hi hl2, wipe_in σ2 hi (by rw [hl]; exact hl2)]
    · rw [List.getElem?_eq_none (by rw [wipe_length]; omega), List.getElem?_eq_none (by rw [wipe_length]; omega)]
  · rw [wipe_get σ2 hi, h i (fun z => hi (hs i z))]
/-- a comprehension's turns -/
theorem lc_turns {K : PySem.W.Frag} {J : It} {ds : List D} {A : Hp → Mu → Prop} (wk : Walks K J ds A) {m : Bool} {vs : List Nat} {elt tg tst : E} {l : Loc} {σ : L2.St} {Dr : Addr} {H1 : Hp} {μ1 : Mu} {S1 : Sto} {Q : VK}
    (hl : LocRep K H1 μ1 l σ) (hS : StoRep K H1 S1 μ1) (hA : A H1 μ1) (hD : H1 Dr = none) (hts : ∀ k, k ∈ tslots tg → k ∈ vs)
    (hp : PostE K U0 H1 μ1 ((forC (fun d S2 => (asg G F tg (.dat d) (wipeL l vs) S2).bind fun l2 S3 => (evt G F tst l2 S3).bind fun c S4 => if c = true then (ev G F elt l2 S4).bind fun y S5 => datW y S5 else .ok none S4) ds [] S1).bind fun ys S2 => mk m (.list ys) S2) (VP K Q)) :
    ∃ W' : Nat → Nat → Hp → Prop, (∃ k, W' 0 k (upd H1 Dr (.lst []))) ∧ ∀ i k H, W' i k H →
      (J.stop i H ∧ Q (.ref Dr) H) ∨ (J.go i H ∧ ∃ Nx : Hp → Prop, (∀ H', Nx H' → ∃ m', m' < k ∧ W' (i + 1) m' H') ∧ ∀ x H', J.yld i H x H' → TGof K U0 (tslots tg) (asg G F tg) x (wipe σ vs) H' fun σ2 H2 => wipe σ2 vs = wipe σ vs ∧ TBof K U0 (evt G F tst) σ2 H2 fun b H3 =>
        if b = true then TEof K U0 (ev G F elt) σ2 H3 fun y H4 => ∃ acc, H4 Dr = some (.lst acc) ∧ acc.length < sizeLine ∧ Nx (upd H4 Dr (.lst (acc ++ [y]))) else Nx H3) := by
  generalize hb : (fun d S2 => (asg G F tg (.dat d) (wipeL l vs) S2).bind fun l2 S3 => (evt G F tst l2 S3).bind fun c S4 => if c = true then (ev G F elt l2 S4).bind fun y S5 => datW y S5 else .ok none S4) = body at hp
  have hDh := hS.nohid hD
  -- what stands ahead of turn i, the items acc made so far
  let Iv (i : Nat) (H : Hp) : Prop := ∃ S μ acc vacc, Dr ∈ μ.hid ∧ (∀ a, a ∈ μ1.hid → a ∈ μ.hid) ∧ StoRep K H S μ ∧ LocRep K H μ (wipeL l vs) (wipe σ vs) ∧ A H μ ∧ H Dr = some (.lst vacc) ∧ RepDs K H μ acc vacc ∧ Ext H1 μ1 H (μ.show μ1.hid) ∧
    PostE K U0 H1 μ1 ((forC body (ds.drop i) acc S).bind fun ys S2 => mk m (.list ys) S2) (VP K Q)
  refine ⟨fun i k H => k = ds.length - i ∧ i ≤ ds.length ∧ Iv i H, ⟨_, rfl, Nat.zero_le _, ?_⟩, ?_⟩
  · have e := Ext.hide (μ := μ1) (o := .lst []) hD
    exact ⟨S1, μ1.hide Dr, [], [], List.mem_cons_self, fun a h => List.mem_cons_of_mem _ h, hS.hide hD, wipe_rep (hl.up e) vs, wk.up hA e, upd_same, .nil, Ext.made hD (Ext.refl _ _), hp⟩
  · rintro i k H ⟨rfl, hi, S, μ, acc, vacc, h1, h2, h3, h4, h5, h6, h7, h8, h9⟩
    -- a later state is one behind the beginning
    have tr : ∀ H' μ' S', Ext H μ H' μ' → StoRep K H' S' μ' → ∃ μ2, Ext H1 μ1 H' μ2 ∧ StoRep K H' S' μ2 := fun H' μ' S' e s =>
      ⟨μ'.show μ1.hid, h8.trans (e.both μ1.hid), s.less fun a z => e.hid a (h2 a z)⟩
    by_cases hlt : i < ds.length
    · refine .inr ⟨wk.go h5 hlt, Iv (i + 1), fun H' q => ⟨_, (by omega), rfl, hlt, q⟩, fun x H' y => ?_⟩
      obtain ⟨ey, sy, ry⟩ := wk.yld h5 y (List.getElem?_eq_getElem hlt)
      rw [List.drop_eq_getElem_cons hlt] at h9
      have h9 : PostE K U0 H1 μ1 (((body ds[i] S).bind fun r S1 => match r with | some y => if acc.length < sizeLine then forC body (ds.drop (i + 1)) (acc ++ [y]) S1 else .no | none => forC body (ds.drop (i + 1)) acc S1).bind fun ys S2 => mk m (.list ys) S2) (VP K Q) := h9
      have hbi : body ds[i] S = (asg G F tg (.dat ds[i]) (wipeL l vs) S).bind fun l2 S3 => (evt G F tst l2 S3).bind fun c S4 => if c = true then (ev G F elt l2 S4).bind fun y S5 => datW y S5 else .ok none S4 := by rw [← hb]
      rw [hbi] at h9
      have bb : ∀ {α β γ : Type} (r : Rs α) (f : α → Sto → Rs β) (g : β → Sto → Rs γ), (r.bind f).bind g = r.bind fun a S => (f a S).bind g := fun r f g => by cases r <;> rfl
      simp only [bb] at h9
      refine ⟨wipeL l vs, S, μ, .dat ds[i], h4.up ey, sy S h3, ry, ?_⟩
      refine PostE.at h9 (fun H2 μ2 S2 e s => tr H2 μ2 S2 (ey.trans e) s) fun l2 S3 p3 H3 μ3 e3 s3 σ2 hl2 hag => ?_
      have e03 := ey.trans e3
      refine ⟨wipe_same (by rw [hag.1, wipe_length]) hts hag.2, ?_⟩
      refine ⟨l2, S3, μ3, hl2, s3, ?_⟩
      refine PostE.at p3 (fun H4 μ4 S4 e s => tr H4 μ4 S4 (e03.trans e) s) fun c S4 p4 H4 μ4 e4 s4 => ?_
      have e04 := e03.trans e4
      cases c with
      | false =>
        refine iteF ?_
        exact ⟨S4, μ4, acc, vacc, e04.hid _ h1, fun a z => e04.hid a (h2 a z), s4, h4.up e04, wk.up h5 e04, e04.keep _ _ h6 (h3.hid Dr h1).1, h7.up e04, h8.trans (e04.both _), p4⟩
      | true =>
        refine iteT ?_
        refine ⟨l2, S4, μ4, hl2.up e4, s4, ?_⟩
        rw [if_pos rfl, bb] at p4
        refine PostE.at p4 (fun H5 μ5 S5 e s => tr H5 μ5 S5 (e04.trans e) s) fun yv S5 p5 H5 μ5 e5 s5 y5 r5 => ?_
        have e05 := e04.trans e5
        cases yv with
        | dat dv =>
          have p5 : PostE K U0 H1 μ1 ((if acc.length < sizeLine then forC body (ds.drop (i + 1)) (acc ++ [dv]) S5 else .no).bind fun ys S2 => mk m (.list ys) S2) (VP K Q) := p5
          have hz : acc.length < sizeLine := by
            by_cases z : acc.length < sizeLine
            · exact z
            · rw [if_neg z] at p5; exact p5.elim
          rw [if_pos hz] at p5
          have k6 : H5 Dr = some (.lst vacc) := e05.keep _ _ h6 (h3.hid Dr h1).1
          have k1 : Dr ∈ μ5.hid := e05.hid _ h1
          have k7 := h7.up e05
          refine ⟨vacc, k6, by rw [← h7.length]; exact hz, S5, μ5, acc ++ [dv], vacc ++ [y5], k1, fun a z => e05.hid a (h2 a z), s5.grow k6 k1, (h4.up e05).grow k6 k1, wk.grow (wk.up h5 e05) k6 k1, upd_same,
            (RepDs.grow k6 k1 _ _ k7).append (.cons (RepD.grow k6 k1 _ _ r5) .nil), Ext.made hD (h8.trans (e05.both _)), p5⟩
        | obj _ => exact p5.elim
        | scr _ => exact p5.elim
        | cst _ => exact p5.elim
        | cdi _ => exact p5.elim
        | fn _ _ => exact p5.elim
    · have e : i = ds.length := by omega
      subst e
      refine .inl ⟨wk.stop h5 (Nat.le_refl _), ?_⟩
      rw [List.drop_length] at h9
      have h9 : PostE K U0 H1 μ1 (mk m (.list acc) S) (VP K Q) := h9
      have hno := (h3.hid Dr h1).1
      cases m with
      | false => exact h9 H (μ.show μ1.hid) h8 (h3.less h2) (.ref Dr) (.lst h6 hno hDh (RepDs.less h2 h7))
      | true =>
        refine h9 H ((μ.show μ1.hid).push Dr) (Ext.liveP hD h8) (h3.liveP h1 h2 hDh ⟨vacc, h6, RepDs.live h1 h2 h7⟩) (.ref Dr) ?_
        show RepA (μ.ob ++ [some Dr])[S.length]? (.ref Dr)
        rw [h3.len, List.getElem?_append_right (Nat.le_refl _)]
        simp [RepA]
end
end MP
set_option Elab.async false
set_option linter.all false
set_option maxRecDepth 100000
set_option maxHeartbeats 8000000
/-! An expression does what it means: all of them. -/
namespace MP
open PySem PySem.Spec PyProof.Rows L2 RT

section
variable {C : Ck} {G : Nat → Option W} {F : Fun'} {n : Nat}
/-- a part of syntax that is none of a kind -/
theorem Snd.mk0 {e : E} (ee : ∀ (top : Bool) (sc : Scope) (x : Expr) (X : Cx), XF X C G F n → X.env.scope = sc → (top = true → ∀ y, X.fn y = true) → okE C top e sc x = true → PE X x (TEof X.K U0 (ev G F e)))
    (tt : ∀ top sc x, okT C top e sc x = false) (aa : ∀ top sc x, okA C top e sc x = false) (oo : ∀ top sc x, okO C top e sc x = false) (ts : ∀ top sc x, okTs C top e sc x = false) (ii : ∀ top sc x, okI C top e sc x = false)
    (gg : ∀ top sc x, okG C top e sc x = false) (gs : ∀ top sc x, okGs C top e sc x = false) (pp : ∀ top sc ks vs, okP C top e sc ks vs = false := by intros; rfl) : Snd C G F n e where
  ee := ee
  tt := fun top sc x X _ _ _ h => by rw [tt] at h; cases h
  ww := fun top sc op y r pos X _ _ _ h => by rw [tt] at h; cases h
  aa := fun top sc xs X _ _ _ h => by rw [aa] at h; cases h
  oo := fun top sc x X _ _ _ h => by rw [oo] at h; cases h
  ts := fun top sc x X _ _ _ h => by rw [ts] at h; cases h
  ii := fun tg top sc x X _ _ _ h => by rw [ii] at h; cases h
  gg := fun top sc x X _ _ _ h => by rw [gg] at h; cases h
  gs := fun top sc x X _ _ _ h => by rw [gs] at h; cases h
  pp := fun top sc ks vs pos X _ _ _ h => by rw [pp] at h; cases h
/-- a test -/
theorem Snd.mkT {e : E} (tt : ∀ (top : Bool) (sc : Scope) (x : Expr) (X : Cx), XF X C G F n → X.env.scope = sc → (top = true → ∀ y, X.fn y = true) → okT C top e sc x = true → PT X x (TTof X.K U0 (ev G F e)))
    (ww : ∀ (top : Bool) (sc : Scope) (op : BoolOp) (y : Expr) (r : List Expr) (pos : Pos) (X : Cx), XF X C G F n → X.env.scope = sc → (top = true → ∀ y, X.fn y = true) → okT C top e sc (.BoolOp op (y :: r) pos) = true → PW X (.BoolOp op (y :: r) pos) (TTof X.K U0 (ev G F e)))
    (ee : ∀ top sc x, okE C top e sc x = false) (aa : ∀ top sc x, okA C top e sc x = false) (oo : ∀ top sc x, okO C top e sc x = false) (ts : ∀ top sc x, okTs C top e sc x = false) (ii : ∀ top sc x, okI C top e sc x = false)
    (gg : ∀ top sc x, okG C top e sc x = false) (gs : ∀ top sc x, okGs C top e sc x = false) (pp : ∀ top sc ks vs, okP C top e sc ks vs = false := by intros; rfl) : Snd C G F n e where
  ee := fun top sc x X _ _ _ h => by rw [ee] at h; cases h
  tt := tt
  ww := ww
  aa := fun top sc xs X _ _ _ h => by rw [aa] at h; cases h
  oo := fun top sc x X _ _ _ h => by rw [oo] at h; cases h
  ts := fun top sc x X _ _ _ h => by rw [ts] at h; cases h
  ii := fun tg top sc x X _ _ _ h => by rw [ii] at h; cases h
  gg := fun top sc x X _ _ _ h => by rw [gg] at h; cases h
  gs := fun top sc x X _ _ _ h => by rw [gs] at h; cases h
  pp := fun top sc ks vs pos X _ _ _ h => by rw [pp] at h; cases h
theorem Snd.mkI {e : E} (ii : ∀ (tg : Expr) (top : Bool) (sc : Scope) (x : Expr) (X : Cx), XF X C G F n → X.env.scope = sc → (top = true → ∀ y, X.fn y = true) → okI C top e sc x = true → PI X tg x (TIof X.K U0 (evi G F e)))
    (ee : ∀ top sc x, okE C top e sc x = false) (tt : ∀ top sc x, okT C top e sc x = false) (aa : ∀ top sc x, okA C top e sc x = false) (oo : ∀ top sc x, okO C top e sc x = false) (ts : ∀ top sc x, okTs C top e sc x = false)
    (gg : ∀ top sc x, okG C top e sc x = false) (gs : ∀ top sc x, okGs C top e sc x = false) (pp : ∀ top sc ks vs, okP C top e sc ks vs = false := by intros; rfl) : Snd C G F n e where
  ee := fun top sc x X _ _ _ h => by rw [ee] at h; cases h
  tt := fun top sc x X _ _ _ h => by rw [tt] at h; cases h
  ww := fun top sc op y r pos X _ _ _ h => by rw [tt] at h; cases h
  aa := fun top sc xs X _ _ _ h => by rw [aa] at h; cases h
  oo := fun top sc x X _ _ _ h => by rw [oo] at h; cases h
  ts := fun top sc x X _ _ _ h => by rw [ts] at h; cases h
  ii := ii
  gg := fun top sc x X _ _ _ h => by rw [gg] at h; cases h
  gs := fun top sc x X _ _ _ h => by rw [gs] at h; cases h
  pp := fun top sc ks vs pos X _ _ _ h => by rw [pp] at h; cases h
theorem Snd.mkG {e : E} (gg : ∀ (top : Bool) (sc : Scope) (x : Expr) (X : Cx), XF X C G F n → X.env.scope = sc → (top = true → ∀ y, X.fn y = true) → okG C top e sc x = true → PG X x (TGof X.K U0 (tslots e) (asg G F e)))
    (ee : ∀ top sc x, okE C top e sc x = false) (tt : ∀ top sc x, okT C top e sc x = false) (aa : ∀ top sc x, okA C top e sc x = false) (oo : ∀ top sc x, okO C top e sc x = false) (ts : ∀ top sc x, okTs C top e sc x = false)
    (ii : ∀ top sc x, okI C top e sc x = false) (gs : ∀ top sc x, okGs C top e sc x = false) (pp : ∀ top sc ks vs, okP C top e sc ks vs = false := by intros; rfl) : Snd C G F n e where
  ee := fun top sc x X _ _ _ h => by rw [ee] at h; cases h
  tt := fun top sc x X _ _ _ h => by rw [tt] at h; cases h
  ww := fun top sc op y r pos X _ _ _ h => by rw [tt] at h; cases h
  aa := fun top sc xs X _ _ _ h => by rw [aa] at h; cases h
  oo := fun top sc x X _ _ _ h => by rw [oo] at h; cases h
  ts := fun top sc x X _ _ _ h => by rw [ts] at h; cases h
  ii := fun tg top sc x X _ _ _ h => by rw [ii] at h; cases h
  gg := gg
  gs := fun top sc x X _ _ _ h => by rw [gs] at h; cases h
  pp := fun top sc ks vs pos X _ _ _ h => by rw [pp] at h; cases h
/-- a test's end is a bool that a value stands for -/
theorem tt_of_te {X : Cx} {r : Loc → Sto → Rs W} {f : W → Sto → Rs W} (hf : ∀ w S R H μ, PostE X.K U0 H μ (f w S) R → ∃ b, w = .dat (.bool b) ∧ PostE X.K U0 H μ (.ok (.dat (.bool b)) S) R) {σ : L2.St} {H : Hp} {Q : Bool → Hp → Prop}
    (h : TTof X.K U0 (fun l S => (r l S).bind f) σ H Q) : TEof X.K U0 r σ H fun x H1 => ∃ k, x = .bl k ∧ Q k H1 := by
  obtain ⟨l, S, μ, hl, hS, hp⟩ := h
  refine ⟨l, S, μ, hl, hS, hp.bind.imp fun w H1 μ1 S1 e1 s1 q1 v rv => ?_⟩
  obtain ⟨b, rfl, q⟩ := hf w S1 _ _ _ q1
  obtain ⟨c, ec, qc⟩ := q H1 μ1 (Ext.refl _ _) s1
  cases ec
  exact ⟨b, blrep rv, qc⟩
theorem blW_at {K : PySem.W.Frag} {w : W} {S : Sto} {R : W → Hp → Mu → Sto → Prop} {H : Hp} {μ : Mu} (h : PostE K U0 H μ (blW w S) R) : ∃ b, w = .dat (.bool b) ∧ PostE K U0 H μ (.ok (.dat (.bool b)) S) R := by
  unfold blW at h
  split at h
  · exact ⟨_, rfl, h⟩
  · exact h.elim
/-- a name -/
theorem pe_varE {X : Cx} {k : Nat} {x : Str} {pos : Pos} {sc : Scope} (xf : XF X C G F n) (hs : X.env.scope = sc) (h1 : C.N[k]? = some x) (h2 : visB sc x = true) (h3 : plainN x = true) : PE X (.Name x pos) (TEof X.K U0 (ev G F (.var k))) :=
  PE.imp (pe_var (i := k) (by rw [xf.hN]; exact h1) (by rw [hs]; exact visB_vis h2) (plainN_d h3) (plainN_c h3)) fun σ H Q h => te_var h
/-- a def as a value -/
theorem pe_fnvE {X : Cx} {i : Nat} {x : Str} {pos : Pos} {sc : Scope} (xf : XF X C G F n) (hs : X.env.scope = sc) (h1 : C.fn i = some x) (h2 : glB sc x = true) (h3 : plainN x = true) : PE X (.Name x pos) (TEof X.K U0 (ev G F (.fnv i x))) := by
  obtain ⟨fa, hm, hn⟩ : ∃ fa, X.mg x = some (.ref fa) ∧ PySem.W.nsIn X.K mainGlobals x = some (some (.ref fa)) := (xf.fns i x h1).elim (fun ⟨fa, _, _, h, _⟩ => ⟨fa, h.1, h.2⟩) fun ⟨fa, h, _⟩ => ⟨fa, h.1, h.2⟩
  refine PE.imp (pe_glob (glB_gl hs h2) hm (show RelV (.ref fa) (.ref fa) from rfl) (plainN_d h3)) fun σ H Q h => ?_
  obtain ⟨l, S, μ, hl, hS, hp⟩ := h
  exact hp H μ (Ext.refl _ _) hS (.ref fa) ⟨fa, rfl, hn⟩
theorem pe_glbE {X : Cx} {g : Nat} {x : Str} {pos : Pos} {sc : Scope} (xf : XF X C G F n) (hs : X.env.scope = sc) (h1 : C.gl g = some x) (h2 : glB sc x = true) (h3 : plainN x = true) : PE X (.Name x pos) (TEof X.K U0 (ev G F (.glb g))) := by
  cases e : G g with
  | none =>
    refine ⟨fun pins s σ H Q I h => ?_⟩
    obtain ⟨l, S, μ, hl, hS, hp⟩ := h
    have hp : PostE X.K U0 H μ (opt (G g) S) (VP X.K Q) := hp
    rw [e] at hp
    exact hp.elim
  | some w =>
    obtain ⟨v, u, hm, r, hr⟩ := xf.glb g x w h1 e
    refine PE.imp (pe_glob (glB_gl hs h2) hm r (plainN_d h3)) fun σ H Q h => ?_
    obtain ⟨l, S, μ, hl, hS, hp⟩ := h
    have hp : PostE X.K U0 H μ (opt (G g) S) (VP X.K Q) := hp
    rw [e] at hp
    exact hp H μ (Ext.refl _ _) hS v (hr H μ)
theorem pe_andE {X : Cx} {ra rb : Loc → Sto → Rs W} {x y : Expr} {r : List Expr} {pos : Pos} (ha : PE X x (TEof X.K U0 ra)) (hb : PE X (.BoolOp .And (y :: r) pos) (TEof X.K U0 rb)) :
    PE X (.BoolOp .And (x :: y :: r) pos) (TEof X.K U0 fun l S => (ra l S).bind fun x S1 => ifW x (rb l S1) (.ok (.dat (.bool false)) S1)) :=
  PE.imp (pe_and ha hb) fun σ H Q h => by
    obtain ⟨l, S, μ, hl, hS, hp⟩ := h
    refine ⟨l, S, μ, hl, hS, hp.bind.imp fun w H1 μ1 S1 e1 s1 q1 v rv => ?_⟩
    obtain ⟨b, rfl, q⟩ := ifW_at q1
    exact ⟨b, blrep rv, post_if q (fun q => ⟨l, S1, μ1, hl.up e1, s1, q⟩) fun q => vp_here s1 q (.bl false)⟩
theorem pe_orE {X : Cx} {ra rb : Loc → Sto → Rs W} {x y : Expr} {r : List Expr} {pos : Pos} (ha : PE X x (TEof X.K U0 ra)) (hb : PE X (.BoolOp .Or (y :: r) pos) (TEof X.K U0 rb)) :
    PE X (.BoolOp .Or (x :: y :: r) pos) (TEof X.K U0 fun l S => (ra l S).bind fun x S1 => ifW x (.ok (.dat (.bool true)) S1) (rb l S1)) :=
  PE.imp (pe_or ha hb) fun σ H Q h => by
    obtain ⟨l, S, μ, hl, hS, hp⟩ := h
    refine ⟨l, S, μ, hl, hS, hp.bind.imp fun w H1 μ1 S1 e1 s1 q1 v rv => ?_⟩
    obtain ⟨b, rfl, q⟩ := ifW_at q1
    exact ⟨b, blrep rv, post_if q (fun q => vp_here s1 q (.bl true)) fun q => ⟨l, S1, μ1, hl.up e1, s1, q⟩⟩
theorem pe_notE {X : Cx} {ra : Loc → Sto → Rs W} {x : Expr} {pos : Pos} (ha : PE X x (TEof X.K U0 ra)) : PE X (.UnaryOp .Not x pos) (TEof X.K U0 fun l S => (ra l S).bind fun x S1 => notW x S1) :=
  PE.imp (pe_not ha) fun σ H Q h => by
    obtain ⟨l, S, μ, hl, hS, hp⟩ := h
    refine ⟨l, S, μ, hl, hS, hp.bind.imp fun w H1 μ1 S1 e1 s1 q1 v rv => ?_⟩
    unfold notW at q1
    split at q1
    · exact ⟨_, blrep rv, vp_here s1 q1 (.bl _)⟩
    · exact q1.elim
theorem pe_ifxE {X : Cx} {rt ra rb : Loc → Sto → Rs W} {t x y : Expr} {pos : Pos} (ht : PT X t (TTof X.K U0 rt)) (ha : PE X x (TEof X.K U0 ra)) (hb : PE X y (TEof X.K U0 rb)) :
    PE X (.IfExp t x y pos) (TEof X.K U0 fun l S => (rt l S).bind fun x S1 => ifW x (ra l S1) (rb l S1)) :=
  PE.imp (pe_ifExp ht ha hb) fun σ H Q h => by
    obtain ⟨l, S, μ, hl, hS, hp⟩ := h
    refine ⟨l, S, μ, hl, hS, hp.bind.imp fun w H1 μ1 S1 e1 s1 q1 => ?_⟩
    obtain ⟨b, rfl, q⟩ := ifW_at q1
    exact ⟨b, rfl, post_if q (fun q => ⟨l, S1, μ1, hl.up e1, s1, q⟩) fun q => ⟨l, S1, μ1, hl.up e1, s1, q⟩⟩
theorem pe_tupE {X : Cx} {r : Loc → Sto → Rs (List W)} {xs : List Expr} {k : Nat} {pos : Pos} (ha : PA X xs (TAof X.K U0 r)) : PE X (.Tuple xs k pos) (TEof X.K U0 fun l S => (r l S).bind fun ws S1 => tupW ws S1) :=
  PE.imp (pe_tupX ha) fun σ H Q h => by
    obtain ⟨l, S, μ, hl, hS, hp⟩ := h
    refine ⟨l, S, μ, hl, hS, hp.bind.imp fun ws H1 μ1 S1 e1 s1 q1 vs rv => ?_⟩
    unfold tupW at q1
    split at q1
    · rename_i ds e
      split at q1
      · have rd := dsOf_rep e rv
        exact ⟨by rw [← rd.length]; assumption, vp_tup s1 q1 rd⟩
      · exact q1.elim
    · exact q1.elim
theorem pe_lstE {X : Cx} {r : Loc → Sto → Rs (List W)} {m : Bool} {xs : List Expr} {pos : Pos} (ha : PA X xs (TAof X.K U0 r)) : PE X (.List xs pos) (TEof X.K U0 fun l S => (r l S).bind fun ws S1 => lstW m ws S1) :=
  PE.imp (pe_lst ha) fun σ H Q h => by
    obtain ⟨l, S, μ, hl, hS, hp⟩ := h
    refine ⟨l, S, μ, hl, hS, hp.bind.imp fun ws H1 μ1 S1 e1 s1 q1 vs rv => ?_⟩
    unfold lstW at q1
    split at q1
    · rename_i ds e
      split at q1
      · have rd := dsOf_rep e rv
        exact ⟨by rw [← rd.length]; assumption, vp_mk s1 q1 rd⟩
      · exact q1.elim
    · exact q1.elim
theorem te_chn {K : PySem.W.Frag} {ra rb rc : Loc → Sto → Rs W} {o1 o2 : CO} {σ : L2.St} {H : Hp} {Q : VK}
    (h : TEof K U0 (fun l S => (ra l S).bind fun x S1 => (rb l S1).bind fun y S2 => (cmpW S2 o1 x y).bind fun z S3 => ifW z ((rc l S3).bind fun u S4 => cmpW S4 o2 y u) (.ok (.dat (.bool false)) S3)) σ H Q) :
    tChain (rOf K U0 fun S x y => cmpW S o1 x y) (rOf K U0 fun S x y => cmpW S o2 x y) (TEof K U0 ra) (TEof K U0 rb) (TEof K U0 rc) σ H Q := by
  obtain ⟨l, S, μ, hl, hS, hp⟩ := h
  refine ⟨l, S, μ, hl, hS, hp.bind.imp fun x H1 μ1 S1 e1 s1 q1 v rv => ⟨l, S1, μ1, hl.up e1, s1, q1.bind.imp fun y H2 μ2 S2 e2 s2 q2 u ru => ⟨S2, μ2, x, y, s2, rv.up e2, ru, q2.bind.imp fun z H3 μ3 S3 e3 s3 q3 v3 r3 => ?_⟩⟩⟩
  obtain ⟨b, rfl, q⟩ := ifW_at q3
  have l3 := ((hl.up e1).up e2).up e3
  refine ⟨b, blrep r3, post_if q (fun q => ⟨l, S3, μ3, l3, s3, q.bind.imp fun w H4 μ4 S4 e4 s4 q4 v4 r4 => ⟨S4, μ4, y, w, s4, (ru.up e3).up e4, r4, q4⟩⟩) fun q => vp_here s3 q (.bl false)⟩
theorem pe_slcE {X : Cx} {ra : Loc → Sto → Rs W} {ro rh : Loc → Sto → Rs (Option Int)} {x : Expr} {lo hi : Option Expr} {p2 pos : Pos} (ha : PE X x (TEof X.K U0 ra)) (hl' : PO X lo (TOof X.K U0 ro)) (hh : PO X hi (TOof X.K U0 rh)) :
    PE X (.Subscript x (.Slice lo hi none p2) pos) (TEof X.K U0 fun l S => (ra l S).bind fun x S1 => (ro l S1).bind fun i S2 => (rh l S2).bind fun j S3 => slcW S3 x i j) :=
  PE.imp (pe_slice (sl_slcW (U := U0)) ha hl' hh) fun σ H Q h => by
    obtain ⟨l, S, μ, hl, hS, hp⟩ := h
    refine ⟨l, S, μ, hl, hS, hp.bind.imp fun x H1 μ1 S1 e1 s1 q1 v rv => ⟨l, S1, μ1, hl.up e1, s1, q1.bind.imp fun i H2 μ2 S2 e2 s2 q2 => ⟨l, S2, μ2, (hl.up e1).up e2, s2, q2.bind.imp fun j H3 μ3 S3 e3 s3 q3 => ⟨S3, μ3, x, s3, (rv.up e2).up e3, q3⟩⟩⟩⟩
theorem pa_consE {X : Cx} {ra : Loc → Sto → Rs W} {rs : Loc → Sto → Rs (List W)} {x : Expr} {xs : List Expr} (ha : PE X x (TEof X.K U0 ra)) (hs : PA X xs (TAof X.K U0 rs)) (hst : noStar x = true) :
    PA X (x :: xs) (TAof X.K U0 fun l S => (ra l S).bind fun w S1 => (rs l S1).bind fun ws S2 => .ok (w :: ws) S2) :=
  PA.imp (pa_cons ha hs (star_cons hst)) fun σ H Q h => by
    obtain ⟨l, S, μ, hl, hS, hp⟩ := h
    exact ⟨l, S, μ, hl, hS, hp.bind.imp fun w H1 μ1 S1 e1 s1 q1 v rv => ⟨l, S1, μ1, hl.up e1, s1, q1.bind.imp fun ws H2 μ2 S2 e2 s2 q2 vs rvs => q2 H2 μ2 (Ext.refl _ _) s2 (v :: vs) (.cons (rv.up e2) rvs)⟩⟩
end
end MP
set_option Elab.async false
set_option linter.all false
set_option maxRecDepth 100000
set_option maxHeartbeats 8000000
/-! Dicts: displays, methods, comprehensions, walks; dicts of the module. -/
namespace MP
open PySem PySem.Spec PyProof.Rows L2 RT
theorem PO.imp {X : Cx} {e : Option Expr} {t t' : TO} (h : PO X e t) (i : ∀ σ H Q, t' σ H Q → t σ H Q) : PO X e t' := ⟨fun pins s σ H Q I q => h.run pins s σ H Q I (i σ H Q q)⟩
theorem PTs.imp {X : Cx} {e : List Expr} {t t' : TT} (h : PTs X e t) (i : ∀ σ H Q, t' σ H Q → t σ H Q) : PTs X e t' := ⟨fun pins s σ H Q I q => h.run pins s σ H Q I (i σ H Q q)⟩
theorem PW.imp {X : Cx} {e : Expr} {t t' : TT} (h : PW X e t) (i : ∀ σ H Q, t' σ H Q → t σ H Q) : PW X e t' := ⟨fun w pins s σ H Q I q => h.run w pins s σ H Q I (i σ H Q q)⟩
theorem PI.imp {X : Cx} {tg e : Expr} {t t' : TI} (h : PI X tg e t) (i : ∀ σ H Q, t' σ H Q → t σ H Q) : PI X tg e t' := ⟨fun pins s σ H Q I q => h.run pins s σ H Q I (i σ H Q q)⟩
theorem PG.imp {X : Cx} {e : Expr} {t t' : TG} (h : PG X e t) (i : ∀ v σ H Q, t' v σ H Q → t v σ H Q) : PG X e t' := ⟨fun pins s σ H v u Q I r q => h.run pins s σ H v u Q I r (i v σ H Q q)⟩
theorem PGs.imp {X : Cx} {e : List Expr} {t t' : TGs} (h : PGs X e t) (i : ∀ v σ H Q, t' v σ H Q → t v σ H Q) : PGs X e t' := ⟨fun pins s σ H v u Q I r q => h.run pins s σ H v u Q I r (i v σ H Q q)⟩
section
variable {K : PySem.W.Frag} {U : Wx} {H : Hp} {μ : Mu} {S : Sto}
theorem RepWs.two {ws : List W} {ps : List (V × V)} {kvs : List (Key × W)} : ∀ (_ : RepWs K H μ ws (flatP ps)) (_ : pairsW ws = some kvs), ∃ us : List (Key × V), ps = us.map (fun kv => (kV kv.1, kv.2)) ∧ RepKs K H μ kvs us := by
  induction ps generalizing ws kvs with
  | nil =>
    intro r e
    cases r
    cases e
    exact ⟨[], rfl, .nil⟩
  | cons p ps ih =>
    intro r e
    obtain ⟨x, y⟩ := p
    cases r with
    | cons rx t =>
      cases t with
      | @cons wy _ ws _ ry t =>
        unfold pairsW at e
        split at e
        · rename_i k ks e1 e2
          cases e
          obtain ⟨us, rfl, q⟩ := ih t e2
          obtain rfl := keyW_rep rx e1
          exact ⟨(k, y) :: us, rfl, .cons ⟨rfl, ry⟩ q⟩
        · cases e
theorem pp_nilE {X : Cx} {G : Nat → Option W} {F : Fun'} {pos : Pos} : ∃ trs, PPs X pos [] [] trs ∧ ∀ σ H Q, TPof X.K (evs G F .nil) σ H Q → tPairs trs σ H Q :=
  ⟨[], pps_nil, fun σ H Q h => by
    obtain ⟨l, S, μ, hl, hS, hp⟩ := h
    exact hp H μ (Ext.refl _ _) hS [] .nil⟩
theorem pp_consE {X : Cx} {rk rv : Loc → Sto → Rs W} {rs : Loc → Sto → Rs (List W)} {k v : Expr} {ks : List (Option Expr)} {vs : List Expr} {pos : Pos} (hk : PE X k (TEof X.K U0 rk)) (hv : PE X v (TEof X.K U0 rv))
    (h : ∃ trs, PPs X pos ks vs trs ∧ ∀ σ H Q, TPof X.K rs σ H Q → tPairs trs σ H Q) :
    ∃ trs, PPs X pos (some k :: ks) (v :: vs) trs ∧ ∀ σ H Q, TPof X.K (fun l S => (rk l S).bind fun x S1 => (rv l S1).bind fun y S2 => (rs l S2).bind fun ws S3 => .ok (x :: y :: ws) S3) σ H Q → tPairs trs σ H Q := by
  obtain ⟨trs, h1, h2⟩ := h
  refine ⟨_, pps_cons hk hv h1, fun σ H Q h => ?_⟩
  obtain ⟨l, S, μ, hl, hS, hp⟩ := h
  refine ⟨l, S, μ, hl, hS, hp.bind.imp fun x H1 μ1 S1 e1 s1 q1 vx rx => ⟨l, S1, μ1, hl.up e1, s1, q1.bind.imp fun y H2 μ2 S2 e2 s2 q2 vy ry => ?_⟩⟩
  refine h2 σ H2 _ ⟨l, S2, μ2, (hl.up e1).up e2, s2, q2.bind.imp fun ws H3 μ3 S3 e3 s3 q3 ps rps => ?_⟩
  exact q3 H3 μ3 (Ext.refl _ _) s3 ((vx, vy) :: ps) (.cons ((rx.up e2).up e3) (.cons (ry.up e3) rps))
/-- a place pushed ahead stands still, or is gone -/
theorem push_at {p : Addr} {H' : Hp} {μ' : Mu} {n : Nat} (hn : n = μ.ob.length) {o : HO} (e : Ext (upd H p o) (μ.push p) H' μ') : RepA μ'.ob[n]? (.ref p) := by
  subst hn
  have : (μ.push p).ob[μ.ob.length]? = some (some p) := by
    show (μ.ob ++ [some p])[μ.ob.length]? = _
    rw [List.getElem?_append_right (Nat.le_refl _)]; simp
  rcases e.pre _ _ this with z | z
  · rw [z]; rfl
  · rw [z]; trivial
theorem pe_dctE {X : Cx} {C : Ck} {G : Nat → Option W} {F : Fun'} {top : Bool} {sc : Scope} {es : E} {ks : List (Option Expr)} {vs : List Expr} {pos : Pos} (h1 : okP C top es sc ks vs = true) (h2 : ks.all (·.isSome) = true) (h3 : ks.length = vs.length) (h4 : ks.length ≤ 15)
    (h : ∃ trs, PPs X pos ks vs trs ∧ ∀ σ H Q, TPof X.K (evs G F es) σ H Q → tPairs trs σ H Q) : PE X (.Dict ks vs pos) (TEof X.K U0 (ev G F (.dct es))) := by
  obtain ⟨trs, hp, hr⟩ := h
  -- what stands behind the pairs
  have key : ∀ σ H Q, TEof X.K U0 (ev G F (.dct es)) σ H Q → tDisp trs σ H Q := fun σ H Q q => by
    obtain ⟨l, S, μ, hl, hS, hp⟩ := q
    intro p np
    replace hp : PostE X.K U0 H μ ((evs G F es l (S ++ [.dic []])).bind fun ws S1 => dctW S.length ws S1) (VP X.K Q) := hp
    have e0 := Ext.push (μ := μ) (o := .dK []) np
    have s0 : StoRep X.K (upd H p (.dK [])) (S ++ [.dic []]) (μ.push p) := hS.push np ⟨[], upd_same, .nil⟩
    refine hr σ _ _ ⟨l, _, _, hl.up e0, s0, (hp.up e0).bind.imp fun ws H2 μ2 S2 e2 s2 q2 ps rps => ?_⟩
    unfold dctW at q2
    split at q2
    · rename_i kvs ek ed
      split at q2
      · rename_i hz
        obtain ⟨a, vs', ea, hm, ha, hk⟩ := obj_dic (v := .ref p) s2 (show RepW X.K H2 μ2 (.obj S.length) (.ref p) from push_at hS.len e2) ed
        cases ea
        cases hk
        obtain ⟨us, rfl, ru⟩ := RepWs.two rps ek
        have mu : Mut (H2 p) := by rw [ha]; trivial
        refine ⟨ha, us, rfl, by rw [← ru.len]; exact hz, ?_⟩
        have ex := Ext.write (o := .dK (mergeK [] us)) mu hm
        refine vp_put s2 mu hm (ob := .dic (mergeW [] kvs)) ⟨_, upd_same, RepKs.up ex (RepKs.merge ru .nil)⟩ q2 ?_
        show RepA μ2.ob[S.length]? (.ref p)
        rw [hm]; rfl
      · exact q2.elim
    · exact q2.elim
  cases ks with
  | cons k ks => exact PE.imp (pe_disp hp h2 h3 (fun z => by cases z) h4) key
  | nil =>
    cases vs with
    | cons _ _ => cases h3
    | nil =>
      cases es with
      | nil =>
        refine PE.imp pe_dnewK fun σ H Q q p np => ?_
        obtain ⟨l, S, μ, hl, hS, hp⟩ := q
        replace hp : PostE X.K U0 H μ (dctW S.length [] (S ++ [.dic []])) (VP X.K Q) := hp
        have e1 : (S ++ [Ob.dic []])[S.length]? = some (Ob.dic []) := List.getElem?_concat_length
        unfold dctW at hp
        rw [e1] at hp
        replace hp : PostE X.K U0 H μ (.ok (.obj S.length) ((S ++ [Ob.dic []]).set S.length (Ob.dic []))) (VP X.K Q) := hp
        have e2 : (S ++ [Ob.dic []]).set S.length (Ob.dic []) = S ++ [Ob.dic []] := by simp
        rw [e2] at hp
        exact vp_dic hS hp .nil p np
      | _ => cases h1
end
section
variable {C : Ck} {G : Nat → Option W} {F : Fun'} {n : Nat}
theorem isdW_at {K : PySem.W.Frag} {H : Hp} {μ : Mu} {S : Sto} {x : W} {v : V} {R : Unit → Hp → Mu → Sto → Prop} (hS : StoRep K H S μ) (hx : RepW K H μ x v) (h : PostE K U0 H μ (isdW S x) R) : ∃ a, v = .ref a ∧ IsD H a ∧ R () H μ S := by
  unfold isdW at h
  split at h
  · rename_i kvs e
    obtain ⟨a, vs, rfl, hr, _⟩ := obj_rdK hS hx e
    exact ⟨a, rfl, .inl ⟨vs, hr⟩, h H μ (Ext.refl _ _) hS⟩
  · exact h.elim
theorem RepKs.look {K : PySem.W.Frag} {H : Hp} {μ : Mu} {kvs : List (Key × W)} {vs : List (Key × V)} (r : RepKs K H μ kvs vs) (k : Key) {w : W} {v : V} (h : RepW K H μ w v) : RepW K H μ ((valW kvs k).getD w) ((valV vs k).getD v) := by
  rcases r.val k with ⟨e1, e2⟩ | ⟨w', v', e1, e2, q⟩ <;> rw [e1, e2]
  · exact h
  · exact q
/-- d.pop(k ..) of a dict that stands -/
theorem dpop_at {K : PySem.W.Frag} {H : Hp} {μ : Mu} {S : Sto} {x : W} {v : V} {k : Key} {z : Option W} {Q : VK} (hS : StoRep K H S μ) (hx : RepW K H μ x v) (h : PostE K U0 H μ (dpop S x k z) (VP K Q)) :
    ∃ a vs, v = .ref a ∧ H a = some (.dK vs) ∧ (∀ u, valV vs k = some u → Q u (upd H a (.dK (dropK vs k)))) ∧ (valV vs k = none → ∃ w, z = some w ∧ ∀ u, RepW K H μ w u → Q u H) := by
  unfold dpop at h
  split at h
  · rename_i p
    split at h
    · rename_i kvs e
      obtain ⟨a, vs, rfl, hm, ha, hk⟩ := obj_dic hS hx e
      have mu : Mut (H a) := by rw [ha]; trivial
      refine ⟨a, vs, rfl, ha, fun u hu => ?_, fun hu => ?_⟩
      · rcases hk.val k with ⟨_, e2⟩ | ⟨w, u', e1, e2, q⟩
        · rw [e2] at hu; cases hu
        · rw [e2] at hu
          cases hu
          rw [e1] at h
          have ex := Ext.write (o := .dK (dropK vs k)) mu hm
          exact vp_put hS mu hm (ob := .dic (dropW kvs k)) ⟨_, upd_same, RepKs.up ex (RepKs.drop k hk)⟩ h (q.up ex)
      · rcases hk.val k with ⟨e1, _⟩ | ⟨w, u', _, e2, _⟩
        · rw [e1] at h
          cases z with
          | none => exact h.elim
          | some w => exact ⟨w, rfl, fun u ru => h H μ (Ext.refl _ _) hS u ru⟩
        · rw [e2] at hu; cases hu
    · exact h.elim
  · exact h.elim
theorem m1_of {X : Cx} {o e : Expr} {m : Str} {apos cpos : Pos} (h1 : noSuper o = true) (h2 : (apos.endLine == cpos.line) = true) (h3 : noStar e = true) : M1 X o m apos e cpos := by
  have e1 : starEach [e] X.env = [(false, eval e X.env)] := by rw [star_cons h3] <;> rfl
  exact ⟨super_base h1, by rw [e1] <;> rfl, h2, by rw [e1] <;> rfl⟩
theorem m2_of {X : Cx} {o e f : Expr} {m : Str} {apos cpos : Pos} (h1 : noSuper o = true) (h2 : (apos.endLine == cpos.line) = true) (h3 : noStar e = true) (h4 : noStar f = true) : M2 X o m apos e f cpos := by
  have e1 : starEach [e, f] X.env = [(false, eval e X.env), (false, eval f X.env)] := by rw [star_cons h3, star_cons h4] <;> rfl
  exact ⟨super_base h1, by rw [e1] <;> rfl, h2, by rw [e1] <;> rfl⟩
theorem dget_at {K : PySem.W.Frag} {H : Hp} {μ : Mu} {S : Sto} {x y z : W} {v u t : V} {Q : VK} (hS : StoRep K H S μ) (hx : RepW K H μ x v) (hy : RepW K H μ y u) (hz : RepW K H μ z t) (h : PostE K U0 H μ (dgetW S x y z) (VP K Q)) :
    ∃ a o, v = .ref a ∧ DGet H a u o ∧ Q (o.getD t) H := by
  unfold dgetW at h
  split at h
  · rename_i kvs k e ek
    obtain ⟨a, vs, rfl, hr, rk⟩ := obj_rdK hS hx e
    obtain rfl := keyW_rep hy ek
    exact ⟨a, valV vs k, rfl, .inl ⟨vs, k, hr, rfl, rfl⟩, vp_here hS h (rk.look k hz)⟩
  · exact h.elim
theorem pe_dm1E {X : Cx} {m : DM} {ro ra : Loc → Sto → Rs W} {o e : Expr} {apos cpos : Pos} (hu : X.A.units + 1 < cLine) (ho : PE X o (TEof X.K U0 ro)) (he : PE X e (TEof X.K U0 ra)) (h1 : noSuper o = true) (h2 : (apos.endLine == cpos.line) = true) (h3 : noStar e = true) :
    PE X (.Call (.Attribute o (dmN m) apos) [e] [] cpos) (TEof X.K U0 fun l S => (ro l S).bind fun x S1 => (isdW S1 x).bind fun _ S2 => (ra l S2).bind fun y S3 => dm1W S3 m x y) := by
  cases m with
  | get =>
    refine PE.imp (pe_dget1 hu ho he (m1_of h1 h2 h3)) fun σ H Q h => ?_
    obtain ⟨l, S, μ, hl, hS, hp⟩ := h
    refine ⟨l, S, μ, hl, hS, hp.bind.imp fun x H1 μ1 S1 e1 s1 q1 v rv => ?_⟩
    obtain ⟨a, rfl, hd, q⟩ := isdW_at s1 rv q1.bind
    refine ⟨a, rfl, hd, l, S1, μ1, hl.up e1, s1, q.bind.imp fun y H2 μ2 S2 e2 s2 q2 u ru => ?_⟩
    obtain ⟨b, ov, eb, g, q3⟩ := dget_at s2 (rv.up e2) ru (show RepW X.K H2 μ2 (.dat .none) .non from RepD.non) q2
    cases eb
    exact ⟨ov, g, q3⟩
  | pop =>
    refine PE.imp (pe_dpop1 ho he (m1_of h1 h2 h3)) fun σ H Q h => ?_
    obtain ⟨l, S, μ, hl, hS, hp⟩ := h
    refine ⟨l, S, μ, hl, hS, hp.bind.imp fun x H1 μ1 S1 e1 s1 q1 v rv => ?_⟩
    obtain ⟨a, rfl, hd, q⟩ := isdW_at s1 rv q1.bind
    refine ⟨a, rfl, hd, l, S1, μ1, hl.up e1, s1, q.bind.imp fun y H2 μ2 S2 e2 s2 q2 u ru => ?_⟩
    replace q2 : PostE X.K U0 H2 μ2 (dpopW S2 x y none) (VP X.K Q) := q2
    unfold dpopW at q2
    split at q2
    · rename_i k ek
      obtain rfl := keyW_rep ru ek
      obtain ⟨b, vs, eb, ha, q3, q4⟩ := dpop_at s2 (rv.up e2) q2
      cases eb
      cases hv : valV vs k with
      | none => obtain ⟨w, z, _⟩ := q4 hv; cases z
      | some v => exact ⟨vs, k, v, ha, rfl, hv, q3 v hv⟩
    · exact q2.elim
theorem pe_dm2E {X : Cx} {m : DM} {ro ra rb : Loc → Sto → Rs W} {o e f : Expr} {apos cpos : Pos} (hu : X.A.units + 1 < cLine) (ho : PE X o (TEof X.K U0 ro)) (he : PE X e (TEof X.K U0 ra)) (hf : PE X f (TEof X.K U0 rb)) (h1 : noSuper o = true) (h2 : (apos.endLine == cpos.line) = true) (h3 : noStar e = true) (h4 : noStar f = true) :
    PE X (.Call (.Attribute o (dmN m) apos) [e, f] [] cpos) (TEof X.K U0 fun l S => (ro l S).bind fun x S1 => (isdW S1 x).bind fun _ S2 => (ra l S2).bind fun y S3 => (rb l S3).bind fun z S4 => dm2W S4 m x y z) := by
  cases m with
  | get =>
    refine PE.imp (pe_dget2 hu ho he hf (m2_of h1 h2 h3 h4)) fun σ H Q h => ?_
    obtain ⟨l, S, μ, hl, hS, hp⟩ := h
    refine ⟨l, S, μ, hl, hS, hp.bind.imp fun x H1 μ1 S1 e1 s1 q1 v rv => ?_⟩
    obtain ⟨a, rfl, hd, q⟩ := isdW_at s1 rv q1.bind
    refine ⟨a, rfl, hd, l, S1, μ1, hl.up e1, s1, q.bind.imp fun y H2 μ2 S2 e2 s2 q2 u ru => ⟨l, S2, μ2, (hl.up e1).up e2, s2, q2.bind.imp fun z H3 μ3 S3 e3 s3 q3 t rt => ?_⟩⟩
    obtain ⟨b, ov, eb, g, q4⟩ := dget_at s3 ((rv.up e2).up e3) (ru.up e3) rt q3
    cases eb
    exact ⟨ov, g, q4⟩
  | pop =>
    refine PE.imp (pe_dpop2 ho he hf (m2_of h1 h2 h3 h4)) fun σ H Q h => ?_
    obtain ⟨l, S, μ, hl, hS, hp⟩ := h
    refine ⟨l, S, μ, hl, hS, hp.bind.imp fun x H1 μ1 S1 e1 s1 q1 v rv => ?_⟩
    obtain ⟨a, rfl, hd, q⟩ := isdW_at s1 rv q1.bind
    refine ⟨a, rfl, hd, l, S1, μ1, hl.up e1, s1, q.bind.imp fun y H2 μ2 S2 e2 s2 q2 u ru => ⟨l, S2, μ2, (hl.up e1).up e2, s2, q2.bind.imp fun z H3 μ3 S3 e3 s3 q3 t rt => ?_⟩⟩
    replace q3 : PostE X.K U0 H3 μ3 (dpopW S3 x y (some z)) (VP X.K Q) := q3
    unfold dpopW at q3
    split at q3
    · rename_i k ek
      obtain rfl := keyW_rep ru ek
      obtain ⟨b, vs, eb, ha, q4, q5⟩ := dpop_at s3 ((rv.up e2).up e3) q3
      cases eb
      refine ⟨vs, k, ha, rfl, q4, fun hv => ?_⟩
      obtain ⟨w, ez, q⟩ := q5 hv
      cases ez
      exact q t rt
    · exact q3.elim
/-! ### dicts of the module -/
theorem cd_none {K : PySem.W.Frag} {g : Option W} {σ : L2.St} {H : Hp} {Q : VK} {f : List (Str × D) → Loc → Sto → Rs W} (hg : ¬ ∃ kvs, g = some (.cdi kvs)) (h : TEof K U0 (fun l S => (opt (cdOf g) S).bind fun kvs S0 => f kvs l S0) σ H Q) : False := by
  obtain ⟨l, S, μ, hl, hS, hp⟩ := h
  have e : cdOf g = none := by
    unfold cdOf
    split
    · exact absurd ⟨_, rfl⟩ hg
    · rfl
  rw [e] at hp
  exact hp
theorem pe_cdxE {X : Cx} {sc : Scope} {g : Nat} {x : Str} {p pos : Pos} {y : Expr} {r : Loc → Sto → Rs W} (xf : XF X C G F n) (hs : X.env.scope = sc) (h1 : C.gl g = some x) (h2 : glB sc x = true) (h3 : plainN x = true) (h4 : noSlice y = true) (ha : PE X y (TEof X.K U0 r)) :
    PE X (.Subscript (.Name x p) y pos) (TEof X.K U0 fun l S => (opt (cdOf (G g)) S).bind fun kvs S0 => (r l S0).bind fun x S1 => cdxW kvs x S1) := by
  by_cases hg : ∃ kvs, G g = some (.cdi kvs)
  · obtain ⟨kvs, hg⟩ := hg
    obtain ⟨d, es, m, hm, kd, hz⟩ := xf.cds g x kvs h1 hg
    refine PE.imp (pe_ix ix_kdict (pe_glob (v := .ref d) (glB_gl hs h2) hm rfl (plainN_d h3)) ha (ix_plain h4)) fun σ H Q h => ?_
    obtain ⟨l, S, μ, hl, hS, hp⟩ := h
    rw [hg] at hp
    replace hp : PostE X.K U0 H μ ((r l S).bind fun x S1 => cdxW kvs x S1) (VP X.K Q) := hp
    refine ⟨l, S, μ, hl, hS, hp.bind.imp fun w H1 μ1 S1 e1 s1 q1 v rv => ?_⟩
    unfold cdxW at q1
    split at q1
    · rename_i s
      have rv : RepD X.K H1 μ1 (.str s) v := rv
      cases rv
      have hz := hz s
      unfold CdAt at hz
      split at q1
      · rename_i dt e
        rw [e] at hz
        obtain ⟨u, v, z1, z2, z3⟩ := hz
        exact ⟨d, s, v, rfl, rfl, ⟨es, m, u, kd.at_, kd.lit, z1, z2⟩, vp_here s1 q1 (z3 _ _)⟩
      · exact q1.elim
    · exact q1.elim
  · exact ⟨fun pins s σ H Q I h => (cd_none (f := fun kvs l S0 => (r l S0).bind fun x S1 => cdxW kvs x S1) hg h).elim⟩
/-- k in D, k not in D: the rule and its reading -/
theorem cdi_at {X : Cx} {b : Bool} {d : Addr} {es : Array DictEntry} {m : Nat} {kvs : List (Str × D)} (kd : KDict X.K X.w d es m) (hz : ∀ z, CdAt X.K d kvs z) : OpR X (compareOp (if b = true then .In else .NotIn))
    (fun x y H Q => ∃ z, x = .str z ∧ y = .ref d ∧ Q (.bl (if b = true then (valC kvs z).isSome else !(valC kvs z).isSome)) H) := by
  intro pins s σ H x y v u Q I rx ry h
  obtain ⟨z, rfl, rfl, q⟩ := h
  have hz := hz z
  unfold CdAt at hz
  have hr : ∃ r, PySem.W.nsIn X.K d z = some r ∧ r.isSome = (valC kvs z).isSome := by
    split at hz
    · rename_i e; exact ⟨_, hz, by rw [e]; rfl⟩
    · rename_i e; obtain ⟨u, v, z1, _⟩ := hz; exact ⟨_, z1, by rw [e]; rfl⟩
  obtain ⟨r, e1, e2⟩ := hr
  cases b with
  | true => exact op_in_kd kd pins s σ H _ _ v u Q I rx ry ⟨z, r, rfl, rfl, e1, by rw [e2]; exact q⟩
  | false => exact op_notIn_kd kd pins s σ H _ _ v u Q I rx ry ⟨z, r, rfl, rfl, e1, by rw [e2]; exact q⟩
theorem cdi_te {K : PySem.W.Frag} {b : Bool} {d : Addr} {kvs : List (Str × D)} {r : Loc → Sto → Rs W} {σ : L2.St} {H : Hp} {Q : VK} (h : TEof K U0 (fun l S => (r l S).bind fun x S1 => cdiW b kvs x S1) σ H Q) :
    tOp (fun x y H Q => ∃ z, x = .str z ∧ y = .ref d ∧ Q (.bl (if b = true then (valC kvs z).isSome else !(valC kvs z).isSome)) H) (TEof K U0 r) (tC (.ref d)) σ H Q := by
  obtain ⟨l, S, μ, hl, hS, hp⟩ := h
  refine ⟨l, S, μ, hl, hS, hp.bind.imp fun w H1 μ1 S1 e1 s1 q1 v rv => ?_⟩
  unfold cdiW at q1
  split at q1
  · rename_i s
    have rv : RepD K H1 μ1 (.str s) v := rv
    cases rv
    exact ⟨s, rfl, rfl, vp_here s1 q1 (.bl _)⟩
  · exact q1.elim
theorem pe_cdiE {X : Cx} {sc : Scope} {b : Bool} {g : Nat} {x : Str} {p pos : Pos} {y : Expr} {o : CmpOp} {r : Loc → Sto → Rs W} (xf : XF X C G F n) (hs : X.env.scope = sc) (h0 : o = if b = true then .In else .NotIn) (h1 : C.gl g = some x) (h2 : glB sc x = true) (h3 : plainN x = true)
    (h4 : behindInMarks o (.Name x p) = false) (ha : PE X y (TEof X.K U0 r)) : PE X (.Compare y [o] [.Name x p] pos) (TEof X.K U0 fun l S => (opt (cdOf (G g)) S).bind fun kvs S0 => (r l S0).bind fun x S1 => cdiW b kvs x S1) := by
  by_cases hg : ∃ kvs, G g = some (.cdi kvs)
  · obtain ⟨kvs, hg⟩ := hg
    obtain ⟨d, es, m, hm, kd, hz⟩ := xf.cds g x kvs h1 hg
    subst h0
    refine PE.imp (pe_cmpR (cdi_at kd hz) ha (pe_glob (v := .ref d) (glB_gl hs h2) hm rfl (plainN_d h3)) h4) fun σ H Q h => ?_
    rw [hg] at h
    exact cdi_te h
  · exact ⟨fun pins s σ H Q I h => (cd_none (f := fun kvs l S0 => (r l S0).bind fun x S1 => cdiW b kvs x S1) hg h).elim⟩
theorem pt_cdiE {X : Cx} {sc : Scope} {b : Bool} {g : Nat} {x : Str} {p pos : Pos} {y : Expr} {o : CmpOp} {r : Loc → Sto → Rs W} (xf : XF X C G F n) (hs : X.env.scope = sc) (h0 : o = if b = true then .In else .NotIn) (h1 : C.gl g = some x) (h2 : glB sc x = true) (h3 : plainN x = true)
    (h4 : behindInMarks o (.Name x p) = false) (ha : PE X y (TEof X.K U0 r)) (ht : ∀ σ H Q, TTof X.K U0 (fun l S => ((opt (cdOf (G g)) S).bind fun kvs S0 => (r l S0).bind fun x S1 => cdiW b kvs x S1).bind fun x S1 => blW x S1) σ H Q → TEof X.K U0 (fun l S => (opt (cdOf (G g)) S).bind fun kvs S0 => (r l S0).bind fun x S1 => cdiW b kvs x S1) σ H fun x H1 => ∃ k, x = .bl k ∧ Q k H1) :
    PT X (.Compare y [o] [.Name x p] pos) (TTof X.K U0 fun l S => ((opt (cdOf (G g)) S).bind fun kvs S0 => (r l S0).bind fun x S1 => cdiW b kvs x S1).bind fun x S1 => blW x S1) := by
  by_cases hg : ∃ kvs, G g = some (.cdi kvs)
  · obtain ⟨kvs, hg⟩ := hg
    obtain ⟨d, es, m, hm, kd, hz⟩ := xf.cds g x kvs h1 hg
    subst h0
    refine PT.imp (pt_cmpR (cdi_at kd hz) ha (pe_glob (v := .ref d) (glB_gl hs h2) hm rfl (plainN_d h3)) h4) fun σ H Q h => ?_
    have h := ht σ H Q h
    rw [hg] at h
    exact cdi_te h
  · exact ⟨fun pins s σ H Q I h => (cd_none (f := fun kvs l S0 => (r l S0).bind fun x S1 => cdiW b kvs x S1) hg (ht σ H Q h)).elim⟩
/-! ### a dict is walked -/
theorem lock_at {α : Type} {K : PySem.W.Frag} {l : Loc} {k : Nat} {σ : L2.St} {S : Sto} {H : Hp} {μ : Mu} {f : Nat → Sto → Rs α} {R : α → Hp → Mu → Sto → Prop} (hl : LocRep K H μ l σ) (hS : StoRep K H S μ) (h : PostE K U0 H μ ((lckW l k S).bind f) R) :
    ∃ p kvs a vs, μ.ob[p]? = some (some a) ∧ S[p]? = some (.dic kvs) ∧ H a = some (.dK vs) ∧ RepKs K H μ kvs vs ∧ PostE K U0 H μ (f p (S.set p (.lck kvs))) R := by
  unfold lckW at h
  split at h
  · rename_i p e
    obtain ⟨v, _, rv⟩ := hl.2 k _ e
    unfold lckP at h
    split at h
    · rename_i kvs ek
      obtain ⟨a, vs, rfl, hm, ha, hk⟩ := obj_dic hS rv ek
      exact ⟨p, kvs, a, vs, hm, ek, ha, hk, h⟩
    · exact h.elim
  · exact h.elim
/-- from within the walk to behind it -/
theorem unlock_at {α : Type} {K : PySem.W.Frag} {p : Nat} {a : Addr} {o : Obj} {vs : List (Key × V)} {H H' : Hp} {μ μ' : Mu} {S' : Sto} {w : α} {R : α → Hp → Mu → Sto → Prop} (ha : H a = some (.dK vs)) (hm : μ.ob[p]? = some (some a)) (e : Ext (upd H a (.frz o (.dK vs))) μ H' μ') (s : StoRep K H' S' μ')
    (h : PostE K U0 H μ (unlW p w S') R) : H' a = some (.frz o (.dK vs)) ∧ ∃ S2, R w (upd H' a (.dK vs)) μ' S2 := by
  have e1 : H' a = some (.frz o (.dK vs)) := e.frz _ _ _ upd_same
  refine ⟨e1, ?_⟩
  unfold unlW at h
  split at h
  · rename_i kvs ek
    have hm' : μ'.ob[p]? = some (some a) := by
      rcases e.pre p _ hm with z | z
      · exact z
      · rw [s.gone p z] at ek; cases ek
    exact ⟨_, h _ μ' (Ext.unlock ha hm e) (s.unlock hm' ek e1)⟩
  · exact h.elim
theorem pe_lckE {X : Cx} {k : Nat} {x : Expr} {r : Loc → Sto → Rs W} (ha : PE X x (TEof X.K U0 r)) : PE X x (TEof X.K U0 fun l S => (lckW l k S).bind fun p S1 => (r l S1).bind fun w S2 => unlW p w S2) := by
  refine PE.imp (pe_lock ha) fun σ H Q h => ?_
  obtain ⟨l, S, μ, hl, hS, hp⟩ := h
  obtain ⟨p, kvs, a, vs, hm, ek, ha', hk, q⟩ := lock_at hl hS hp
  refine ⟨a, .dK vs, ha', trivial, fun od => ?_⟩
  have e0 := Ext.lock (μ := μ) (o := od) ha' hm
  refine ⟨l, S.set p (.lck kvs), μ, hl.up e0, hS.lock hm ha' hk, ?_⟩
  cases er : r l (S.set p (.lck kvs)) with
  | no => rw [er] at q; exact q.elim
  | ex y S1 => rw [er] at q; exact fun H' μ' e s => q H' μ' (e0.trans e) s
  | ok w S1 =>
    rw [er] at q
    intro H' μ' e s v rv
    obtain ⟨z1, S2, z2⟩ := unlock_at (R := VP X.K Q) ha' hm e s q
    exact ⟨z1, z2 v (RepW.other z1 (fun _ z => by cases z) (fun _ z => by cases z) (fun _ _ z => by cases z) (fun _ _ z => by cases z) rv)⟩
theorem pi_idkE {X : Cx} {tg y : Expr} {r : Loc → Sto → Rs W} (ha : PE X y (TEof X.K U0 r)) : PI X tg y (TIof X.K U0 fun l S => (r l S).bind fun w S1 => keysW w S1) := by
  refine PI.imp (pi_keys ha) fun σ H R h => ?_
  obtain ⟨l, S, μ, hl, hS, hp⟩ := h
  refine ⟨l, S, μ, hl, hS, hp.bind.imp fun w H1 μ1 S1 e1 s1 q1 v rv => ?_⟩
  unfold keysW at q1
  split at q1
  · rename_i p
    unfold keysP at q1
    split at q1
    · rename_i kvs ek
      have rv : RepA μ1.ob[p]? v := rv
      cases m : μ1.ob[p]? with
      | none => rw [m] at rv; exact rv.elim
      | some x =>
        rw [m] at rv
        cases x with
        | none => rw [s1.gone p m] at ek; cases ek
        | some a =>
          obtain ⟨o, vs, r1, r2⟩ := s1.ob p a _ m ek
          cases (show v = .ref a from rv)
          have hk : vs.map (·.1) = kvs.map (·.1) := by
            clear r1 ek q1
            induction r2 with
            | nil => rfl
            | cons h _ ih => rw [List.map_cons, List.map_cons, ih, h.1]
          refine ⟨a, o, rfl, .inl ⟨vs, r1, ?_⟩⟩
          have e : (kvs.map fun kv => dKey kv.1) = (kvs.map (·.1)).map dKey := by rw [List.map_map]; rfl
          rw [e] at q1
          exact q1 H1 μ1 (Ext.refl _ _) s1 _ _ (walks_k hk) r1
    · exact q1.elim
  · exact q1.elim
/-! ### dict comprehensions -/
theorem dc_turns {K : PySem.W.Frag} {J : It} {ds : List D} {A : Hp → Mu → Prop} (wk : Walks K J ds A) {vs : List Nat} {kx vx tg tst : E} {l : Loc} {σ : L2.St} {Dr : Addr} {H1 : Hp} {μ1 : Mu} {S1 : Sto} {Q : VK}
    (hl : LocRep K H1 μ1 l σ) (hS : StoRep K H1 S1 μ1) (hA : A H1 μ1) (hD : H1 Dr = none) (hts : ∀ k, k ∈ tslots tg → k ∈ vs)
    (hp : PostE K U0 H1 μ1 ((forD (fun d S2 => (asg G F tg (.dat d) (wipeL l vs) S2).bind fun l2 S3 => (evt G F tst l2 S3).bind fun c S4 =>
        if c = true then (ev G F kx l2 S4).bind fun y S5 => (ev G F vx l2 S5).bind fun z S6 => dputW S1.length y z S6 else .ok () S4) ds (S1 ++ [.dic []])).bind fun _ S2 => .ok (.obj S1.length) S2) (VP K Q)) :
    ∃ W' : Nat → Nat → Hp → Prop, (∃ k, W' 0 k (upd H1 Dr (.dK []))) ∧ ∀ i k H, W' i k H →
      (J.stop i H ∧ Q (.ref Dr) H) ∨ (J.go i H ∧ ∃ Nx : Hp → Prop, (∀ H', Nx H' → ∃ m', m' < k ∧ W' (i + 1) m' H') ∧ ∀ x H', J.yld i H x H' → TGof K U0 (tslots tg) (asg G F tg) x (wipe σ vs) H' fun σ2 H2 => wipe σ2 vs = wipe σ vs ∧ TBof K U0 (evt G F tst) σ2 H2 fun b H3 =>
        if b = true then TEof K U0 (ev G F kx) σ2 H3 fun y H4 => TEof K U0 (ev G F vx) σ2 H4 fun z H5 => ∃ kvs k, y = kV k ∧ H5 Dr = some (.dK kvs) ∧ kvs.length < sizeLine ∧ Nx (upd H5 Dr (.dK (putK kvs k z))) else Nx H3) := by
  generalize hb : (fun d S2 => (asg G F tg (.dat d) (wipeL l vs) S2).bind fun l2 S3 => (evt G F tst l2 S3).bind fun c S4 => if c = true then (ev G F kx l2 S4).bind fun y S5 => (ev G F vx l2 S5).bind fun z S6 => dputW S1.length y z S6 else .ok () S4) = body at hp
  have e0 := Ext.push (μ := μ1) (o := .dK []) hD
  have s0 : StoRep K (upd H1 Dr (.dK [])) (S1 ++ [.dic []]) (μ1.push Dr) := hS.push hD ⟨[], upd_same, .nil⟩
  have hp := hp.up e0
  let Iv (i : Nat) (H : Hp) : Prop := ∃ S μ, StoRep K H S μ ∧ LocRep K H μ (wipeL l vs) (wipe σ vs) ∧ A H μ ∧ Ext (upd H1 Dr (.dK [])) (μ1.push Dr) H μ ∧
    PostE K U0 (upd H1 Dr (.dK [])) (μ1.push Dr) ((forD body (ds.drop i) S).bind fun _ S2 => .ok (.obj S1.length) S2) (VP K Q)
  refine ⟨fun i k H => k = ds.length - i ∧ i ≤ ds.length ∧ Iv i H, ⟨_, rfl, Nat.zero_le _, _, _, s0, wipe_rep (hl.up e0) vs, wk.up hA e0, Ext.refl _ _, hp⟩, ?_⟩
  rintro i k H ⟨rfl, hi, S, μ, h3, h4, h5, h8, h9⟩
  have tr : ∀ H' μ' S', Ext H μ H' μ' → StoRep K H' S' μ' → ∃ μ2, Ext (upd H1 Dr (.dK [])) (μ1.push Dr) H' μ2 ∧ StoRep K H' S' μ2 := fun H' μ' S' e s => ⟨μ', h8.trans e, s⟩
  by_cases hlt : i < ds.length
  · refine .inr ⟨wk.go h5 hlt, Iv (i + 1), fun H' q => ⟨_, (by omega), rfl, hlt, q⟩, fun x H' y => ?_⟩
    obtain ⟨ey, sy, ry⟩ := wk.yld h5 y (List.getElem?_eq_getElem hlt)
    rw [List.drop_eq_getElem_cons hlt] at h9
    have h9 : PostE K U0 (upd H1 Dr (.dK [])) (μ1.push Dr) (((body ds[i] S).bind fun _ S1 => forD body (ds.drop (i + 1)) S1).bind fun _ S2 => .ok (.obj S1.length) S2) (VP K Q) := h9
    have hbi : body ds[i] S = (asg G F tg (.dat ds[i]) (wipeL l vs) S).bind fun l2 S3 => (evt G F tst l2 S3).bind fun c S4 => if c = true then (ev G F kx l2 S4).bind fun y S5 => (ev G F vx l2 S5).bind fun z S6 => dputW S1.length y z S6 else .ok () S4 := by rw [← hb]
    rw [hbi] at h9
    have bb : ∀ {α β γ : Type} (r : Rs α) (f : α → Sto → Rs β) (g : β → Sto → Rs γ), (r.bind f).bind g = r.bind fun a S => (f a S).bind g := fun r f g => by cases r <;> rfl
    simp only [bb] at h9
    refine ⟨wipeL l vs, S, μ, .dat ds[i], h4.up ey, sy S h3, ry, ?_⟩
    refine PostE.at h9 (fun H2 μ2 S2 e s => tr H2 μ2 S2 (ey.trans e) s) fun l2 S3 p3 H3 μ3 e3 s3 σ2 hl2 hag => ?_
    have e03 := ey.trans e3
    refine ⟨wipe_same (by rw [hag.1, wipe_length]) hts hag.2, l2, S3, μ3, hl2, s3, ?_⟩
    refine PostE.at p3 (fun H4 μ4 S4 e s => tr H4 μ4 S4 (e03.trans e) s) fun c S4 p4 H4 μ4 e4 s4 => ?_
    have e04 := e03.trans e4
    cases c with
    | false => exact iteF ⟨S4, μ4, s4, h4.up e04, wk.up h5 e04, h8.trans e04, p4⟩
    | true =>
      refine iteT ⟨l2, S4, μ4, hl2.up e4, s4, ?_⟩
      rw [if_pos rfl, bb] at p4
      refine PostE.at p4 (fun H5 μ5 S5 e s => tr H5 μ5 S5 (e04.trans e) s) fun wy S5 p5 H5 μ5 e5 s5 y5 r5 => ?_
      have e05 := e04.trans e5
      rw [bb] at p5
      refine ⟨l2, S5, μ5, (hl2.up e4).up e5, s5, ?_⟩
      refine PostE.at p5 (fun H6 μ6 S6 e s => tr H6 μ6 S6 (e05.trans e) s) fun wz S6 p6 H6 μ6 e6 s6 z6 r6 => ?_
      have e06 := e05.trans e6
      unfold dputW at p6
      split at p6
      · rename_i key kvs ek ed
        split at p6
        · rename_i hz
          obtain ⟨a, us, ea, hm, ha, hk⟩ := obj_dic (v := .ref Dr) s6 (show RepW K H6 μ6 (.obj S1.length) (.ref Dr) from push_at hS.len (h8.trans e06)) ed
          cases ea
          have mu : Mut (H6 Dr) := by rw [ha]; trivial
          have ex := Ext.write (o := .dK (putK us key z6)) mu hm
          refine ⟨us, key, keyW_rep r5 ek, ha, by rw [← hk.len]; exact hz, _, μ6, s6.write mu hm (ob := .dic (putW kvs key wz)) ⟨_, upd_same, RepKs.up ex (hk.put key r6)⟩, (h4.up e06).up ex, wk.up (wk.up h5 e06) ex, (h8.trans e06).trans ex, p6⟩
        · exact p6.elim
      · exact p6.elim
  · have e : i = ds.length := by omega
    subst e
    refine .inl ⟨wk.stop h5 (Nat.le_refl _), ?_⟩
    rw [List.drop_length] at h9
    exact h9 H μ h8 h3 (.ref Dr) (push_at hS.len h8)
theorem pe_dcpE {X : Cx} {vs : List Nat} {kx vx tg it tst : E} {kx' vx' tg' it' : Expr} {ifs : List Expr} {scope : Scope} {pos : Pos} (xf : XF X C G F n) (ok : blkC C.N X.env.scope scope (ownOf C vs) = true) (hts : (tslots tg).all (fun k => decide (k ∈ vs)) = true) (hset : noSet it' = true)
    (hi : PI X tg' it' (TIof X.K U0 (evi G F it)))
    (hg : ∀ X', XF X' C G F n → X'.env.scope = relS scope X.env.scope → X'.K = X.K → PG X' tg' (TGof X'.K U0 (tslots tg) (asg G F tg)))
    (ht : ∀ X', XF X' C G F n → X'.env.scope = relS scope X.env.scope → X'.K = X.K → PTs X' ifs (TBof X'.K U0 (evt G F tst)))
    (hk : ∀ X', XF X' C G F n → X'.env.scope = relS scope X.env.scope → X'.K = X.K → PE X' kx' (TEof X'.K U0 (ev G F kx)))
    (he : ∀ X', XF X' C G F n → X'.env.scope = relS scope X.env.scope → X'.K = X.K → PE X' vx' (TEof X'.K U0 (ev G F vx))) :
    PE X (.DictComp kx' vx' [⟨tg', it', ifs, 0⟩] scope pos) (TEof X.K U0 (ev G F (.dcp vs kx vx tg it tst))) := by
  have own : (ownOf C vs).map (·.2) = vs := by
    unfold ownOf
    rw [List.map_map]
    exact List.map_id vs
  refine PE.imp (pe_dc (own := ownOf C vs) (g := TGof X.K U0 (tslots tg) (asg G F tg)) (tt := TBof X.K U0 (evt G F tst)) (tk := TEof X.K U0 (ev G F kx)) (tv := TEof X.K U0 (ev G F vx)) xf.calm (by rw [xf.hN]; exact xf.nd) hi (blkOk_by (by rw [xf.hN]; exact ok))
    (fun s H c cl fp => hg _ (xf.blk s H scope _ fp) rfl rfl) (fun s H c cl fp => ht _ (xf.blk s H scope _ fp) rfl rfl) (fun s H c cl fp => hk _ (xf.blk s H scope _ fp) rfl rfl) (fun s H c cl fp => he _ (xf.blk s H scope _ fp) rfl rfl) (noset_fold hset)) fun σ H Q h => ?_
  obtain ⟨l, S, μ, hl, hS, hp⟩ := h
  have hp := PostE.bind (r := evi G F it l S) hp
  rw [own]
  refine ⟨l, S, μ, hl, hS, hp.imp fun ds H1 μ1 S1 e1 s1 q1 J A wk hA Dr hD => ?_⟩
  exact dc_turns wk (hl.up e1) s1 hA hD (fun k hk => dec_of (List.all_eq_true.mp hts k hk)) q1
end
end MP
set_option Elab.async false
set_option linter.all false
set_option maxRecDepth 100000
set_option maxHeartbeats 8000000
/-! Attributes and methods of instances. -/
namespace MP
open PySem PySem.Spec PyProof.Rows L2 RT

section
variable {K : PySem.W.Frag} {H : Hp} {μ : Mu} {S : Sto}
theorem RepFs.look {f : Str} : ∀ {fs : List (Str × W)} {vs : List (Str × V)}, RepFs K H μ fs vs → (fs.lookup f = none ∧ vs.lookup f = none) ∨ ∃ w v, fs.lookup f = some w ∧ vs.lookup f = some v ∧ RepW K H μ w v
  | _, _, .nil => .inl ⟨rfl, rfl⟩
  | (g, w) :: fs, (g', v) :: vs, .cons h t => by
    obtain ⟨e, r⟩ := h
    have e : g = g' := e
    subst e
    rw [List.lookup_cons, List.lookup_cons]
    cases f == g with
    | true => exact .inr ⟨w, v, rfl, rfl, r⟩
    | false => exact RepFs.look t
theorem RepFs.put {f : Str} {w : W} {v : V} (r : RepW K H μ w v) : ∀ {fs : List (Str × W)} {vs : List (Str × V)}, RepFs K H μ fs vs → RepFs K H μ (putA f w fs) (putF f v vs)
  | _, _, .nil => .cons ⟨rfl, r⟩ .nil
  | (g, u) :: fs, (g', y) :: vs, .cons h t => by
    obtain ⟨e, q⟩ := h
    have e : g = g' := e
    subst e
    unfold putA putF
    dsimp only
    split
    · exact .cons ⟨rfl, r⟩ t
    · exact .cons ⟨rfl, q⟩ (RepFs.put r t)
theorem RepFs.length : ∀ {fs : List (Str × W)} {vs : List (Str × V)}, RepFs K H μ fs vs → fs.length = vs.length
  | _, _, .nil => rfl
  | _ :: _, _ :: _, .cons _ t => by rw [List.length_cons, List.length_cons, RepFs.length t]
theorem obj_ins (hS : StoRep K H S μ) {p : Nat} {v : V} {x : Str} {fs : List (Str × W)} (h : RepW K H μ (.obj p) v) (e : S[p]? = some (.ins x fs)) :
    ∃ a C dx vs, v = .ref a ∧ μ.ob[p]? = some (some a) ∧ PySem.W.nsIn K mainGlobals x = some (some (.ref C)) ∧ H a = some (.ins C dx vs) ∧ RepFs K H μ fs vs := by
  have h : RepA μ.ob[p]? v := h
  cases m : μ.ob[p]? with
  | none => rw [m] at h; exact h.elim
  | some q =>
    rw [m] at h
    cases q with
    | none => rw [hS.gone p m] at e; cases e
    | some a =>
      obtain ⟨C, dx, vs, c, r1, r2⟩ := hS.ob p a _ m e
      exact ⟨a, C, dx, vs, h, rfl, c, r1, r2⟩
end
section
variable {C : Ck} {G : Nat → Option W} {F : Fun'} {n : Nat}
theorem fld_post {X : Cx} {x f : Str} {w : W} {v : V} {H : Hp} {μ : Mu} {S : Sto} {Q : VK} (hc : ∃ Cd, PySem.W.nsIn X.K mainGlobals x = some (some (.ref Cd)) ∧ Cls X.K Cd ∧ NoAttr X.K Cd f) (hS : StoRep X.K H S μ) (rv : RepW X.K H μ w v) (h : PostE X.K U0 H μ (fldW x f w S) (VP X.K Q)) :
    ∃ a Cd dx fs u, v = .ref a ∧ H a = some (.ins Cd dx fs) ∧ Cls X.K Cd ∧ NoAttr X.K Cd f ∧ fs.lookup f = some u ∧ Q u H := by
  obtain ⟨Cd, c1, c2, c3⟩ := hc
  cases w with
  | obj p =>
    replace h : PostE X.K U0 H μ (fldL x f S S[p]?) (VP X.K Q) := h
    cases e : S[p]? with
    | none => rw [e] at h; exact h.elim
    | some o =>
      rw [e] at h
      cases o with
      | ins y fs =>
        replace h : PostE X.K U0 H μ (if y = x then opt (fs.lookup f) S else .no) (VP X.K Q) := h
        split at h
        · rename_i hy
          subst hy
          obtain ⟨a, C', dx, vs, rfl, m, c, ha, r⟩ := obj_ins hS rv e
          rw [c1] at c
          cases c
          rcases r.look (f := f) with ⟨z, _⟩ | ⟨wf, vf, z1, z2, z3⟩
          · rw [z] at h; exact h.elim
          · rw [z1] at h
            exact ⟨a, Cd, dx, vs, vf, rfl, ha, c2, c3, z2, h H μ (Ext.refl _ _) hS vf z3⟩
        · exact h.elim
      | _ => exact h.elim
  | _ => exact h.elim
theorem pe_fldE {X : Cx} {x f : Str} {o : E} {y : Expr} {pos : Pos} (xf : XF X C G F n) (h1 : (x, f) ∈ C.cf) (h2 : noSuper y = true) (ho : PE X y (TEof X.K U0 (ev G F o))) : PE X (.Attribute y f pos) (TEof X.K U0 (ev G F (.fld x o f))) := by
  refine PE.imp (pe_fld ho (super_base h2)) fun σ H Q h => ?_
  obtain ⟨l, S, μ, hl, hS, hp⟩ := h
  replace hp : PostE X.K U0 H μ ((ev G F o l S).bind fun w S1 => fldW x f w S1) (VP X.K Q) := hp
  exact ⟨l, S, μ, hl, hS, hp.bind.imp fun w H1 μ1 S1 e1 s1 q1 v rv => fld_post (xf.fls x f h1) s1 rv q1⟩
theorem ins_post {X : Cx} {x m : Str} {w : W} {v : V} {Cd : Addr} {H : Hp} {μ : Mu} {S : Sto} {R : Unit → Hp → Mu → Sto → Prop} (hc : PySem.W.nsIn X.K mainGlobals x = some (some (.ref Cd))) (hS : StoRep X.K H S μ) (rv : RepW X.K H μ w v) (h : PostE X.K U0 H μ (insW x m w S) R) :
    ∃ a dx fs, v = .ref a ∧ H a = some (.ins Cd dx fs) ∧ fs.lookup m = none ∧ R () H μ S := by
  cases w with
  | obj p =>
    replace h : PostE X.K U0 H μ (insL x m S S[p]?) R := h
    cases e : S[p]? with
    | none => rw [e] at h; exact h.elim
    | some o =>
      rw [e] at h
      cases o with
      | ins y fs =>
        replace h : PostE X.K U0 H μ (if y = x ∧ fs.lookup m = none then .ok () S else .no) R := h
        split at h
        · rename_i hy
          obtain ⟨rfl, hm⟩ := hy
          obtain ⟨a, C', dx, vs, rfl, _, c, ha, r⟩ := obj_ins hS rv e
          rw [hc] at c
          cases c
          rcases r.look (f := m) with ⟨_, z⟩ | ⟨wf, vf, z1, _, _⟩
          · exact ⟨a, dx, vs, rfl, ha, z, h H μ (Ext.refl _ _) hS⟩
          · rw [hm] at z1; cases z1
        · exact h.elim
      | _ => exact h.elim
  | _ => exact h.elim
theorem pe_mclE {X : Cx} {sc : Scope} {x m : Str} {i : Nat} {o es : E} {y : Expr} {xs : List Expr} {apos cpos : Pos} {top : Bool} (xf : XF X C G F n) (hs : X.env.scope = sc) (h0 : (x, m, i) ∈ C.cm) (h1 : noSuper y = true) (h2 : (apos.endLine == cpos.line) = true) (h3 : xs.length < 20) (h4 : okA C top es sc xs = true)
    (ho : PE X y (TEof X.K U0 (ev G F o))) (ha : PA X xs (TAof X.K U0 (evs G F es))) : PE X (.Call (.Attribute y m apos) xs [] cpos) (TEof X.K U0 (ev G F (.mcl x m i o es))) := by
  obtain ⟨Cd, fa, fd, ps, hc, c1, c2, hb, gf⟩ := xf.mts x m i h0
  cases xs with
  | nil =>
    refine PE.imp (pe_methG0 ho c1 c2 gf xf.hr xf.hg hb (super_base h1) h2) fun σ H Q h => ?_
    obtain ⟨l, S, μ, hl, hS, hp⟩ := h
    replace hp : PostE X.K U0 H μ ((ev G F o l S).bind fun w S1 => (insW x m w S1).bind fun _ S2 => (evs G F es l S2).bind fun ws S3 => F i (w :: ws) S3) (VP X.K Q) := hp
    refine ⟨l, S, μ, hl, hS, hp.bind.imp fun w H1 μ1 S1 e1 s1 q1 v rv => ?_⟩
    obtain ⟨a, dx, fs, rfl, ea, lm, q2⟩ := ins_post hc s1 rv q1.bind
    refine ⟨a, dx, fs, rfl, ea, lm, ?_⟩
    cases es with
    | nil => exact ⟨S1, μ1, [w], s1, .cons rv .nil, q2⟩
    | _ => cases h4
  | cons z zs =>
    have hst : noStar z = true := by
      cases es with
      | cons e es => exact (and_of (and_of h4).1).2
      | _ => cases h4
    have hpl : (backTo cpos (starEach zs X.env)).any (·.1) = false := by
      cases es with
      | cons e es => exact (nostar_all (C := C) (top := top) (sc := sc) cpos es zs (and_of h4).2).1
      | _ => cases h4
    have hall := (nostar_all (C := C) (top := top) (sc := sc) (env := X.env) cpos es (z :: zs) h4).2
    have hform : methodCallForm ((z :: zs).length + ([] : List Keyword).length) (backTo cpos (starEach (z :: zs) X.env)) (backToKw cpos (keywordEach [] X.env)) = true := by
      unfold methodCallForm
      rw [hall]
      have : (z :: zs).length + 0 + 0 < 30 := by omega
      show (true && true && decide ((z :: zs).length + 0 + 0 < 30)) = true
      rw [decide_eq_true this] <;> rfl
    refine PE.imp (pe_methG ho c1 c2 gf xf.hr xf.hg hb ha (super_base h1) hform h2 (star_cons hst) hpl) fun σ H Q h => ?_
    obtain ⟨l, S, μ, hl, hS, hp⟩ := h
    replace hp : PostE X.K U0 H μ ((ev G F o l S).bind fun w S1 => (insW x m w S1).bind fun _ S2 => (evs G F es l S2).bind fun ws S3 => F i (w :: ws) S3) (VP X.K Q) := hp
    refine ⟨l, S, μ, hl, hS, hp.bind.imp fun w H1 μ1 S1 e1 s1 q1 v rv => ?_⟩
    obtain ⟨a, dx, fs, rfl, ea, lm, q2⟩ := ins_post hc s1 rv q1.bind
    refine ⟨a, dx, fs, rfl, ea, lm, l, S1, μ1, hl.up e1, s1, q2.bind.imp fun ws H2 μ2 S2 e2 s2 q3 vs rvs => ?_⟩
    exact ⟨S2, μ2, w :: ws, s2, .cons (RepW.up e2 rv) rvs, q3⟩
theorem pg_fldE {X : Cx} {x f : Str} {o : E} {y : Expr} {pos : Pos} (xf : XF X C G F n) (h1 : (x, f) ∈ C.cf) (ho : PE X y (TEof X.K U0 (ev G F o))) : PG X (.Attribute y f pos) (TGof X.K U0 [] (asg G F (.tfld x o f))) := by
  obtain ⟨Cd, c1, c2, c3⟩ := xf.fls x f h1
  refine PG.imp (pg_fldG ho fun _ => rfl) fun v σ H Q h => ?_
  obtain ⟨l, S, μ, w, hl, hS, hw, hp⟩ := h
  replace hp : PostE X.K U0 H μ ((ev G F o l S).bind fun y S1 => (setA x f y w S1).bind fun _ S2 => .ok l S2) _ := hp
  refine ⟨l, S, μ, hl, hS, hp.bind.imp fun yw H1 μ1 S1 e1 s1 q1 yv ry => ?_⟩
  cases yw with
  | obj p =>
    replace q1 : PostE X.K U0 H1 μ1 ((setL x f w S1 p S1[p]?).bind fun _ S2 => .ok l S2) _ := q1
    cases e : S1[p]? with
    | none => rw [e] at q1; exact q1.elim
    | some ob =>
      rw [e] at q1
      cases ob with
      | ins z fs =>
        replace q1 : PostE X.K U0 H1 μ1 ((if z = x ∧ fs.length < 1000 then Rs.ok () (S1.set p (.ins x (putA f w fs))) else .no).bind fun _ S2 => .ok l S2) _ := q1
        split at q1
        · rename_i hz
          obtain ⟨rfl, hlen⟩ := hz
          obtain ⟨a, C', dx, vs, rfl, m, c, hb, r⟩ := obj_ins s1 ry e
          rw [c1] at c
          cases c
          have mu : Mut (H1 a) := by rw [hb]; trivial
          have ex : Ext H1 μ1 (upd H1 a (.ins Cd dx (putF f v vs))) μ1 := Ext.write mu m
          refine ⟨a, Cd, dx, vs, rfl, hb, c2, c3, by rw [← r.length]; exact hlen, ?_⟩
          exact q1 _ μ1 ex (s1.write mu m ⟨Cd, dx, _, c1, upd_same, ((r.put (hw.up e1)).up ex)⟩) σ ((hl.up e1).up ex) ⟨rfl, fun _ _ => rfl⟩
        · exact q1.elim
      | _ => exact q1.elim
  | _ => exact q1.elim
end
end MP
set_option Elab.async false
set_option linter.all false
set_option maxRecDepth 100000
set_option maxHeartbeats 8000000
/-! Slices' parts, tests, targets, what is walked; the induction. -/
namespace MP
open PySem PySem.Spec PyProof.Rows L2 RT

section
variable {C : Ck} {G : Nat → Option W} {F : Fun'} {n : Nat}
theorem po_noneE {X : Cx} : PO X none (TOof X.K U0 (evo G F .nil)) := PO.imp po_none fun σ H Q h => by
  obtain ⟨l, S, μ, hl, hS, hp⟩ := h
  exact hp H μ (Ext.refl _ _) hS
theorem po_someE {X : Cx} {ra : Loc → Sto → Rs W} {x : Expr} (ha : PE X x (TEof X.K U0 ra)) : PO X (some x) (TOof X.K U0 fun l S => (ra l S).bind fun x S1 => partW x S1) := PO.imp (po_some ha) fun σ H Q h => by
  obtain ⟨l, S, μ, hl, hS, hp⟩ := h
  refine ⟨l, S, μ, hl, hS, hp.bind.imp fun w H1 μ1 S1 e1 s1 q1 v rv => ?_⟩
  unfold partW at q1
  split at q1
  · rename_i i
    have rv : RepD X.K H1 μ1 (.int i) v := rv
    cases rv
    exact ⟨i, rfl, q1 H1 μ1 (Ext.refl _ _) s1⟩
  · exact q1.elim
theorem pa_nilE {X : Cx} : PA X [] (TAof X.K U0 (evs G F .nil)) := PA.imp pa_nil fun σ H Q q => by
  obtain ⟨l, S, μ, hl, hS, hp⟩ := q
  exact hp H μ (Ext.refl _ _) hS [] .nil
theorem pts_nilE {X : Cx} : PTs X [] (TBof X.K U0 (evt G F .nil)) := PTs.imp pts_nil fun σ H Q h => by
  obtain ⟨l, S, μ, hl, hS, hp⟩ := h
  exact hp H μ (Ext.refl _ _) hS
theorem pts_oneE {X : Cx} {r : Loc → Sto → Rs W} {x : Expr} (ht : PT X x (TTof X.K U0 r)) : PTs X [x] (TBof X.K U0 fun l S => (r l S).bind fun x S1 => boolW x S1) := PTs.imp (pts_one ht) fun σ H Q h => by
  obtain ⟨l, S, μ, hl, hS, hp⟩ := h
  refine ⟨l, S, μ, hl, hS, hp.bind.imp fun w H1 μ1 S1 e1 s1 q1 => ?_⟩
  unfold boolW at q1
  split at q1
  · exact ⟨_, rfl, q1 H1 μ1 (Ext.refl _ _) s1⟩
  · exact q1.elim
/-! tests -/
theorem pt_tvE {X : Cx} {r : Loc → Sto → Rs W} {x : Expr} (ha : PE X x (TEof X.K U0 r)) (h : plainT x = true) : PT X x (TTof X.K U0 fun l S => (r l S).bind fun x S1 => truW S1 x) := PT.imp (pt_truth ha (plain_true h)) fun σ H Q h => by
  obtain ⟨l, S, μ, hl, hS, hp⟩ := h
  exact ⟨l, S, μ, hl, hS, hp.bind.imp fun w H1 μ1 S1 e1 s1 q1 v rv => tru_truW s1 rv q1⟩
theorem tt_test {K : PySem.W.Frag} {r : Loc → Sto → Rs W} {σ : L2.St} {H : Hp} {Q : Bool → Hp → Prop} (h : TTof K U0 (fun l S => (r l S).bind fun x S1 => blW x S1) σ H Q) : TEof K U0 r σ H fun x H1 => ∃ k, x = .bl k ∧ Q k H1 := by
  obtain ⟨l, S, μ, hl, hS, hp⟩ := h
  refine ⟨l, S, μ, hl, hS, hp.bind.imp fun w H1 μ1 S1 e1 s1 q1 v rv => ?_⟩
  obtain ⟨b, rfl, q⟩ := blW_at q1
  obtain ⟨c, ec, qc⟩ := q H1 μ1 (Ext.refl _ _) s1
  cases ec
  exact ⟨b, blrep rv, qc⟩
theorem pw_oneE {X : Cx} {r : Loc → Sto → Rs W} {x : Expr} {op : BoolOp} {pos : Pos} (ha : PT X x (TTof X.K U0 r)) : PW X (.BoolOp op [x] pos) (TTof X.K U0 r) := by
  cases op with
  | And => exact pw_and1 ha
  | Or => exact pw_or1 ha
theorem pw_andE {X : Cx} {ra rb : Loc → Sto → Rs W} {x y : Expr} {r : List Expr} {pos : Pos} (ha : PT X x (TTof X.K U0 ra)) (hb : PW X (.BoolOp .And (y :: r) pos) (TTof X.K U0 rb)) :
    PW X (.BoolOp .And (x :: y :: r) pos) (TTof X.K U0 fun l S => (ra l S).bind fun x S1 => ifW x (rb l S1) (.ok (.dat (.bool false)) S1)) := PW.imp (pw_and ha hb) fun σ H Q h => by
  obtain ⟨l, S, μ, hl, hS, hp⟩ := h
  refine ⟨l, S, μ, hl, hS, hp.bind.imp fun w H1 μ1 S1 e1 s1 q1 => ?_⟩
  obtain ⟨b, rfl, q⟩ := ifW_at q1
  refine ⟨b, rfl, post_if q (fun q => ⟨l, S1, μ1, hl.up e1, s1, q⟩) fun q => ?_⟩
  obtain ⟨c, ec, qc⟩ := q H1 μ1 (Ext.refl _ _) s1
  cases ec; exact qc
theorem pw_orE {X : Cx} {ra rb : Loc → Sto → Rs W} {x y : Expr} {r : List Expr} {pos : Pos} (ha : PT X x (TTof X.K U0 ra)) (hb : PW X (.BoolOp .Or (y :: r) pos) (TTof X.K U0 rb)) :
    PW X (.BoolOp .Or (x :: y :: r) pos) (TTof X.K U0 fun l S => (ra l S).bind fun x S1 => ifW x (.ok (.dat (.bool true)) S1) (rb l S1)) := PW.imp (pw_or ha hb) fun σ H Q h => by
  obtain ⟨l, S, μ, hl, hS, hp⟩ := h
  refine ⟨l, S, μ, hl, hS, hp.bind.imp fun w H1 μ1 S1 e1 s1 q1 => ?_⟩
  obtain ⟨b, rfl, q⟩ := ifW_at q1
  refine ⟨b, rfl, post_if q (fun q => ?_) fun q => ⟨l, S1, μ1, hl.up e1, s1, q⟩⟩
  obtain ⟨c, ec, qc⟩ := q H1 μ1 (Ext.refl _ _) s1
  cases ec; exact qc
theorem pt_notE {X : Cx} {r : Loc → Sto → Rs W} {x : Expr} {pos : Pos} (ha : PT X x (TTof X.K U0 r)) : PT X (.UnaryOp .Not x pos) (TTof X.K U0 fun l S => (r l S).bind fun x S1 => notW x S1) := PT.imp (pt_not ha) fun σ H Q h => by
  obtain ⟨l, S, μ, hl, hS, hp⟩ := h
  refine ⟨l, S, μ, hl, hS, hp.bind.imp fun w H1 μ1 S1 e1 s1 q1 => ?_⟩
  unfold notW at q1
  split at q1
  · obtain ⟨c, ec, qc⟩ := q1 H1 μ1 (Ext.refl _ _) s1
    cases ec
    exact ⟨_, rfl, qc⟩
  · exact q1.elim
/-! what is walked -/
theorem pi_isqE {X : Cx} {tg x : Expr} {r : Loc → Sto → Rs W} (ha : PE X x (TEof X.K U0 r)) : PI X tg x (TIof X.K U0 fun l S => (r l S).bind fun w S1 => seqW w S1) := by
  refine ⟨fun pins s σ H R I h => ?_⟩
  obtain ⟨l, S, μ, hl, hS, hp⟩ := h
  have hp := hp.bind
  cases e : r l S with
  | no => rw [e] at hp; exact hp.elim
  | ex y S1 =>
    rw [e] at hp
    refine (pi_list ha).run pins s σ H R I ⟨l, S, μ, hl, hS, ?_⟩
    rw [e]
    exact hp
  | ok w S1 =>
    rw [e] at hp
    have asL : ∀ ds, (w = .dat (.list ds) ∨ w = .scr ds) → seqW w S1 = .ok ds S1 → iList X.K (TEof X.K U0 r) σ H R := fun ds hw es => by
      refine ⟨l, S, μ, hl, hS, ?_⟩
      rw [e]
      intro H1 μ1 e1 s1 v rv
      have q : PostE X.K U0 H1 μ1 (seqW w S1) (fun ds H' μ' _ => ∀ J A, Walks X.K J ds A → A H' μ' → R J H') := hp H1 μ1 e1 s1
      rw [es] at q
      have hv : ∃ a, v = .ref a := by
        rcases hw with rfl | rfl
        · have rv : RepD X.K H1 μ1 (.list ds) v := rv
          cases rv; exact ⟨_, rfl⟩
        · obtain ⟨a, _, z, _⟩ := rv; exact ⟨a, z⟩
      obtain ⟨a, rfl⟩ := hv
      obtain ⟨vs, q1, _⟩ := sqL_one rv hw
      exact ⟨a, rfl, ⟨vs, q1⟩, q H1 μ1 (Ext.refl _ _) s1 _ _ (walks_l (a := a) hw) rv⟩
    have asT : ∀ ds, (w = .dat (.tuple ds) ∨ w = .cst ds) → seqW w S1 = .ok ds S1 → iTup X.K (TEof X.K U0 r) σ H R := fun ds hw es => by
      refine ⟨l, S, μ, hl, hS, ?_⟩
      rw [e]
      intro H1 μ1 e1 s1 v rv
      have q : PostE X.K U0 H1 μ1 (seqW w S1) (fun ds H' μ' _ => ∀ J A, Walks X.K J ds A → A H' μ' → R J H') := hp H1 μ1 e1 s1
      rw [es] at q
      have hv : ∃ a, v = .ref a := by
        rcases hw with rfl | rfl
        · have rv : RepD X.K H1 μ1 (.tuple ds) v := rv
          cases rv; exact ⟨_, rfl⟩
        · obtain ⟨a, _, z, _⟩ := rv; exact ⟨a, z⟩
      obtain ⟨a, rfl⟩ := hv
      obtain ⟨vs, q1, _⟩ := sqT_one rv hw
      exact ⟨a, rfl, ⟨vs, q1⟩, q H1 μ1 (Ext.refl _ _) s1 _ _ (walks_t (a := a) hw) rv⟩
    have bad : (∀ H' μ', Ext H μ H' μ' → StoRep X.K H' S1 μ' → PostE X.K U0 H' μ' (seqW w S1) fun ds H' μ' _ => ∀ J A, Walks X.K J ds A → A H' μ' → R J H') → seqW w S1 = .no → iList X.K (TEof X.K U0 r) σ H R := fun _ es => by
      refine ⟨l, S, μ, hl, hS, ?_⟩
      rw [e]
      intro H1 μ1 e1 s1 v rv
      have q : PostE X.K U0 H1 μ1 (seqW w S1) (fun ds H' μ' _ => ∀ J A, Walks X.K J ds A → A H' μ' → R J H') := hp H1 μ1 e1 s1
      rw [es] at q
      exact q.elim
    cases w with
    | dat d =>
      cases d with
      | list ds => exact (pi_list ha).run pins s σ H R I (asL ds (.inl rfl) rfl)
      | tuple ds => exact (pi_tup ha).run pins s σ H R I (asT ds (.inl rfl) rfl)
      | _ => exact (pi_list ha).run pins s σ H R I (bad hp rfl)
    | scr ds => exact (pi_list ha).run pins s σ H R I (asL ds (.inr rfl) rfl)
    | cst ds => exact (pi_tup ha).run pins s σ H R I (asT ds (.inr rfl) rfl)
    | obj p => exact (pi_list ha).run pins s σ H R I (bad hp rfl)
    | cdi p => exact (pi_list ha).run pins s σ H R I (bad hp rfl)
    | fn _ _ => exact (pi_list ha).run pins s σ H R I (bad hp rfl)
theorem small_of {i : Int} (h : smallI i = true) : -(2 ^ 62) ≤ i ∧ i < 2 ^ 62 := by simpa [smallI] using h
theorem int_rep {K : PySem.W.Frag} {H : Hp} {μ : Mu} {i : Int} {v : V} (h : RepW K H μ (.dat (.int i)) v) : v = .int i := by
  have h : RepD K H μ (.int i) v := h
  cases h; rfl
theorem pi_irg1E {X : Cx} {tg y : Expr} {x : Str} {p pos : Pos} {sc : Scope} {r : Loc → Sto → Rs W} (xf : XF X C G F n) (hs : X.env.scope = sc) (h1 : x = "range") (h2 : bltB C sc x = true) (hst : noStar y = true) (ha : PE X y (TEof X.K U0 r)) :
    PI X tg (.Call (.Name x p) [y] [] pos) (TIof X.K U0 fun l S => (r l S).bind fun w S1 => rng1W w S1) := by
  obtain ⟨g1, g2, g3, g4⟩ := bltB_gl xf hs h2
  subst h1
  refine PI.imp (pi_range1 g1 g2 (pa_cons ha pa_nil (star_cons hst)) (star_cons hst)) fun σ H R h => ?_
  obtain ⟨l, S, μ, hl, hS, hp⟩ := h
  refine ⟨l, S, μ, hl, hS, hp.bind.imp fun w H1 μ1 S1 e1 s1 q1 v rv => ?_⟩
  unfold rng1W at q1
  split at q1
  · rename_i j
    split at q1
    · rename_i hj
      obtain rfl := int_rep rv
      obtain ⟨a, b⟩ := small_of hj
      exact ⟨j, rfl, a, b, q1 H1 μ1 (Ext.refl _ _) s1 _ _ walks_r trivial⟩
    · exact q1.elim
  · exact q1.elim
theorem pi_irg2E {X : Cx} {tg y z : Expr} {x : Str} {p pos : Pos} {sc : Scope} {r r2 : Loc → Sto → Rs W} (xf : XF X C G F n) (hs : X.env.scope = sc) (h1 : x = "range") (h2 : bltB C sc x = true) (hst : noStar y = true) (hst2 : noStar z = true) (ha : PE X y (TEof X.K U0 r)) (hb : PE X z (TEof X.K U0 r2)) :
    PI X tg (.Call (.Name x p) [y, z] [] pos) (TIof X.K U0 fun l S => (r l S).bind fun w S1 => (r2 l S1).bind fun u S2 => rng2W w u S2) := by
  obtain ⟨g1, g2, g3, g4⟩ := bltB_gl xf hs h2
  subst h1
  have e2 : starEach [y, z] X.env = [(false, eval y X.env), (false, eval z X.env)] := by rw [star_cons hst, star_cons hst2] <;> rfl
  refine PI.imp (pi_range2 g1 g2 (pa_cons ha (pa_cons hb pa_nil (star_cons hst2)) (star_cons hst)) e2 (star_cons hst2)) fun σ H R h => ?_
  obtain ⟨l, S, μ, hl, hS, hp⟩ := h
  refine ⟨l, S, μ, hl, hS, hp.bind.imp fun w H1 μ1 S1 e1 s1 q1 v rv => ⟨l, S1, μ1, hl.up e1, s1, q1.bind.imp fun u H2 μ2 S2 e2 s2 q2 v2 rv2 => ?_⟩⟩
  unfold rng2W at q2
  split at q2
  · rename_i i j
    split at q2
    · rename_i hj
      obtain rfl := int_rep rv
      obtain rfl := int_rep rv2
      obtain ⟨a, b⟩ := small_of hj.1
      obtain ⟨c, d⟩ := small_of hj.2
      exact ⟨i, j, rfl, ⟨a, b, c, d⟩, q2 H2 μ2 (Ext.refl _ _) s2 _ _ walks_r trivial⟩
    · exact q2.elim
  · exact q2.elim
theorem pi_irr2E {X : Cx} {tg y z : Expr} {u x : Str} {p0 p pos0 pos : Pos} {sc : Scope} {r r2 : Loc → Sto → Rs W} (xf : XF X C G F n) (hs : X.env.scope = sc) (h0 : u = "reversed") (h00 : bltB C sc u = true) (h1 : x = "range") (h2 : bltB C sc x = true) (hst : noStar y = true) (hst2 : noStar z = true) (ha : PE X y (TEof X.K U0 r)) (hb : PE X z (TEof X.K U0 r2)) :
    PI X tg (.Call (.Name u p0) [.Call (.Name x p) [y, z] [] pos] [] pos0) (TIof X.K U0 fun l S => (r l S).bind fun w S1 => (r2 l S1).bind fun u S2 => rngRW w u S2) := by
  obtain ⟨f1, f2, _, _⟩ := bltB_gl xf hs h00
  obtain ⟨g1, g2, g3, g4⟩ := bltB_gl xf hs h2
  subst h0 h1
  refine PI.imp (pi_revR f1 f2 (prg_2 g1 g2 ha hb (star_cons hst) (star_cons hst2) (by rw [star_cons hst2]; rfl)) (star_cons rfl)) fun σ H R h => ?_
  obtain ⟨l, S, μ, hl, hS, hp⟩ := h
  refine ⟨l, S, μ, hl, hS, hp.bind.imp fun w H1 μ1 S1 e1 s1 q1 v rv => ⟨l, S1, μ1, hl.up e1, s1, q1.bind.imp fun u H2 μ2 S2 e2 s2 q2 v2 rv2 => ?_⟩⟩
  unfold rngRW at q2
  split at q2
  · rename_i i j
    split at q2
    · rename_i hj
      obtain rfl := int_rep rv
      obtain rfl := int_rep rv2
      obtain ⟨a, b⟩ := small_of hj.1
      obtain ⟨c, d⟩ := small_of hj.2
      exact ⟨i, j, rfl, rfl, a, b, c, d, q2 H2 μ2 (Ext.refl _ _) s2 _ _ walks_c trivial⟩
    · exact q2.elim
  · exact q2.elim
theorem pi_irg3E {X : Cx} {tg y z t : Expr} {x : Str} {p pos : Pos} {sc : Scope} {r r2 r3 : Loc → Sto → Rs W} (xf : XF X C G F n) (hs : X.env.scope = sc) (h1 : x = "range") (h2 : bltB C sc x = true) (hst : noStar y = true) (hst2 : noStar z = true) (hst3 : noStar t = true)
    (ha : PE X y (TEof X.K U0 r)) (hb : PE X z (TEof X.K U0 r2)) (hc : PE X t (TEof X.K U0 r3)) :
    PI X tg (.Call (.Name x p) [y, z, t] [] pos) (TIof X.K U0 fun l S => (r l S).bind fun w S1 => (r2 l S1).bind fun u S2 => (r3 l S2).bind fun k S3 => rng3W w u k S3) := by
  obtain ⟨g1, g2, g3, g4⟩ := bltB_gl xf hs h2
  subst h1
  have hpl : (backTo pos (starEach [z, t] X.env)).any (·.1) = false := by rw [star_cons hst2, star_cons hst3] <;> rfl
  refine PI.imp (pi_range3 g1 g2 (pa_cons ha (pa_cons hb (pa_cons hc pa_nil (star_cons hst3)) (star_cons hst2)) (star_cons hst)) (star_cons hst) hpl) fun σ H R h => ?_
  obtain ⟨l, S, μ, hl, hS, hp⟩ := h
  refine ⟨l, S, μ, hl, hS, hp.bind.imp fun w H1 μ1 S1 e1 s1 q1 v rv => ⟨l, S1, μ1, hl.up e1, s1, q1.bind.imp fun u H2 μ2 S2 e2 s2 q2 v2 rv2 => ⟨l, S2, μ2, (hl.up e1).up e2, s2, q2.bind.imp fun k H3 μ3 S3 e3 s3 q3 v3 rv3 => ?_⟩⟩⟩
  unfold rng3W at q3
  split at q3
  · rename_i i j k
    split at q3
    · rename_i hj
      obtain ⟨hk, hi, hj⟩ := hj
      obtain rfl := int_rep rv
      obtain rfl := int_rep rv2
      obtain rfl := int_rep rv3
      obtain ⟨a, b⟩ := small_of hi
      obtain ⟨c, d⟩ := small_of hj
      subst hk
      exact ⟨i, j, -1, _, rfl, RgC.neg a b c d, q3 H3 μ3 (Ext.refl _ _) s3 _ _ walks_c trivial⟩
    · exact q3.elim
  · exact q3.elim
theorem pi_irevE {X : Cx} {tg y : Expr} {x : Str} {p pos : Pos} {sc : Scope} {r : Loc → Sto → Rs W} (xf : XF X C G F n) (hs : X.env.scope = sc) (h1 : x = "reversed") (h2 : bltB C sc x = true) (hst : noStar y = true) (ha : PE X y (TEof X.K U0 r)) :
    PI X tg (.Call (.Name x p) [y] [] pos) (TIof X.K U0 fun l S => (r l S).bind fun w S1 => irevW w S1) := by
  obtain ⟨g1, g2, g3, g4⟩ := bltB_gl xf hs h2
  subst h1
  refine PI.imp (pi_revA g1 g2 ha (star_cons hst)) fun σ H R h => ?_
  obtain ⟨l, S, μ, hl, hS, hp⟩ := h
  refine ⟨l, S, μ, hl, hS, hp.bind.imp fun w H1 μ1 S1 e1 s1 q1 v rv => ?_⟩
  unfold irevW at q1
  split at q1
  · rename_i ds
    have rv : RepD X.K H1 μ1 (.list ds) v := rv
    have q := q1 H1 μ1 (Ext.refl _ _) s1
    cases id rv with
    | @lst a vs _ ha hn hh hr =>
      refine ⟨a, vs, rfl, .inl ⟨SqL.of ha, ?_⟩⟩
      rw [← hr.length]
      exact q _ _ walks_vl rv
  · rename_i ds
    have rv : RepD X.K H1 μ1 (.tuple ds) v := rv
    have q := q1 H1 μ1 (Ext.refl _ _) s1
    cases id rv with
    | @tup a vs _ ha hr =>
      refine ⟨a, vs, rfl, .inr ⟨ha.sq, ?_⟩⟩
      rw [← hr.length]
      exact q _ _ walks_vt rv
  · exact q1.elim
/-! targets -/
theorem pg_nmE {X : Cx} {k : Nat} {x : Str} {pos : Pos} {sc : Scope} {top : Bool} (xf : XF X C G F n) (hs : X.env.scope = sc) (ht : top = true → ∀ y, X.fn y = true) (h1 : C.N[k]? = some x) (h2 : locB top sc x = true) :
    PG X (.Name x pos) (TGof X.K U0 [k] (asg G F (.tnm k))) := by
  have hl : (L2.Loc X.env.scope x) ∧ (X.fn x = true ∨ X.env.scope.names.lookup x = some .local) := by
    rw [hs]
    unfold locB at h2
    split at h2
    · exact ⟨.inl (by assumption), .inr (by assumption)⟩
    · exact ⟨.inr (by assumption), .inl (ht h2 x)⟩
    · cases h2
  refine PG.imp (pg_name (i := k) (by rw [xf.hN]; exact xf.nd) (by rw [xf.hN]; exact h1) hl.1 hl.2) fun v σ H Q h => ?_
  obtain ⟨l, S, μ, w, hl, hS, hw, hp⟩ := h
  refine hp H μ (Ext.refl _ _) hS _ (hl.set k hw) ⟨by simp, fun i hi => ?_⟩
  rw [List.getElem?_set_ne (fun z => hi (by simp [z]))]
theorem sub_assign {o i : Expr} {pos : Pos} {env : Env} (h : noSlice i = true) : ∀ v, assign (.Subscript o i pos) env v = (do
      let ov ← holding [v] (eval o env)
      let iv ← holding [v, ov] (eval i env)
      standAt pos
      holding [v, ov, iv] (setItem ov iv v)
      release [v, ov, iv] []) := by
  intro v
  cases i <;> first | rfl | cases h
def setOf (K : PySem.W.Frag) (U : Wx) : TSet := fun o i v H Q => ∃ S μ wo wi wv, StoRep K H S μ ∧ RepW K H μ wo o ∧ RepW K H μ wi i ∧ RepW K H μ wv v ∧ PostE K U H μ (setW S wo wi wv) fun _ H' _ _ => Q H'
theorem set_dic {X : Cx} (hu : X.A.units + 1 < cLine) : PSet X (fun o i v H Q => ∃ a H', o = .ref a ∧ DPut H a i v H' ∧ Q H') := by
  intro pins s σ H o i v ov iv u Q I ro ri rv h
  obtain ⟨a, H', rfl, g, q⟩ := h
  obtain rfl : ov = Value.ref a := ro
  exact d_setItem hu I g ri rv fun s' I' => ⟨H', I', q⟩
theorem set_setW {X : Cx} (hu : X.A.units + 1 < cLine) : PSet X (setOf X.K U0) := by
  intro pins s σ H o i v ov iv u Q I ro ri rv h
  obtain ⟨S, μ, wo, wi, wv, hS, ho, hi, hv, hp⟩ := h
  unfold setW at hp
  split at hp
  · rename_i z p ez
    unfold dputW at hp
    split at hp
    · rename_i k kvs ek ed
      split at hp
      · rename_i hz
        obtain ⟨a, vs, rfl, hm, ha, hk⟩ := obj_dic hS ho ed
        obtain rfl := keyW_rep hi ek
        have mu : Mut (H a) := by rw [ha]; trivial
        have ex := Ext.write (o := .dK (putK vs k v)) mu hm
        exact set_dic hu pins s σ H _ _ v ov iv u Q I ro ri rv ⟨a, _, rfl, DPut.k ha (by rw [← hk.len]; exact hz), hp _ μ ex (hS.write mu hm (ob := .dic (putW kvs k wv)) ⟨_, upd_same, RepKs.up ex (hk.put k hv)⟩)⟩
      · exact hp.elim
    · exact hp.elim
  · unfold setW0 at hp
    split at hp
    · rename_i p k d _
      obtain rfl := int_rep hi
      split at hp
      · rename_i ds e
        split at hp
        · rename_i j ej
          obtain ⟨a, vs, rfl, hm, ha, hr⟩ := obj_lst hS ho e
          rw [hr.length] at ej
          have mu : Mut (H a) := by rw [ha]; trivial
          have ex := Ext.write (o := .lst (vs.set j v)) mu hm
          exact set_list pins s σ H _ _ v ov iv u Q I ro ri rv ⟨a, vs, k, j, rfl, rfl, ha, ej, hp _ μ ex (hS.write mu hm ⟨_, upd_same, (hr.up ex).set j (RepD.up ex hv)⟩)⟩
        · exact hp.elim
      · exact hp.elim
    · exact hp.elim
theorem pg_subE {X : Cx} {o i : Expr} {pos : Pos} {ro ri : Loc → Sto → Rs W} (hu : X.A.units + 1 < cLine) (h : noSlice i = true) (ho : PE X o (TEof X.K U0 ro)) (hi : PE X i (TEof X.K U0 ri)) :
    PG X (.Subscript o i pos) (TGof X.K U0 [] fun w l S => (ro l S).bind fun x S1 => (ri l S1).bind fun y S2 => (setW S2 x y w).bind fun _ S3 => .ok l S3) := by
  refine PG.imp (pg_sub ho hi (set_setW hu) (sub_assign h)) fun v σ H Q h => ?_
  obtain ⟨l, S, μ, w, hl, hS, hw, hp⟩ := h
  refine ⟨l, S, μ, hl, hS, hp.bind.imp fun x H1 μ1 S1 e1 s1 q1 v1 r1 => ⟨l, S1, μ1, hl.up e1, s1, q1.bind.imp fun y H2 μ2 S2 e2 s2 q2 v2 r2 => ?_⟩⟩
  refine ⟨S2, μ2, x, y, w, s2, r1.up e2, r2, (hw.up e1).up e2, q2.bind.imp fun _ H3 μ3 S3 e3 s3 q3 => ?_⟩
  exact q3 H3 μ3 (Ext.refl _ _) s3 σ (((hl.up e1).up e2).up e3) ⟨rfl, fun _ _ => rfl⟩
theorem asg_cons {e : Expr} {es : List Expr} {env : Env} (h : noStar e = true) : assignEach (e :: es) env = (false, assign e env) :: assignEach es env := by
  cases e <;> first | rfl | cases h
theorem pgs_consE {X : Cx} {t : Expr} {ts : List Expr} {a b : List Nat} {r : W → Loc → Sto → Rs Loc} {rs : List D → Loc → Sto → Rs Loc} (hst : noStar t = true) (h1 : PG X t (TGof X.K U0 a r)) (h2 : PGs X ts (TGsof X.K U0 b rs)) :
    PGs X (t :: ts) (TGsof X.K U0 (a ++ b) fun ds l S => match ds with | d :: ds => (r (.dat d) l S).bind fun l1 S1 => rs ds l1 S1 | [] => .no) := by
  refine PGs.imp (pgs_cons h1 h2 (by rw [asg_cons hst] <;> rfl)) fun vs σ H Q h => ?_
  obtain ⟨l, S, μ, ds, hl, hS, hd, hp⟩ := h
  cases hd with
  | nil => exact hp.elim
  | @cons d v ds vs hd hds =>
    have hp := PostE.bind hp
    refine ⟨v, vs, rfl, l, S, μ, .dat d, hl, hS, hd, hp.imp fun l1 H1 μ1 S1 e1 s1 q1 σ1 k1 a1 => ?_⟩
    refine ⟨l1, S1, μ1, ds, k1, s1, hds.up e1, q1.imp fun l2 H2 μ2 S2 e2 s2 q2 σ2 k2 a2 => ?_⟩
    refine q2 σ2 k2 ⟨a2.1.trans a1.1, fun i hi => ?_⟩
    rw [a2.2 i (fun z => hi (List.mem_append_right _ z)), a1.2 i (fun z => hi (List.mem_append_left _ z))]
theorem pgs_nilE {X : Cx} : PGs X [] (TGsof X.K U0 [] fun ds l S => match ds with | [] => .ok l S | _ => .no) := PGs.imp pgs_nil fun vs σ H Q h => by
  obtain ⟨l, S, μ, ds, hl, hS, hd, hp⟩ := h
  cases hd with
  | nil => exact ⟨rfl, hp H μ (Ext.refl _ _) hS σ hl ⟨rfl, fun _ _ => rfl⟩⟩
  | cons _ _ => exact hp.elim
theorem okGs_len {top : Bool} {sc : Scope} {env : Env} : ∀ (es : E) (xs : List Expr), okGs C top es sc xs = true → (assignEach xs env).length = elen es ∧ (assignEach xs env).findIdx? (·.1) = none := by
  intro es
  induction es with
  | nil =>
    intro xs h
    cases xs with
    | nil => exact ⟨rfl, rfl⟩
    | cons _ _ => cases h
  | cons e es _ ih =>
    intro xs h
    cases xs with
    | nil => cases h
    | cons x xs =>
      have h : (okG C top e sc x && noStar x && okGs C top es sc xs) = true := h
      obtain ⟨h1, h2⟩ := and_of h
      obtain ⟨a, b⟩ := ih xs h2
      rw [asg_cons (and_of h1).2]
      refine ⟨by rw [List.length_cons, a] <;> rfl, ?_⟩
      rw [List.findIdx?_cons]
      simp [b]
  | _ => intro xs h; cases h
theorem pg_tupE {X : Cx} {ts : E} {xs : List Expr} {top : Bool} {sc : Scope} {k : Nat} {pos : Pos} (xf : XF X C G F n) (h : okGs C top ts sc xs = true) (hg : PGs X xs (TGsof X.K U0 (tslots ts) (asgs G F ts))) :
    PG X (.Tuple xs k pos) (TGof X.K U0 (tslots (.ttup ts)) (asg G F (.ttup ts))) := by
  obtain ⟨h1, h2⟩ := okGs_len (env := X.env) ts xs h
  refine PG.imp (pg_tup xf.calm hg h1 h2) fun v σ H Q hh => ?_
  obtain ⟨l, S, μ, w, hl, hS, hw, hp⟩ := hh
  replace hp : PostE X.K U0 H μ (match w with | .dat (.tuple ds) => if ds.length = elen ts then asgs G F ts ds l S else .no | _ => .no) _ := hp
  split at hp
  · rename_i ds
    split at hp
    · rename_i hn
      have hw : RepD X.K H μ (.tuple ds) v := hw
      cases hw with
      | @tup a vs _ ha hr => exact ⟨a, vs, rfl, ha.sq, by rw [← hr.length]; exact hn, l, S, μ, ds, hl, hS, hr, hp⟩
    · exact hp.elim
  · exact hp.elim
/-- a comprehension -/
theorem pe_compE {X : Cx} {m : Bool} {vs : List Nat} {elt tg it tst : E} {elt' tg' it' : Expr} {ifs : List Expr} {scope : Scope} {pos : Pos} (xf : XF X C G F n) (ok : blkC C.N X.env.scope scope (ownOf C vs) = true) (hts : (tslots tg).all (fun k => decide (k ∈ vs)) = true) (hset : noSet it' = true)
    (hi : PI X tg' it' (TIof X.K U0 (evi G F it)))
    (hg : ∀ X', XF X' C G F n → X'.env.scope = relS scope X.env.scope → X'.K = X.K → PG X' tg' (TGof X'.K U0 (tslots tg) (asg G F tg)))
    (ht : ∀ X', XF X' C G F n → X'.env.scope = relS scope X.env.scope → X'.K = X.K → PTs X' ifs (TBof X'.K U0 (evt G F tst)))
    (he : ∀ X', XF X' C G F n → X'.env.scope = relS scope X.env.scope → X'.K = X.K → PE X' elt' (TEof X'.K U0 (ev G F elt))) :
    PE X (.ListComp elt' [⟨tg', it', ifs, 0⟩] scope pos) (TEof X.K U0 (ev G F (.comp m vs elt tg it tst))) := by
  have own : (ownOf C vs).map (·.2) = vs := by
    unfold ownOf
    rw [List.map_map]
    exact List.map_id vs
  refine PE.imp (pe_lc (own := ownOf C vs) (g := TGof X.K U0 (tslots tg) (asg G F tg)) (tt := TBof X.K U0 (evt G F tst)) (te := TEof X.K U0 (ev G F elt)) xf.calm (by rw [xf.hN]; exact xf.nd) hi (blkOk_by (by rw [xf.hN]; exact ok))
    (fun s H c cl fp => hg _ (xf.blk s H scope _ fp) rfl rfl) (fun s H c cl fp => ht _ (xf.blk s H scope _ fp) rfl rfl) (fun s H c cl fp => he _ (xf.blk s H scope _ fp) rfl rfl) (noset_fold hset)) fun σ H Q h => ?_
  obtain ⟨l, S, μ, hl, hS, hp⟩ := h
  have hp := PostE.bind (r := evi G F it l S) hp
  rw [own]
  refine ⟨l, S, μ, hl, hS, hp.imp fun ds H1 μ1 S1 e1 s1 q1 J A wk hA Dr hD => ?_⟩
  exact lc_turns wk (hl.up e1) s1 hA hD (fun k hk => dec_of (List.all_eq_true.mp hts k hk)) q1
end

/-! ### the induction -/
section
variable (C : Ck) (G : Nat → Option W) (F : Fun') (n : Nat)
theorem snd : ∀ e : E, Snd C G F n e := by
  intro e
  induction e with
  | int i =>
    refine Snd.mk0 (fun top sc x X xf hs ht h => ?_) (fun _ _ _ => rfl) (fun _ _ _ => rfl) (fun _ _ _ => rfl) (fun _ _ _ => rfl) (fun _ _ _ => rfl) (fun _ _ _ => rfl) (fun _ _ _ => rfl)
    replace h : kInt i x = true := h
    unfold kInt at h
    split at h
    · obtain rfl := dec_of h
      exact PE.imp pe_int fun σ H Q q => te_pure (w := .dat (.int i)) (fun _ _ => RepD.int i) q
    · cases h
  | bl b =>
    refine Snd.mk0 (fun top sc x X xf hs ht h => ?_) (fun _ _ _ => rfl) (fun _ _ _ => rfl) (fun _ _ _ => rfl) (fun _ _ _ => rfl) (fun _ _ _ => rfl) (fun _ _ _ => rfl) (fun _ _ _ => rfl)
    replace h : kBl b x = true := h
    unfold kBl at h
    split at h
    · obtain rfl := dec_of h
      exact PE.imp pe_bl fun σ H Q q => te_pure (w := .dat (.bool b)) (fun _ _ => RepD.bl b) q
    · cases h
  | non =>
    refine Snd.mk0 (fun top sc x X xf hs ht h => ?_) (fun _ _ _ => rfl) (fun _ _ _ => rfl) (fun _ _ _ => rfl) (fun _ _ _ => rfl) (fun _ _ _ => rfl) (fun _ _ _ => rfl) (fun _ _ _ => rfl)
    replace h : kNon x = true := h
    unfold kNon at h
    split at h
    · exact PE.imp pe_non fun σ H Q q => te_pure (w := .dat .none) (fun _ _ => RepD.non) q
    · cases h
  | str s =>
    refine Snd.mk0 (fun top sc x X xf hs ht h => ?_) (fun _ _ _ => rfl) (fun _ _ _ => rfl) (fun _ _ _ => rfl) (fun _ _ _ => rfl) (fun _ _ _ => rfl) (fun _ _ _ => rfl) (fun _ _ _ => rfl)
    replace h : kStr s x = true := h
    unfold kStr at h
    split at h
    · obtain rfl := dec_of h
      exact PE.imp pe_str fun σ H Q q => te_pure (w := .dat (.str s)) (fun _ _ => RepD.str s) q
    · cases h
  | var k =>
    refine Snd.mk0 (fun top sc x X xf hs ht h => ?_) (fun _ _ _ => rfl) (fun _ _ _ => rfl) (fun _ _ _ => rfl) (fun _ _ _ => rfl) (fun _ _ _ => rfl) (fun _ _ _ => rfl) (fun _ _ _ => rfl)
    replace h : kVar C k sc x = true := h
    unfold kVar at h
    split at h
    · obtain ⟨h1, h2⟩ := and_of h
      exact pe_varE xf hs (dec_of (and_of h1).1) (and_of h1).2 h2
    · cases h
  | glb g =>
    refine Snd.mk0 (fun top sc x X xf hs ht h => ?_) (fun _ _ _ => rfl) (fun _ _ _ => rfl) (fun _ _ _ => rfl) (fun _ _ _ => rfl) (fun _ _ _ => rfl) (fun _ _ _ => rfl) (fun _ _ _ => rfl)
    replace h : kGlb C g sc x = true := h
    unfold kGlb at h
    split at h
    · obtain ⟨h1, h2⟩ := and_of h
      exact pe_glbE xf hs (dec_of (and_of h1).1) (and_of h1).2 h2
    · cases h
  | bin op a b iha ihb =>
    refine Snd.mk0 (fun top sc x X xf hs ht h => ?_) (fun _ _ _ => rfl) (fun _ _ _ => rfl) (fun _ _ _ => rfl) (fun _ _ _ => rfl) (fun _ _ _ => rfl) (fun _ _ _ => rfl) (fun _ _ _ => rfl)
    replace h : kBin op (okE C top a sc) (okE C top b sc) x = true := h
    unfold kBin at h
    split at h
    · obtain ⟨h1, h2⟩ := and_of h
      obtain rfl := dec_of (and_of h1).1
      exact PE.imp (pe_op (or_binW op) (iha.ee top sc _ X xf hs ht (and_of h1).2) (ihb.ee top sc _ X xf hs ht h2)) fun σ H Q q => te_bin q
    · cases h
  | neg a iha =>
    refine Snd.mk0 (fun top sc x X xf hs ht h => ?_) (fun _ _ _ => rfl) (fun _ _ _ => rfl) (fun _ _ _ => rfl) (fun _ _ _ => rfl) (fun _ _ _ => rfl) (fun _ _ _ => rfl) (fun _ _ _ => rfl)
    replace h : kNeg (okE C top a sc) x = true := h
    unfold kNeg at h
    split at h
    · exact PE.imp (pe_un or_neg (iha.ee top sc _ X xf hs ht h)) fun σ H Q q => te_un q
    · cases h
  | cmp op a b iha ihb =>
    refine Snd.mk0 (fun top sc x X xf hs ht h => ?_) (fun _ _ _ => rfl) (fun _ _ _ => rfl) (fun _ _ _ => rfl) (fun _ _ _ => rfl) (fun _ _ _ => rfl) (fun _ _ _ => rfl) (fun _ _ _ => rfl)
    replace h : kCmp op (okE C top a sc) (okE C top b sc) x = true := h
    unfold kCmp at h
    split at h
    · obtain ⟨h1, h2⟩ := and_of h
      obtain ⟨h3, h4⟩ := and_of h1
      obtain rfl := dec_of (and_of h3).1
      exact PE.imp (pe_cmpR (or_cmpW xf.hu op) (iha.ee top sc _ X xf hs ht (and_of h3).2) (ihb.ee top sc _ X xf hs ht h4) (not_of' h2)) fun σ H Q q => te_bin q
    · cases h
  | chn o1 o2 a b c iha ihb ihc =>
    refine Snd.mk0 (fun top sc x X xf hs ht h => ?_) (fun _ _ _ => rfl) (fun _ _ _ => rfl) (fun _ _ _ => rfl) (fun _ _ _ => rfl) (fun _ _ _ => rfl) (fun _ _ _ => rfl) (fun _ _ _ => rfl)
    replace h : kChn o1 o2 (okE C top a sc) (okE C top b sc) (okE C top c sc) x = true := h
    unfold kChn at h
    split at h
    · obtain ⟨h1, h2⟩ := and_of h
      obtain ⟨h3, h4⟩ := and_of h1
      obtain ⟨h5, h6⟩ := and_of h3
      obtain ⟨h7, h8⟩ := and_of h5
      obtain rfl := dec_of (and_of h7).1
      obtain rfl := dec_of (and_of h7).2
      exact PE.imp (pe_chain (or_cmpW xf.hu o1) (or_cmpW xf.hu o2) (iha.ee top sc _ X xf hs ht h8) (ihb.ee top sc _ X xf hs ht h6) (ihc.ee top sc _ X xf hs ht h4) (not_of' h2)) fun σ H Q q => te_chn q
    · cases h
  | and a b iha ihb =>
    refine Snd.mk0 (fun top sc x X xf hs ht h => ?_) (fun _ _ _ => rfl) (fun _ _ _ => rfl) (fun _ _ _ => rfl) (fun _ _ _ => rfl) (fun _ _ _ => rfl) (fun _ _ _ => rfl) (fun _ _ _ => rfl)
    replace h : kAnd (okE C top a sc) (okE C top b sc) x = true := h
    unfold kAnd at h
    split at h
    · obtain ⟨h1, h2⟩ := and_of h
      exact pe_andE (iha.ee top sc _ X xf hs ht h1) (ihb.ee top sc _ X xf hs ht h2)
    · cases h
  | or a b iha ihb =>
    refine Snd.mk0 (fun top sc x X xf hs ht h => ?_) (fun _ _ _ => rfl) (fun _ _ _ => rfl) (fun _ _ _ => rfl) (fun _ _ _ => rfl) (fun _ _ _ => rfl) (fun _ _ _ => rfl) (fun _ _ _ => rfl)
    replace h : kOr (okE C top a sc) (okE C top b sc) x = true := h
    unfold kOr at h
    split at h
    · obtain ⟨h1, h2⟩ := and_of h
      exact pe_orE (iha.ee top sc _ X xf hs ht h1) (ihb.ee top sc _ X xf hs ht h2)
    · cases h
  | not a iha =>
    refine Snd.mk0 (fun top sc x X xf hs ht h => ?_) (fun _ _ _ => rfl) (fun _ _ _ => rfl) (fun _ _ _ => rfl) (fun _ _ _ => rfl) (fun _ _ _ => rfl) (fun _ _ _ => rfl) (fun _ _ _ => rfl)
    replace h : kNot (okE C top a sc) x = true := h
    unfold kNot at h
    split at h
    · exact pe_notE (iha.ee top sc _ X xf hs ht h)
    · cases h
  | ifx t a b iht iha ihb =>
    refine Snd.mk0 (fun top sc x X xf hs ht h => ?_) (fun _ _ _ => rfl) (fun _ _ _ => rfl) (fun _ _ _ => rfl) (fun _ _ _ => rfl) (fun _ _ _ => rfl) (fun _ _ _ => rfl) (fun _ _ _ => rfl)
    replace h : kIfx (okT C top t sc) (okE C top a sc) (okE C top b sc) x = true := h
    unfold kIfx at h
    split at h
    · obtain ⟨h1, h2⟩ := and_of h
      exact pe_ifxE (iht.tt top sc _ X xf hs ht (and_of h1).1) (iha.ee top sc _ X xf hs ht (and_of h1).2) (ihb.ee top sc _ X xf hs ht h2)
    · cases h
  | one a iha =>
    refine ⟨fun top sc x X xf hs ht h => ?_, fun top sc x X xf hs ht h => ?_, fun top sc op y r pos X xf hs ht h => ?_, fun top sc x X xf hs ht h => (nomatch h), fun top sc x X xf hs ht h => (nomatch h), fun top sc x X xf hs ht h => (nomatch h), fun tg top sc x X xf hs ht h => (nomatch h), fun top sc x X xf hs ht h => (nomatch h), fun top sc x X xf hs ht h => (nomatch h), fun top sc ks vs pos X xf hs ht h => (nomatch h)⟩
    · replace h : kOne (okE C top a sc) x = true := h
      unfold kOne at h
      split at h
      · exact pe_one (iha.ee top sc _ X xf hs ht h)
      · cases h
    · replace h : kOne (okT C top a sc) x = true := h
      unfold kOne at h
      split at h
      · exact PW.pt (pw_oneE (iha.tt top sc _ X xf hs ht h))
      · cases h
    · replace h : kOne (okT C top a sc) (.BoolOp op (y :: r) pos) = true := h
      cases r with
      | nil => exact pw_oneE (iha.tt top sc _ X xf hs ht h)
      | cons _ _ => cases h
  | tup es ih =>
    refine Snd.mk0 (fun top sc x X xf hs ht h => ?_) (fun _ _ _ => rfl) (fun _ _ _ => rfl) (fun _ _ _ => rfl) (fun _ _ _ => rfl) (fun _ _ _ => rfl) (fun _ _ _ => rfl) (fun _ _ _ => rfl)
    replace h : kTup (okA C top es sc) x = true := h
    unfold kTup at h
    split at h
    · exact pe_tupE (ih.aa top sc _ X xf hs ht h)
    · cases h
  | lst m es ih =>
    refine Snd.mk0 (fun top sc x X xf hs ht h => ?_) (fun _ _ _ => rfl) (fun _ _ _ => rfl) (fun _ _ _ => rfl) (fun _ _ _ => rfl) (fun _ _ _ => rfl) (fun _ _ _ => rfl) (fun _ _ _ => rfl)
    replace h : kLst (okA C top es sc) x = true := h
    unfold kLst at h
    split at h
    · exact pe_lstE (ih.aa top sc _ X xf hs ht h)
    · cases h
  | idx a b iha ihb =>
    refine Snd.mk0 (fun top sc x X xf hs ht h => ?_) (fun _ _ _ => rfl) (fun _ _ _ => rfl) (fun _ _ _ => rfl) (fun _ _ _ => rfl) (fun _ _ _ => rfl) (fun _ _ _ => rfl) (fun _ _ _ => rfl)
    replace h : kIdx (okE C top a sc) (okE C top b sc) x = true := h
    unfold kIdx at h
    split at h
    · obtain ⟨h1, h2⟩ := and_of h
      exact PE.imp (pe_ix (ix_idxW (by have := xf.hu; omega)) (iha.ee top sc _ X xf hs ht (and_of h1).1) (ihb.ee top sc _ X xf hs ht (and_of h1).2) (ix_plain h2)) fun σ H Q q => te_bin q
    · cases h
  | slc a lo hi iha ihl ihh =>
    refine Snd.mk0 (fun top sc x X xf hs ht h => ?_) (fun _ _ _ => rfl) (fun _ _ _ => rfl) (fun _ _ _ => rfl) (fun _ _ _ => rfl) (fun _ _ _ => rfl) (fun _ _ _ => rfl) (fun _ _ _ => rfl)
    replace h : kSlc (okE C top a sc) (okO C top lo sc) (okO C top hi sc) x = true := h
    unfold kSlc at h
    split at h
    · obtain ⟨h1, h2⟩ := and_of h
      exact pe_slcE (iha.ee top sc _ X xf hs ht (and_of h1).1) (ihl.oo top sc _ X xf hs ht (and_of h1).2) (ihh.oo top sc _ X xf hs ht h2)
    · cases h
  | call f es ih =>
    refine Snd.mk0 (fun top sc x X xf hs ht h => ?_) (fun _ _ _ => rfl) (fun _ _ _ => rfl) (fun _ _ _ => rfl) (fun _ _ _ => rfl) (fun _ _ _ => rfl) (fun _ _ _ => rfl) (fun _ _ _ => rfl)
    replace h : kCall C f sc (okA C top es sc) x = true := h
    unfold kCall at h
    split at h
    · obtain ⟨h1, h2⟩ := and_of h
      obtain ⟨h3, h4⟩ := and_of h1
      exact pe_callF xf hs (dec_of (and_of h3).1) (and_of h3).2 h4 h2 (ih.aa top sc _ X xf hs ht h2)
    · cases h
  | fnv i y =>
    refine Snd.mk0 (fun top sc x X xf hs ht h => ?_) (fun _ _ _ => rfl) (fun _ _ _ => rfl) (fun _ _ _ => rfl) (fun _ _ _ => rfl) (fun _ _ _ => rfl) (fun _ _ _ => rfl) (fun _ _ _ => rfl)
    replace h : kFnv C i y sc x = true := h
    unfold kFnv at h
    split at h
    · obtain ⟨h1, h2⟩ := and_of h
      obtain ⟨h3, h4⟩ := and_of h1
      obtain ⟨h5, h6⟩ := and_of h3
      obtain rfl := dec_of h5
      exact pe_fnvE xf hs (dec_of h6) h4 h2
    · cases h
  | fld y o f iho =>
    refine Snd.mk0 (fun top sc x X xf hs ht h => ?_) (fun _ _ _ => rfl) (fun _ _ _ => rfl) (fun _ _ _ => rfl) (fun _ _ _ => rfl) (fun _ _ _ => rfl) (fun _ _ _ => rfl) (fun _ _ _ => rfl)
    replace h : kFld C y f (okE C top o sc) x = true := h
    unfold kFld at h
    split at h
    · obtain ⟨h1, h2⟩ := and_of h
      obtain ⟨h3, h4⟩ := and_of h1
      obtain ⟨h5, h6⟩ := and_of h3
      obtain rfl := dec_of h5
      exact pe_fldE xf (dec_of h6) h2 (iho.ee top sc _ X xf hs ht h4)
    · cases h
  | mcl y m i o es iho ihs =>
    refine Snd.mk0 (fun top sc x X xf hs ht h => ?_) (fun _ _ _ => rfl) (fun _ _ _ => rfl) (fun _ _ _ => rfl) (fun _ _ _ => rfl) (fun _ _ _ => rfl) (fun _ _ _ => rfl) (fun _ _ _ => rfl)
    replace h : kMcl C y m i (okE C top o sc) (okA C top es sc) x = true := h
    unfold kMcl at h
    split at h
    · obtain ⟨h1, h2⟩ := and_of h
      obtain ⟨h3, h4⟩ := and_of h1
      obtain ⟨h5, h6⟩ := and_of h3
      obtain ⟨h7, h8⟩ := and_of h5
      obtain ⟨h9, hA⟩ := and_of h7
      obtain ⟨hB, hC⟩ := and_of h9
      obtain rfl := dec_of hB
      exact pe_mclE xf hs (dec_of hC) h8 h6 (dec_of h4) h2 (iho.ee top sc _ X xf hs ht hA) (ihs.aa top sc _ X xf hs ht h2)
    · cases h
  | sset a ih =>
    refine Snd.mk0 (fun top sc x X xf hs ht h => ?_) (fun _ _ _ => rfl) (fun _ _ _ => rfl) (fun _ _ _ => rfl) (fun _ _ _ => rfl) (fun _ _ _ => rfl) (fun _ _ _ => rfl) (fun _ _ _ => rfl)
    replace h : kSset C sc (okE C top a sc) x = true := h
    unfold kSset at h
    split at h
    · obtain ⟨h1, h2⟩ := and_of h
      obtain ⟨h3, h4⟩ := and_of h1
      obtain ⟨h5, h6⟩ := and_of h3
      obtain ⟨h7, h8⟩ := and_of h5
      exact pe_ssetW xf hs (dec_of (and_of h7).1) (and_of h7).2 (dec_of h8) h6 h2 (ih.ee top sc _ X xf hs ht h4)
    · cases h
  | rpl a b iha ihb =>
    refine Snd.mk0 (fun top sc x X xf hs ht h => ?_) (fun _ _ _ => rfl) (fun _ _ _ => rfl) (fun _ _ _ => rfl) (fun _ _ _ => rfl) (fun _ _ _ => rfl) (fun _ _ _ => rfl) (fun _ _ _ => rfl)
    replace h : kBin .mul (okE C top a sc) (okE C top b sc) x = true := h
    unfold kBin at h
    split at h
    · obtain ⟨h1, h2⟩ := and_of h
      obtain rfl := dec_of (and_of h1).1
      exact PE.imp (pe_op or_rplW (iha.ee top sc _ X xf hs ht (and_of h1).2) (ihb.ee top sc _ X xf hs ht h2)) fun σ H Q q => te_bin q
    · cases h
  | ckw f es e ihs ihe =>
    refine Snd.mk0 (fun top sc x X xf hs ht h => ?_) (fun _ _ _ => rfl) (fun _ _ _ => rfl) (fun _ _ _ => rfl) (fun _ _ _ => rfl) (fun _ _ _ => rfl) (fun _ _ _ => rfl) (fun _ _ _ => rfl)
    replace h : kCkw C f sc (okA C top es sc) (okE C top e sc) x = true := h
    unfold kCkw at h
    split at h
    · obtain ⟨h1, h2⟩ := and_of h
      obtain ⟨h3, h4⟩ := and_of h1
      obtain ⟨h5, h6⟩ := and_of h3
      obtain ⟨h7, h8⟩ := and_of h5
      exact pe_ckwF xf hs (dec_of h7) h8 h6 h4 (ihs.aa top sc _ X xf hs ht h4) (ihe.ee top sc _ X xf hs ht h2)
    · cases h
  | callv k es ih =>
    refine Snd.mk0 (fun top sc x X xf hs ht h => ?_) (fun _ _ _ => rfl) (fun _ _ _ => rfl) (fun _ _ _ => rfl) (fun _ _ _ => rfl) (fun _ _ _ => rfl) (fun _ _ _ => rfl) (fun _ _ _ => rfl)
    replace h : kCallv C k sc (okA C top es sc) x = true := h
    unfold kCallv at h
    split at h
    · obtain ⟨h1, h2⟩ := and_of h
      obtain ⟨h3, h4⟩ := and_of h1
      obtain ⟨h5, h6⟩ := and_of h3
      exact pe_callvF xf hs (dec_of h5) h6 h4 h2 (ih.aa top sc _ X xf hs ht h2)
    · cases h
  | bi b m es ih =>
    refine Snd.mk0 (fun top sc x X xf hs ht h => ?_) (fun _ _ _ => rfl) (fun _ _ _ => rfl) (fun _ _ _ => rfl) (fun _ _ _ => rfl) (fun _ _ _ => rfl) (fun _ _ _ => rfl) (fun _ _ _ => rfl)
    replace h : kBi C b sc (okA C top es sc) x = true := h
    unfold kBi at h
    split at h
    · obtain ⟨h1, h2⟩ := and_of h
      exact pe_biW xf hs (dec_of (and_of h1).1) (and_of h1).2 h2 (ih.aa top sc _ X xf hs ht h2)
    · cases h
  | isi T a ih =>
    refine Snd.mk0 (fun top sc x X xf hs ht h => ?_) (fun _ _ _ => rfl) (fun _ _ _ => rfl) (fun _ _ _ => rfl) (fun _ _ _ => rfl) (fun _ _ _ => rfl) (fun _ _ _ => rfl) (fun _ _ _ => rfl)
    replace h : kIsi C T sc (okE C top a sc) x = true := h
    unfold kIsi at h
    split at h
    · obtain ⟨h1, h2⟩ := and_of h
      obtain ⟨h3, h4⟩ := and_of h1
      obtain ⟨h5, h6⟩ := and_of h3
      obtain ⟨h7, h8⟩ := and_of h5
      exact pe_isiW xf hs (dec_of (and_of h7).1) (and_of h7).2 (dec_of h8) h6 h2 (ih.ee top sc _ X xf hs ht h4)
    · cases h
  | mth m o es iho ihs =>
    refine Snd.mk0 (fun top sc x X xf hs ht h => ?_) (fun _ _ _ => rfl) (fun _ _ _ => rfl) (fun _ _ _ => rfl) (fun _ _ _ => rfl) (fun _ _ _ => rfl) (fun _ _ _ => rfl) (fun _ _ _ => rfl)
    replace h : kMth m (okE C top o sc) (okA C top es sc) x = true := h
    unfold kMth at h
    split at h
    · obtain ⟨h1, h2⟩ := and_of h
      obtain ⟨h3, h4⟩ := and_of h1
      obtain ⟨h5, h6⟩ := and_of h3
      obtain ⟨h7, h8⟩ := and_of h5
      obtain ⟨h9, hA⟩ := and_of h7
      obtain rfl := dec_of h9
      exact pe_mthW xf hs h8 h6 h4 h2 (iho.ee top sc _ X xf hs ht hA) (ihs.aa top sc _ X xf hs ht h2)
    · cases h
  | trev a ih =>
    refine Snd.mk0 (fun top sc x X xf hs ht h => ?_) (fun _ _ _ => rfl) (fun _ _ _ => rfl) (fun _ _ _ => rfl) (fun _ _ _ => rfl) (fun _ _ _ => rfl) (fun _ _ _ => rfl) (fun _ _ _ => rfl)
    replace h : kTrev C sc (okE C top a sc) x = true := h
    unfold kTrev at h
    split at h
    · obtain ⟨h1, h2⟩ := and_of h
      obtain ⟨h3, h4⟩ := and_of h1
      obtain ⟨h5, h6⟩ := and_of h3
      obtain ⟨h7, h8⟩ := and_of h5
      exact pe_trevW xf hs (dec_of (and_of h7).1) (and_of h7).2 (dec_of h8) h6 h2 (ih.ee top sc _ X xf hs ht h4)
    · cases h
  | lrng m a ih =>
    refine Snd.mk0 (fun top sc x X xf hs ht h => ?_) (fun _ _ _ => rfl) (fun _ _ _ => rfl) (fun _ _ _ => rfl) (fun _ _ _ => rfl) (fun _ _ _ => rfl) (fun _ _ _ => rfl) (fun _ _ _ => rfl)
    replace h : kLrng C sc (okE C top a sc) x = true := h
    unfold kLrng at h
    split at h
    · obtain ⟨h1, h2⟩ := and_of h
      obtain ⟨h3, h4⟩ := and_of h1
      obtain ⟨h5, h6⟩ := and_of h3
      obtain ⟨h7, h8⟩ := and_of h5
      exact pe_lrngW xf hs (dec_of (and_of h7).1) (and_of h7).2 (dec_of h8) h6 h2 (ih.ee top sc _ X xf hs ht h4)
    · cases h
  | comp m vs elt tg it tst ihe ihg ihi iht =>
    refine Snd.mk0 (fun top sc x X xf hs ht h => ?_) (fun _ _ _ => rfl) (fun _ _ _ => rfl) (fun _ _ _ => rfl) (fun _ _ _ => rfl) (fun _ _ _ => rfl) (fun _ _ _ => rfl) (fun _ _ _ => rfl)
    replace h : kComp C vs tg sc (okI C top it sc) (okG C false tg) (okTs C false tst) (okE C false elt) x = true := h
    unfold kComp at h
    split at h
    · obtain ⟨h1, h2⟩ := and_of h
      obtain ⟨h3, h4⟩ := and_of h1
      obtain ⟨h5, h6⟩ := and_of h3
      obtain ⟨h7, h8⟩ := and_of h5
      obtain ⟨h9, hA⟩ := and_of h7
      subst hs
      have nf : false = true → ∀ {X' : Cx} (y : Str), X'.fn y = true := fun z => nomatch z
      exact pe_compE xf (and_of h9).1 (and_of h9).2 hA (ihi.ii _ top _ _ X xf rfl ht h8) (fun X' xf' hs' _ => ihg.gg false _ _ X' xf' hs' (fun z => nf z) h6) (fun X' xf' hs' _ => iht.ts false _ _ X' xf' hs' (fun z => nf z) h4) (fun X' xf' hs' _ => ihe.ee false _ _ X' xf' hs' (fun z => nf z) h2)
    · cases h
  | dct es ih =>
    refine Snd.mk0 (fun top sc x X xf hs ht h => ?_) (fun _ _ _ => rfl) (fun _ _ _ => rfl) (fun _ _ _ => rfl) (fun _ _ _ => rfl) (fun _ _ _ => rfl) (fun _ _ _ => rfl) (fun _ _ _ => rfl)
    replace h : kDct (okP C top es sc) x = true := h
    unfold kDct at h
    split at h
    · obtain ⟨h1, h2⟩ := and_of h
      obtain ⟨h3, h4⟩ := and_of h1
      obtain ⟨h5, h6⟩ := and_of h3
      exact pe_dctE h5 h6 (dec_of h4) (dec_of h2) (ih.pp top sc _ _ _ X xf hs ht h5)
    · cases h
  | dm1 m o a iho iha =>
    refine Snd.mk0 (fun top sc x X xf hs ht h => ?_) (fun _ _ _ => rfl) (fun _ _ _ => rfl) (fun _ _ _ => rfl) (fun _ _ _ => rfl) (fun _ _ _ => rfl) (fun _ _ _ => rfl) (fun _ _ _ => rfl)
    replace h : kDm1 m (okE C top o sc) (okE C top a sc) x = true := h
    unfold kDm1 at h
    split at h
    · obtain ⟨h1, h2⟩ := and_of h
      obtain ⟨h3, h4⟩ := and_of h1
      obtain ⟨h5, h6⟩ := and_of h3
      obtain ⟨h7, h8⟩ := and_of h5
      obtain ⟨h9, hA⟩ := and_of h7
      obtain rfl := dec_of h9
      exact pe_dm1E (by have := xf.hu; omega) (iho.ee top sc _ X xf hs ht hA) (iha.ee top sc _ X xf hs ht h4) h8 h6 h2
    · cases h
  | dm2 m o a b iho iha ihb =>
    refine Snd.mk0 (fun top sc x X xf hs ht h => ?_) (fun _ _ _ => rfl) (fun _ _ _ => rfl) (fun _ _ _ => rfl) (fun _ _ _ => rfl) (fun _ _ _ => rfl) (fun _ _ _ => rfl) (fun _ _ _ => rfl)
    replace h : kDm2 m (okE C top o sc) (okE C top a sc) (okE C top b sc) x = true := h
    unfold kDm2 at h
    split at h
    · obtain ⟨h1, h2⟩ := and_of h
      obtain ⟨h3, h4⟩ := and_of h1
      obtain ⟨h5, h6⟩ := and_of h3
      obtain ⟨h7, h8⟩ := and_of h5
      obtain ⟨h9, hA⟩ := and_of h7
      obtain ⟨hB, hC⟩ := and_of h9
      obtain ⟨hD, hE⟩ := and_of hB
      obtain rfl := dec_of hD
      exact pe_dm2E (by have := xf.hu; omega) (iho.ee top sc _ X xf hs ht hE) (iha.ee top sc _ X xf hs ht h8) (ihb.ee top sc _ X xf hs ht h4) hC hA h6 h2
    · cases h
  | dcp vs kx vx tg it tst ihk ihv ihg ihi iht =>
    refine Snd.mk0 (fun top sc x X xf hs ht h => ?_) (fun _ _ _ => rfl) (fun _ _ _ => rfl) (fun _ _ _ => rfl) (fun _ _ _ => rfl) (fun _ _ _ => rfl) (fun _ _ _ => rfl) (fun _ _ _ => rfl)
    replace h : kDcp C vs tg sc (okI C top it sc) (okG C false tg) (okTs C false tst) (okE C false kx) (okE C false vx) x = true := h
    unfold kDcp at h
    split at h
    · obtain ⟨h1, h2⟩ := and_of h
      obtain ⟨h1', h2'⟩ := and_of h1
      obtain ⟨h3, h4⟩ := and_of h1'
      obtain ⟨h5, h6⟩ := and_of h3
      obtain ⟨h7, h8⟩ := and_of h5
      obtain ⟨h9, hA⟩ := and_of h7
      subst hs
      have nf : false = true → ∀ {X' : Cx} (y : Str), X'.fn y = true := fun z => nomatch z
      exact pe_dcpE xf (and_of h9).1 (and_of h9).2 hA (ihi.ii _ top _ _ X xf rfl ht h8) (fun X' xf' hs' _ => ihg.gg false _ _ X' xf' hs' (fun z => nf z) h6) (fun X' xf' hs' _ => iht.ts false _ _ X' xf' hs' (fun z => nf z) h4) (fun X' xf' hs' _ => ihk.ee false _ _ X' xf' hs' (fun z => nf z) h2') (fun X' xf' hs' _ => ihv.ee false _ _ X' xf' hs' (fun z => nf z) h2)
    · cases h
  | lck k e ih =>
    refine Snd.mk0 (fun top sc x X xf hs ht h => ?_) (fun _ _ _ => rfl) (fun _ _ _ => rfl) (fun _ _ _ => rfl) (fun _ _ _ => rfl) (fun _ _ _ => rfl) (fun _ _ _ => rfl) (fun _ _ _ => rfl)
    exact pe_lckE (ih.ee top sc x X xf hs ht h)
  | cdx g e ih =>
    refine Snd.mk0 (fun top sc x X xf hs ht h => ?_) (fun _ _ _ => rfl) (fun _ _ _ => rfl) (fun _ _ _ => rfl) (fun _ _ _ => rfl) (fun _ _ _ => rfl) (fun _ _ _ => rfl) (fun _ _ _ => rfl)
    replace h : kCdx C g sc (okE C top e sc) x = true := h
    unfold kCdx at h
    split at h
    · obtain ⟨h1, h2⟩ := and_of h
      obtain ⟨h3, h4⟩ := and_of h1
      obtain ⟨h5, h6⟩ := and_of h3
      exact pe_cdxE xf hs (dec_of (and_of h5).1) (and_of h5).2 h6 h2 (ih.ee top sc _ X xf hs ht h4)
    · cases h
  | cdi b g e ih =>
    refine Snd.mk0 (fun top sc x X xf hs ht h => ?_) (fun _ _ _ => rfl) (fun _ _ _ => rfl) (fun _ _ _ => rfl) (fun _ _ _ => rfl) (fun _ _ _ => rfl) (fun _ _ _ => rfl) (fun _ _ _ => rfl)
    replace h : kCdi C b g sc (okE C top e sc) x = true := h
    unfold kCdi at h
    split at h
    · obtain ⟨h1, h2⟩ := and_of h
      obtain ⟨h3, h4⟩ := and_of h1
      obtain ⟨h5, h6⟩ := and_of h3
      obtain ⟨h7, h8⟩ := and_of h5
      exact pe_cdiE xf hs (dec_of (and_of h7).1) (dec_of (and_of h7).2) h8 h6 (not_of' h2) (ih.ee top sc _ X xf hs ht h4)
    · cases h
  | tcdi b g e ih =>
    refine Snd.mkT (fun top sc x X xf hs ht h => ?_) (fun top sc op y r pos X xf hs ht h => ?_) (fun _ _ _ => rfl) (fun _ _ _ => rfl) (fun _ _ _ => rfl) (fun _ _ _ => rfl) (fun _ _ _ => rfl) (fun _ _ _ => rfl) (fun _ _ _ => rfl)
    · replace h : kCdi C b g sc (okE C top e sc) x = true := h
      unfold kCdi at h
      split at h
      · obtain ⟨h1, h2⟩ := and_of h
        obtain ⟨h3, h4⟩ := and_of h1
        obtain ⟨h5, h6⟩ := and_of h3
        obtain ⟨h7, h8⟩ := and_of h5
        exact pt_cdiE xf hs (dec_of (and_of h7).1) (dec_of (and_of h7).2) h8 h6 (not_of' h2) (ih.ee top sc _ X xf hs ht h4) (fun σ H Q q => tt_test q)
      · cases h
    · cases h
  | tv e ih =>
    refine Snd.mkT (fun top sc x X xf hs ht h => ?_) (fun top sc op y r pos X xf hs ht h => ?_) (fun _ _ _ => rfl) (fun _ _ _ => rfl) (fun _ _ _ => rfl) (fun _ _ _ => rfl) (fun _ _ _ => rfl) (fun _ _ _ => rfl) (fun _ _ _ => rfl)
    · replace h : kTv (okE C top e sc) x = true := h
      obtain ⟨h1, h2⟩ := and_of h
      exact pt_tvE (ih.ee top sc _ X xf hs ht h1) h2
    · have h2 := (and_of (show (okE C top e sc (.BoolOp op (y :: r) pos) && plainT (.BoolOp op (y :: r) pos)) = true from h)).2
      cases h2
  | tcmp op a b iha ihb =>
    refine Snd.mkT (fun top sc x X xf hs ht h => ?_) (fun top sc op y r pos X xf hs ht h => ?_) (fun _ _ _ => rfl) (fun _ _ _ => rfl) (fun _ _ _ => rfl) (fun _ _ _ => rfl) (fun _ _ _ => rfl) (fun _ _ _ => rfl) (fun _ _ _ => rfl)
    · replace h : kCmp op (okE C top a sc) (okE C top b sc) x = true := h
      unfold kCmp at h
      split at h
      · obtain ⟨h1, h2⟩ := and_of h
        obtain ⟨h3, h4⟩ := and_of h1
        obtain rfl := dec_of (and_of h3).1
        exact PT.imp (pt_cmpR (or_cmpW xf.hu op) (iha.ee top sc _ X xf hs ht (and_of h3).2) (ihb.ee top sc _ X xf hs ht h4) (not_of' h2)) fun σ H Q q => te_bin (tt_test q)
      · cases h
    · cases h
  | tchn o1 o2 a b c iha ihb ihc =>
    refine Snd.mkT (fun top sc x X xf hs ht h => ?_) (fun top sc op y r pos X xf hs ht h => ?_) (fun _ _ _ => rfl) (fun _ _ _ => rfl) (fun _ _ _ => rfl) (fun _ _ _ => rfl) (fun _ _ _ => rfl) (fun _ _ _ => rfl) (fun _ _ _ => rfl)
    · replace h : kChn o1 o2 (okE C top a sc) (okE C top b sc) (okE C top c sc) x = true := h
      unfold kChn at h
      split at h
      · obtain ⟨h1, h2⟩ := and_of h
        obtain ⟨h3, h4⟩ := and_of h1
        obtain ⟨h5, h6⟩ := and_of h3
        obtain ⟨h7, h8⟩ := and_of h5
        obtain rfl := dec_of (and_of h7).1
        obtain rfl := dec_of (and_of h7).2
        exact PT.imp (pt_chain (or_cmpW xf.hu o1) (or_cmpW xf.hu o2) (iha.ee top sc _ X xf hs ht h8) (ihb.ee top sc _ X xf hs ht h6) (ihc.ee top sc _ X xf hs ht h4) (not_of' h2)) fun σ H Q q => te_chn (tt_test q)
      · cases h
    · cases h
  | tand a b iha ihb =>
    refine Snd.mkT (fun top sc x X xf hs ht h => ?_) (fun top sc op y r pos X xf hs ht h => ?_) (fun _ _ _ => rfl) (fun _ _ _ => rfl) (fun _ _ _ => rfl) (fun _ _ _ => rfl) (fun _ _ _ => rfl) (fun _ _ _ => rfl) (fun _ _ _ => rfl)
    · replace h : kAnd (okT C top a sc) (okT C top b sc) x = true := h
      unfold kAnd at h
      split at h
      · obtain ⟨h1, h2⟩ := and_of h
        exact PW.pt (pw_andE (iha.tt top sc _ X xf hs ht h1) (ihb.ww top sc _ _ _ _ X xf hs ht h2))
      · cases h
    · replace h : kAnd (okT C top a sc) (okT C top b sc) (.BoolOp op (y :: r) pos) = true := h
      cases r with
      | nil => cases op <;> cases h
      | cons z r =>
        cases op with
        | And =>
          obtain ⟨h1, h2⟩ := and_of h
          exact pw_andE (iha.tt top sc _ X xf hs ht h1) (ihb.ww top sc _ _ _ _ X xf hs ht h2)
        | Or => cases h
  | tor a b iha ihb =>
    refine Snd.mkT (fun top sc x X xf hs ht h => ?_) (fun top sc op y r pos X xf hs ht h => ?_) (fun _ _ _ => rfl) (fun _ _ _ => rfl) (fun _ _ _ => rfl) (fun _ _ _ => rfl) (fun _ _ _ => rfl) (fun _ _ _ => rfl) (fun _ _ _ => rfl)
    · replace h : kOr (okT C top a sc) (okT C top b sc) x = true := h
      unfold kOr at h
      split at h
      · obtain ⟨h1, h2⟩ := and_of h
        exact PW.pt (pw_orE (iha.tt top sc _ X xf hs ht h1) (ihb.ww top sc _ _ _ _ X xf hs ht h2))
      · cases h
    · replace h : kOr (okT C top a sc) (okT C top b sc) (.BoolOp op (y :: r) pos) = true := h
      cases r with
      | nil => cases op <;> cases h
      | cons z r =>
        cases op with
        | Or =>
          obtain ⟨h1, h2⟩ := and_of h
          exact pw_orE (iha.tt top sc _ X xf hs ht h1) (ihb.ww top sc _ _ _ _ X xf hs ht h2)
        | And => cases h
  | tnot a iha =>
    refine Snd.mkT (fun top sc x X xf hs ht h => ?_) (fun top sc op y r pos X xf hs ht h => ?_) (fun _ _ _ => rfl) (fun _ _ _ => rfl) (fun _ _ _ => rfl) (fun _ _ _ => rfl) (fun _ _ _ => rfl) (fun _ _ _ => rfl) (fun _ _ _ => rfl)
    · replace h : kNot (okT C top a sc) x = true := h
      unfold kNot at h
      split at h
      · exact pt_notE (iha.tt top sc _ X xf hs ht h)
      · cases h
    · cases h
  | nil =>
    refine ⟨fun top sc x X xf hs ht h => (nomatch h), fun top sc x X xf hs ht h => (nomatch h), fun top sc op y r pos X xf hs ht h => (nomatch h), fun top sc x X xf hs ht h => ?_, fun top sc x X xf hs ht h => ?_, fun top sc x X xf hs ht h => ?_, fun tg top sc x X xf hs ht h => (nomatch h), fun top sc x X xf hs ht h => (nomatch h), fun top sc x X xf hs ht h => ?_, fun top sc ks vs pos X xf hs ht h => ?_⟩
    · cases x with
      | nil => exact pa_nilE
      | cons _ _ => cases h
    · cases x with
      | none => exact po_noneE
      | some _ => cases h
    · cases x with
      | nil => exact pts_nilE
      | cons _ _ => cases h
    · cases x with
      | nil => exact pgs_nilE
      | cons _ _ => cases h
    · replace h : kPnil ks vs = true := h
      unfold kPnil at h
      split at h
      · exact pp_nilE
      · cases h
  | cons e es ihe ihs =>
    refine ⟨fun top sc x X xf hs ht h => (nomatch h), fun top sc x X xf hs ht h => (nomatch h), fun top sc op y r pos X xf hs ht h => (nomatch h), fun top sc x X xf hs ht h => ?_, fun top sc x X xf hs ht h => ?_, fun top sc x X xf hs ht h => ?_, fun tg top sc x X xf hs ht h => (nomatch h), fun top sc x X xf hs ht h => (nomatch h), fun top sc x X xf hs ht h => ?_, fun top sc ks vs pos X xf hs ht h => (nomatch h)⟩
    · cases x with
      | nil => cases h
      | cons y ys =>
        obtain ⟨h1, h2⟩ := and_of (show (okE C top e sc y && noStar y && okA C top es sc ys) = true from h)
        exact pa_consE (ihe.ee top sc _ X xf hs ht (and_of h1).1) (ihs.aa top sc _ X xf hs ht h2) (and_of h1).2
    · cases x with
      | none => cases h
      | some y => exact po_someE (ihe.ee top sc y X xf hs ht h)
    · cases x with
      | nil => cases h
      | cons y ys =>
        cases ys with
        | nil => exact pts_oneE (ihe.tt top sc y X xf hs ht h)
        | cons _ _ => cases h
    · cases x with
      | nil => cases h
      | cons y ys =>
        obtain ⟨h1, h2⟩ := and_of (show (okG C top e sc y && noStar y && okGs C top es sc ys) = true from h)
        exact pgs_consE (and_of h1).2 (ihe.gg top sc _ X xf hs ht (and_of h1).1) (ihs.gs top sc _ X xf hs ht h2)
  | prs k v es ihk ihv ihs =>
    refine ⟨fun top sc x X xf hs ht h => (nomatch h), fun top sc x X xf hs ht h => (nomatch h), fun top sc op y r pos X xf hs ht h => (nomatch h), fun top sc x X xf hs ht h => (nomatch h), fun top sc x X xf hs ht h => (nomatch h), fun top sc x X xf hs ht h => (nomatch h), fun tg top sc x X xf hs ht h => (nomatch h), fun top sc x X xf hs ht h => (nomatch h), fun top sc x X xf hs ht h => (nomatch h), fun top sc ks vs pos X xf hs ht h => ?_⟩
    replace h : kPrs (okE C top k sc) (okE C top v sc) (okP C top es sc) ks vs = true := h
    unfold kPrs at h
    split at h
    · obtain ⟨h1, h2⟩ := and_of h
      exact pp_consE (ihk.ee top sc _ X xf hs ht (and_of h1).1) (ihv.ee top sc _ X xf hs ht (and_of h1).2) (ihs.pp top sc _ _ pos X xf hs ht h2)
    · cases h
  | isq e ih =>
    refine Snd.mkI (fun tg top sc x X xf hs ht h => ?_) (fun _ _ _ => rfl) (fun _ _ _ => rfl) (fun _ _ _ => rfl) (fun _ _ _ => rfl) (fun _ _ _ => rfl) (fun _ _ _ => rfl) (fun _ _ _ => rfl)
    exact pi_isqE (ih.ee top sc x X xf hs ht h)
  | irg1 a ih =>
    refine Snd.mkI (fun tg top sc x X xf hs ht h => ?_) (fun _ _ _ => rfl) (fun _ _ _ => rfl) (fun _ _ _ => rfl) (fun _ _ _ => rfl) (fun _ _ _ => rfl) (fun _ _ _ => rfl) (fun _ _ _ => rfl)
    replace h : kRg1 C sc "range" (okE C top a sc) x = true := h
    unfold kRg1 at h
    split at h
    · obtain ⟨h1, h2⟩ := and_of h
      obtain ⟨h3, h4⟩ := and_of h1
      exact pi_irg1E xf hs (dec_of (and_of h3).1) (and_of h3).2 h2 (ih.ee top sc _ X xf hs ht h4)
    · cases h
  | irg2 a b iha ihb =>
    refine Snd.mkI (fun tg top sc x X xf hs ht h => ?_) (fun _ _ _ => rfl) (fun _ _ _ => rfl) (fun _ _ _ => rfl) (fun _ _ _ => rfl) (fun _ _ _ => rfl) (fun _ _ _ => rfl) (fun _ _ _ => rfl)
    replace h : kRg2 C sc (okE C top a sc) (okE C top b sc) x = true := h
    unfold kRg2 at h
    split at h
    · obtain ⟨h1, h2⟩ := and_of h
      obtain ⟨h3, h4⟩ := and_of h1
      obtain ⟨h5, h6⟩ := and_of h3
      obtain ⟨h7, h8⟩ := and_of h5
      exact pi_irg2E xf hs (dec_of (and_of h7).1) (and_of h7).2 h6 h2 (iha.ee top sc _ X xf hs ht h8) (ihb.ee top sc _ X xf hs ht h4)
    · cases h
  | irr2 a b iha ihb =>
    refine Snd.mkI (fun tg top sc x X xf hs ht h => ?_) (fun _ _ _ => rfl) (fun _ _ _ => rfl) (fun _ _ _ => rfl) (fun _ _ _ => rfl) (fun _ _ _ => rfl) (fun _ _ _ => rfl) (fun _ _ _ => rfl)
    replace h : kRr2 C sc (okE C top a sc) (okE C top b sc) x = true := h
    unfold kRr2 at h
    split at h
    · obtain ⟨h1, h2⟩ := and_of h
      obtain ⟨h3, h4⟩ := and_of h1
      obtain ⟨h5, h6⟩ := and_of h3
      obtain ⟨h7, h8⟩ := and_of h5
      obtain ⟨h9, hA⟩ := and_of h7
      obtain ⟨hB, hC⟩ := and_of h9
      obtain ⟨hD, hE⟩ := and_of hB
      exact pi_irr2E xf hs (dec_of hD) hE (dec_of hC) hA h6 h2 (iha.ee top sc _ X xf hs ht h8) (ihb.ee top sc _ X xf hs ht h4)
    · cases h
  | irg3 a b c iha ihb ihc =>
    refine Snd.mkI (fun tg top sc x X xf hs ht h => ?_) (fun _ _ _ => rfl) (fun _ _ _ => rfl) (fun _ _ _ => rfl) (fun _ _ _ => rfl) (fun _ _ _ => rfl) (fun _ _ _ => rfl) (fun _ _ _ => rfl)
    replace h : kRg3 C sc (okE C top a sc) (okE C top b sc) (okE C top c sc) x = true := h
    unfold kRg3 at h
    split at h
    · obtain ⟨h1, h2⟩ := and_of h
      obtain ⟨h3, h4⟩ := and_of h1
      obtain ⟨h5, h6⟩ := and_of h3
      obtain ⟨h7, h8⟩ := and_of h5
      obtain ⟨h9, hA⟩ := and_of h7
      obtain ⟨hB, hC⟩ := and_of h9
      exact pi_irg3E xf hs (dec_of (and_of hB).1) (and_of hB).2 hA h6 h2 (iha.ee top sc _ X xf hs ht hC) (ihb.ee top sc _ X xf hs ht h8) (ihc.ee top sc _ X xf hs ht h4)
    · cases h
  | irev a ih =>
    refine Snd.mkI (fun tg top sc x X xf hs ht h => ?_) (fun _ _ _ => rfl) (fun _ _ _ => rfl) (fun _ _ _ => rfl) (fun _ _ _ => rfl) (fun _ _ _ => rfl) (fun _ _ _ => rfl) (fun _ _ _ => rfl)
    replace h : kRg1 C sc "reversed" (okE C top a sc) x = true := h
    unfold kRg1 at h
    split at h
    · obtain ⟨h1, h2⟩ := and_of h
      obtain ⟨h3, h4⟩ := and_of h1
      exact pi_irevE xf hs (dec_of (and_of h3).1) (and_of h3).2 h2 (ih.ee top sc _ X xf hs ht h4)
    · cases h
  | idk e ih =>
    refine Snd.mkI (fun tg top sc x X xf hs ht h => ?_) (fun _ _ _ => rfl) (fun _ _ _ => rfl) (fun _ _ _ => rfl) (fun _ _ _ => rfl) (fun _ _ _ => rfl) (fun _ _ _ => rfl) (fun _ _ _ => rfl)
    exact pi_idkE (ih.ee top sc x X xf hs ht h)
  | tnm k =>
    refine Snd.mkG (fun top sc x X xf hs ht h => ?_) (fun _ _ _ => rfl) (fun _ _ _ => rfl) (fun _ _ _ => rfl) (fun _ _ _ => rfl) (fun _ _ _ => rfl) (fun _ _ _ => rfl) (fun _ _ _ => rfl)
    replace h : kNm C top k sc x = true := h
    unfold kNm at h
    split at h
    · exact pg_nmE xf hs ht (dec_of (and_of h).1) (and_of h).2
    · cases h
  | tsub o i iho ihi =>
    refine Snd.mkG (fun top sc x X xf hs ht h => ?_) (fun _ _ _ => rfl) (fun _ _ _ => rfl) (fun _ _ _ => rfl) (fun _ _ _ => rfl) (fun _ _ _ => rfl) (fun _ _ _ => rfl) (fun _ _ _ => rfl)
    replace h : kIdx (okE C top o sc) (okE C top i sc) x = true := h
    unfold kIdx at h
    split at h
    · obtain ⟨h1, h2⟩ := and_of h
      exact pg_subE (by have := xf.hu; omega) h2 (iho.ee top sc _ X xf hs ht (and_of h1).1) (ihi.ee top sc _ X xf hs ht (and_of h1).2)
    · cases h
  | tfld y o f iho =>
    refine Snd.mkG (fun top sc x X xf hs ht h => ?_) (fun _ _ _ => rfl) (fun _ _ _ => rfl) (fun _ _ _ => rfl) (fun _ _ _ => rfl) (fun _ _ _ => rfl) (fun _ _ _ => rfl) (fun _ _ _ => rfl)
    replace h : kFld C y f (okE C top o sc) x = true := h
    unfold kFld at h
    split at h
    · obtain ⟨h1, h2⟩ := and_of h
      obtain ⟨h3, h4⟩ := and_of h1
      obtain ⟨h5, h6⟩ := and_of h3
      obtain rfl := dec_of h5
      exact pg_fldE xf (dec_of h6) (iho.ee top sc _ X xf hs ht h4)
    · cases h
  | ttup ts ih =>
    refine Snd.mkG (fun top sc x X xf hs ht h => ?_) (fun _ _ _ => rfl) (fun _ _ _ => rfl) (fun _ _ _ => rfl) (fun _ _ _ => rfl) (fun _ _ _ => rfl) (fun _ _ _ => rfl) (fun _ _ _ => rfl)
    replace h : kTup (okGs C top ts sc) x = true := h
    unfold kTup at h
    split at h
    · exact pg_tupE xf h (ih.gs top sc _ X xf hs ht h)
    · cases h
end
end MP
set_option Elab.async false
set_option linter.all false
set_option maxRecDepth 100000
set_option maxHeartbeats 8000000
/-! Statements: the look, and what they do. -/
namespace MP
open PySem PySem.Spec PyProof.Rows L2 RT

def noComp : Expr → Bool
  | .ListComp .. => false
  | .SetComp .. => false
  | .DictComp .. => false
  | _ => true
def isNameE : Expr → Bool
  | .Name .. => true
  | _ => false
def isTupE : Expr → Bool
  | .Tuple .. => true
  | .List .. => true
  | _ => false
/-- no stores in the other order: the value is no tuple, or the target none, or some target is no name -/
def swapFree : Expr → Expr → Bool
  | .Tuple ts _ _, .Tuple _ _ _ => ts.any fun t => !isNameE t
  | .List ts _, .Tuple _ _ _ => ts.any fun t => !isNameE t
  | _, _ => true
theorem filterMap_short {α β : Type} (f : α → Option β) : ∀ (l : List α), (∃ a ∈ l, f a = none) → (l.filterMap f).length < l.length
  | [], ⟨a, h, _⟩ => absurd h (by simp)
  | x :: l, ⟨a, h, e⟩ => by
    have le := List.length_filterMap_le f l
    rcases List.mem_cons.mp h with rfl | h
    · rw [List.filterMap_cons, e]; simp only [List.length_cons]; omega
    · have := filterMap_short f l ⟨a, h, e⟩
      rw [List.filterMap_cons]
      split
      · simp only [List.length_cons]; omega
      · simp only [List.length_cons]; omega
theorem swap_short {ts vs : List Expr} {a b : Nat} {p q : Pos} {env : Env} (h : (ts.any fun t => !isNameE t) = true) : swappedStores [.Tuple ts a p] (.Tuple vs b q) env = pure none := by
  have hlen : ¬ ((ts.filterMap fun
            | .Name id pos => if env.kindOf id == some .local && pos.line == (ts.head?.map (·.pos.line)).getD 0 then some id else none
            | _ => none).length = ts.length) := by
          obtain ⟨t, ht, hn⟩ := List.any_eq_true.mp h
          have := filterMap_short (fun x : Expr => match x with
            | .Name id pos => if env.kindOf id == some .local && pos.line == (ts.head?.map (·.pos.line)).getD 0 then some id else none
            | _ => none) ts ⟨t, ht, by cases t <;> first | rfl | cases hn⟩
          omega
  unfold swappedStores
  dsimp only
  split
  · rfl
  · split
    · rfl
    · split
      · rfl
      · rename_i h3
        exact absurd (show (_ != _ || _) = true from by rw [Bool.or_eq_true]; exact .inl (bne_iff_ne.mpr hlen)) h3
/-- two names that are not both locals of the frame -/
theorem swap_cell {x y : Str} {px py : Pos} {vs : List Expr} {a b : Nat} {p q : Pos} {env : Env} (h : env.scope.names.lookup x ≠ some .local ∨ env.scope.names.lookup y ≠ some .local) : swappedStores [.Tuple [.Name x px, .Name y py] a p] (.Tuple vs b q) env = pure none := by
  generalize hts : [Expr.Name x px, Expr.Name y py] = ts
  have miss : ∃ t ∈ ts, (match t with
      | .Name id pos => if env.kindOf id == some .local && pos.line == (ts.head?.map (·.pos.line)).getD 0 then some id else none
      | _ => none) = none := by
    have no : ∀ {z : Str} {pz : Pos}, env.scope.names.lookup z ≠ some .local → (if env.kindOf z == some .local && pz.line == (ts.head?.map (·.pos.line)).getD 0 then some z else none) = none := fun {z pz} hz => by
      have e : (env.kindOf z == some NameKind.local) = false := by
        cases q : env.kindOf z == some NameKind.local with
        | false => rfl
        | true =>
          have q2 : env.kindOf z = some NameKind.local := by simpa using q
          exact absurd q2 hz
      rw [e, Bool.false_and]
      rfl
    subst hts
    rcases h with h | h
    · exact ⟨.Name x px, List.mem_cons_self, no h⟩
    · exact ⟨.Name y py, by simp, no h⟩
  have short := filterMap_short (fun z : Expr => match z with
    | .Name id pos => if env.kindOf id == some .local && pos.line == (ts.head?.map (·.pos.line)).getD 0 then some id else none
    | _ => none) ts miss
  unfold swappedStores
  dsimp only
  split
  · rfl
  · split
    · rfl
    · split
      · rfl
      · rename_i h3
        refine absurd (show (_ != _ || _) = true from by
          rw [Bool.or_eq_true]
          refine .inl (bne_iff_ne.mpr fun z => ?_)
          have z2 : (ts.filterMap fun
            | .Name id pos => if env.kindOf id == some .local && pos.line == (ts.head?.map (·.pos.line)).getD 0 then some id else none
            | _ => none).length = ts.length := z
          omega) h3
theorem swap_shortL {ts vs : List Expr} {b : Nat} {p q : Pos} {env : Env} (h : (ts.any fun t => !isNameE t) = true) : swappedStores [.List ts p] (.Tuple vs b q) env = pure none := swap_short (a := 0) (b := b) (p := p) (q := q) h
theorem swap_two {x y : Str} {px py pt pt2 : Pos} {a b : Expr} {k k2 : Nat} {env : Env} (h0 : env.scope.kind = .function) (h1 : env.scope.names.lookup x = some .local) (h2 : env.scope.names.lookup y = some .local) (h3 : px.line = py.line) (h4 : x ≠ y) (h5 : noStar a = true) (h6 : noStar b = true)
    (h7 : [a, b].all (foldedForSure 8) = false) (h8 : [a, b].all (constantsAlone 8) = false) : swappedStores [.Tuple [.Name x px, .Name y py] k pt] (.Tuple [a, b] k2 pt2) env = pure (some [x, y]) := by
  have hb : env.blockKind = .function := by unfold Env.blockKind; rw [h0]; rfl
  have k3 : (env.kindOf x == some .local) = true := by rw [show env.kindOf x = some .local from h1]; rfl
  have k4 : (env.kindOf y == some .local) = true := by rw [show env.kindOf y = some .local from h2]; rfl
  have k5 : (py.line == px.line) = true := by rw [h3]; exact beq_self_eq_true _
  have e4 : ([x, y] : List Str).eraseDups = [x, y] := by simp [List.eraseDups_cons, Ne.symm h4]
  unfold swappedStores
  simp only [List.filterMap_cons, List.filterMap_nil, List.head?_cons, Option.map_some, Option.getD_some, Expr.pos, k3, k4, k5, beq_self_eq_true, Bool.and_self, if_true, e4, h7, h8, hb]
  split
  · rename_i h
    exact absurd h (by simp)
  · split
    · rename_i h
      exfalso
      obtain ⟨t, ht, hf⟩ := List.any_eq_true.mp h
      have hn : noStar t = true := by
        rcases List.mem_cons.mp ht with rfl | ht
        · exact h5
        · rw [List.mem_singleton.mp ht]; exact h6
      clear h ht h7 h8
      cases t <;> first | (cases hf; done) | (exact absurd hn (by simp [noStar]))
    · rfl
theorem swap_three {x y z : Str} {px py pz pt pt2 : Pos} {a b c : Expr} {k k2 : Nat} {env : Env} (h0 : env.scope.kind = .function) (h1 : env.scope.names.lookup x = some .local) (h2 : env.scope.names.lookup y = some .local) (h2' : env.scope.names.lookup z = some .local) (h3 : px.line = py.line) (h3' : px.line = pz.line)
    (h4 : x ≠ y) (h4' : x ≠ z) (h4'' : y ≠ z) (h5 : noStar a = true) (h6 : noStar b = true) (h6' : noStar c = true)
    (h7 : [a, b, c].all (foldedForSure 8) = false) (h8 : [a, b, c].all (constantsAlone 8) = false) : swappedStores [.Tuple [.Name x px, .Name y py, .Name z pz] k pt] (.Tuple [a, b, c] k2 pt2) env = pure (some [x, y, z]) := by
  have hb : env.blockKind = .function := by unfold Env.blockKind; rw [h0]; rfl
  have k3 : (env.kindOf x == some .local) = true := by rw [show env.kindOf x = some .local from h1]; rfl
  have k4 : (env.kindOf y == some .local) = true := by rw [show env.kindOf y = some .local from h2]; rfl
  have k4' : (env.kindOf z == some .local) = true := by rw [show env.kindOf z = some .local from h2']; rfl
  have k5 : (py.line == px.line) = true := by rw [h3]; exact beq_self_eq_true _
  have k5' : (pz.line == px.line) = true := by rw [h3']; exact beq_self_eq_true _
  have e4 : ([x, y, z] : List Str).eraseDups = [x, y, z] := by simp [List.eraseDups_cons, Ne.symm h4, Ne.symm h4', Ne.symm h4'']
  unfold swappedStores
  simp only [List.filterMap_cons, List.filterMap_nil, List.head?_cons, Option.map_some, Option.getD_some, Expr.pos, k3, k4, k4', k5, k5', beq_self_eq_true, Bool.and_self, if_true, e4, h7, h8, hb]
  split
  · rename_i h
    exact absurd h (by simp)
  · split
    · rename_i h
      exfalso
      obtain ⟨t, ht, hf⟩ := List.any_eq_true.mp h
      have hn : noStar t = true := by
        rcases List.mem_cons.mp ht with rfl | ht
        · exact h5
        · rcases List.mem_cons.mp ht with rfl | ht
          · exact h6
          · rw [List.mem_singleton.mp ht]; exact h6'
      clear h ht h7 h8
      cases t <;> first | (cases hf; done) | (exact absurd hn (by simp [noStar]))
    · rfl
theorem swapFree_none {tg e : Expr} {env : Env} (h : swapFree tg e = true) : swappedStores [tg] e env = pure none := by
  cases tg with
  | Tuple ts a p => cases e <;> first | rfl | exact swap_short h
  | List ts p => cases e <;> first | rfl | exact swap_shortL h
  | _ => cases e <;> rfl
theorem sw_comp0 {e : Expr} {tg : Option Expr} {ln : Nat} {env : Env} (h : noComp e = true) : swapsWith e tg ln env = pure false := by
  cases e <;> first | rfl | (exact absurd h (by simp [noComp]))
theorem sw_other {e tg : Expr} {ln : Nat} {env : Env} (h : isNameE tg = false) : swapsWith e (some tg) ln env = pure false := by
  cases e <;> first | rfl | (cases tg <;> first | rfl | (exact absurd h (by simp [isNameE])))
/-- a comprehension that is stored by its own frame -/
def swB (sc : Scope) (y : Str) (py : Pos) (scope : Scope) (pos : Pos) : Bool :=
  decide (sc.names.lookup y = some .local) && (py.line == pos.line) && !(scope.names.any fun (n, k) => n == y && (k == .local || k == .cell))
theorem sw_cell {elt : Expr} {gs : List Comprehension} {scope : Scope} {pos py : Pos} {y : Str} {l : Nat} {env : Env} (hk : env.scope.kind = .function) (hy : env.scope.names.lookup y = some .cell) :
    swapsWith (.ListComp elt gs scope pos) (some (.Name y py)) l env = pure false := by
  have ky : env.kindOf y = some .cell := hy
  unfold swapsWith
  simp only [ky]
  have : (some NameKind.cell == some NameKind.local) = false := rfl
  rw [this, Bool.and_false, Bool.false_and, Bool.false_and]

theorem sw_cellD {kx vx : Expr} {gs : List Comprehension} {scope : Scope} {pos py : Pos} {y : Str} {l : Nat} {env : Env} (hk : env.scope.kind = .function) (hy : env.scope.names.lookup y = some .cell) :
    swapsWith (.DictComp kx vx gs scope pos) (some (.Name y py)) l env = pure false := by
  have ky : env.kindOf y = some .cell := hy
  unfold swapsWith
  simp only [ky]
  have : (some NameKind.cell == some NameKind.local) = false := rfl
  rw [this, Bool.and_false, Bool.false_and, Bool.false_and]
/-! ### the look -/
def isCompE : Expr → Bool
  | .ListComp .. => true
  | _ => false
/-- target = value: not the stores in the other order -/
def asgB (sc : Scope) (tg x : Expr) : Bool := noStar tg && swapFree tg x && (match tg, x with
  | .Name y py, .ListComp _ _ scope pos => decide (sc.kind = .function) && (swB sc y py scope pos || decide (sc.names.lookup y = some .cell))
  | .Name y py, .DictComp _ _ _ scope pos => decide (sc.kind = .function) && (swB sc y py scope pos || decide (sc.names.lookup y = some .cell))
  | .Name _ _, x => noComp x
  | _, _ => true)
def kExpr (p : Expr → Bool) : Stmt → Bool | .Expr x _ => p x && noComp x | _ => false
def kSet (sc : Scope) (p q : Expr → Bool) : Stmt → Bool | .Assign [tg] x _ => p tg && q x && asgB sc tg x | _ => false
def kPar (C : Ck) (ks : List Nat) (sc : Scope) (q : List Expr → Bool) : Stmt → Bool
  | .Assign [.Tuple [.Name x px, .Name y py] _ _] (.Tuple [a, b] _ _) _ => (match ks with
    | [i, j] => decide (sc.kind = .function) && decide (C.N[i]? = some x) && decide (C.N[j]? = some y) && decide (i ≠ j) && decide (sc.names.lookup x = some .local) && decide (sc.names.lookup y = some .local) && decide (px.line = py.line) &&
        !([a, b].all (foldedForSure 8)) && !([a, b].all (constantsAlone 8)) && noStar a && noStar b && q [a, b]
    | _ => false)
  | .Assign [.Tuple [.Name x px, .Name y py, .Name z pz] _ _] (.Tuple [a, b, c] _ _) _ => (match ks with
    | [i, j, k] => decide (sc.kind = .function) && decide (C.N[i]? = some x) && decide (C.N[j]? = some y) && decide (C.N[k]? = some z) && decide (i ≠ j) && decide (i ≠ k) && decide (j ≠ k) && decide (sc.names.lookup x = some .local) &&
        decide (sc.names.lookup y = some .local) && decide (sc.names.lookup z = some .local) && decide (px.line = py.line) && decide (px.line = pz.line) &&
        !([a, b, c].all (foldedForSure 8)) && !([a, b, c].all (constantsAlone 8)) && noStar a && noStar b && noStar c && q [a, b, c]
    | _ => false)
  | _ => false
/-- a, b = e1, e2 where a, b are not both locals of the frame -/
def kParC (C : Ck) (ks : List Nat) (sc : Scope) (q : List Expr → Bool) : Stmt → Bool
  | .Assign [.Tuple [.Name x _, .Name y _] _ _] (.Tuple [a, b] _ _) _ => (match ks with
    | [i, j] => decide (C.N[i]? = some x) && decide (C.N[j]? = some y) && decide (i ≠ j) && locB true sc x && locB true sc y && decide (sc.names.lookup x ≠ some .local ∨ sc.names.lookup y ≠ some .local) && noStar a && noStar b && q [a, b]
    | _ => false)
  | _ => false
def kAug (C : Ck) (k : Nat) (op : BO) (sc : Scope) (p : Expr → Bool) : Stmt → Bool
  | .AugAssign (.Name x _) o e _ => decide (C.N[k]? = some x) && locB true sc x && (decide (op = .add) || decide (op = .sub)) && decide (o = opOf op) && p e
  | _ => false
def kIf (t : Expr → Bool) (p q : List Stmt → Bool) : Stmt → Bool | .If c a b _ => t c && p a && q b | _ => false
def kWhl (t : Expr → Bool) (p : List Stmt → Bool) : Stmt → Bool | .While c a [] _ => t c && p a | _ => false
def kForF (fs : List (Nat × Str)) (g : Expr → Bool) (q : List Expr → Bool) (p : List Stmt → Bool) : Stmt → Bool | .For tg (.Tuple es _ _) a [] _ => g tg && q es && decide (fs.length ≤ 8) && p a | _ => false
def kFor (g i : Expr → Bool) (p : List Stmt → Bool) : Stmt → Bool | .For tg it a [] _ => g tg && i it && noSet it && p a | _ => false
def kRet (p : Expr → Bool) : Stmt → Bool | .Return (some x) _ => p x | _ => false
def kRetN : Stmt → Bool | .Return none _ => true | _ => false
def kBrk : Stmt → Bool | .Break _ => true | _ => false
def kCt : Stmt → Bool | .Continue _ => true | _ => false
def kPass : Stmt → Bool | .Pass _ => true | _ => false
def kDel (p q : Expr → Bool) : Stmt → Bool | .Delete [.Subscript x y _] _ => p x && q y | _ => false
def kNilS : List Stmt → Bool | [] => true | _ => false
def kConsS (p : Stmt → Bool) (q : List Stmt → Bool) : List Stmt → Bool | s :: r => p s && q r | [] => false
def isLckE : E → Bool | .lck _ _ => true | _ => false
def isFrz : St' → Bool | .frz _ => true | _ => false
mutual
def okS (C : Ck) (sc : Scope) : St' → Stmt → Bool
  | .expr e, x => kExpr (okE C true e sc) x
  | .set t e, x => !isLckE e && kSet sc (okG C true t sc) (okE C true e sc) x
  | .par ks es, x => kPar C ks sc (okA C true es sc) x || kParC C ks sc (okA C true es sc) x
  | .aug k op e, x => kAug C k op sc (okE C true e sc) x
  | .cond t a b, x => kIf (okT C true t sc) (okSs C sc a) (okSs C sc b) x
  | .whl t b, x => kWhl (okT C true t sc) (okSs C sc b) x
  | .forF k fs b, x => kForF fs (okG C true (.tnm k) sc) (okA C true (fnE fs) sc) (okSs C sc b) x
  | .for tg it b, x => kFor (okG C true tg sc) (okI C true it sc) (okSs C sc b) x
  | .ret e, x => kRet (okE C true e sc) x
  | .retN, x => kRetN x
  | .brk, x => kBrk x
  | .ct, x => kCt x
  | .pass, x => kPass x
  | .del o i, x => kDel (okE C true o sc) (okE C true i sc) x
  | .lckS _ s, x => okS C sc s x
  | _, _ => false
def okSs (C : Ck) (sc : Scope) : St' → List Stmt → Bool
  | .nil, x => kNilS x
  | .kp s, x => okSs C sc s x
  | .cons s r, x => if isFrz s then okSs C sc r x else kConsS (okS C sc s) (okSs C sc r) x
  | _, _ => false
end

/-! ### what statements do -/
def EndsOf (K : PySem.W.Frag) (D : Ends) : Fl × Loc → Hp → Mu → Sto → Prop := fun r H' μ' _ => match r.1 with
  | .nx => ∀ σ', LocRep K H' μ' r.2 σ' → D.nx σ' H'
  | .brk => ∀ σ', LocRep K H' μ' r.2 σ' → D.bk σ' H'
  | .ct => ∀ σ', LocRep K H' μ' r.2 σ' → D.ct σ' H'
  | .ret w => ∀ v, RepW K H' μ' w v → D.rt v H'
def TSof (K : PySem.W.Frag) (U : Wx) (r : Loc → Sto → Rs (Fl × Loc)) : TS := fun D σ H => ∃ l S μ, LocRep K H μ l σ ∧ StoRep K H S μ ∧ PostE K U H μ (r l S) (EndsOf K D)
section
variable {C : Ck} {G : Nat → Option W} {F : Fun'} {n : Nat}
theorem ps_exprE {X : Cx} {x : Expr} {pos : Pos} {r : Loc → Sto → Rs W} (h : noComp x = true) (ha : PE X x (TEof X.K U0 r)) : PS X (.Expr x pos) (TSof X.K U0 fun l S => (r l S).bind fun _ S1 => .ok (.nx, l) S1) :=
  PS.imp (ps_expr ha (sw_comp0 h)) fun D σ H q => by
    obtain ⟨l, S, μ, hl, hS, hp⟩ := q
    exact ⟨l, S, μ, hl, hS, hp.bind.imp fun w H1 μ1 S1 e1 s1 q1 v rv => q1 H1 μ1 (Ext.refl _ _) s1 σ (hl.up e1)⟩
theorem ts_asg {K : PySem.W.Frag} {r : Loc → Sto → Rs W} {rg : W → Loc → Sto → Rs Loc} {ts : List Nat} {D : Ends} {σ : L2.St} {H : Hp} (q : TSof K U0 (fun l S => (r l S).bind fun w S1 => (rg w l S1).bind fun l1 S2 => .ok (.nx, l1) S2) D σ H) :
    tAsg (TEof K U0 r) (TGof K U0 ts rg) D σ H := by
  obtain ⟨l, S, μ, hl, hS, hp⟩ := q
  exact ⟨l, S, μ, hl, hS, hp.bind.imp fun w H1 μ1 S1 e1 s1 q1 v rv => ⟨l, S1, μ1, w, hl.up e1, s1, rv, q1.bind.imp fun l1 H2 μ2 S2 e2 s2 q2 σ2 k2 _ => q2 H2 μ2 (Ext.refl _ _) s2 σ2 k2⟩⟩
theorem sw_trueD {kx vx : Expr} {gs : List Comprehension} {scope : Scope} {pos py : Pos} {y : Str} {l : Nat} {env : Env} (hk : env.scope.kind = .function) (hy : env.scope.names.lookup y = some .local) (hl : (py.line == pos.line) = true)
    (ha : (scope.names.any fun (n, k) => n == y && (k == .local || k == .cell)) = false) : swapsWith (.DictComp kx vx gs scope pos) (some (.Name y py)) l env = pure true := by
  have k1 : env.kindOf y = some .local := hy
  have k2 : env.blockKind = .function := by unfold Env.blockKind; rw [hk]; rfl
  unfold swapsWith
  simp only [k2, k1, ha, Expr.pos, hl]
  rfl
/-- y = {k: v for ..}, stored by the comprehension's own frame -/
theorem ps_setDc {X : Cx} {i : Nat} {y : Str} {py : Pos} {kx vx tg iter : Expr} {ifs : List Expr} {scope : Scope} {own : List (Str × Nat)} {pos spos : Pos} {wi : TI} {g : TG} {tt : TT} {tk tv : TE} (hc : X.calm = true) (nd : X.N.Nodup) (hy : X.N[i]? = some y) (hl : X.env.scope.names.lookup y = some .local)
    (sw : swapsWith (.DictComp kx vx [⟨tg, iter, ifs, 0⟩] scope pos) (some (.Name y py)) spos.line X.env = pure true) (hi : PI X tg iter wi) (ok : BlkOk X.N X.env.scope scope own)
    (hg : ∀ (s : Shared) (H : Hp) (C : Addr) (cl : List (Str × Addr)) (fp : List Addr), PG (X.blk s H scope (compEnvC scope cl C X.env) fp) tg g) (ht : ∀ (s : Shared) (H : Hp) (C : Addr) (cl : List (Str × Addr)) (fp : List Addr), PTs (X.blk s H scope (compEnvC scope cl C X.env) fp) ifs tt)
    (hk : ∀ (s : Shared) (H : Hp) (C : Addr) (cl : List (Str × Addr)) (fp : List Addr), PE (X.blk s H scope (compEnvC scope cl C X.env) fp) kx tk)
    (hv : ∀ (s : Shared) (H : Hp) (C : Addr) (cl : List (Str × Addr)) (fp : List Addr), PE (X.blk s H scope (compEnvC scope cl C X.env) fp) vx tv) (hs : ∀ x, foldedSetIterable iter X.env x = pure x) :
    PS X (.Assign [.Name y py] (.DictComp kx vx [⟨tg, iter, ifs, 0⟩] scope pos) spos) (tAsg (tDc wi g tt tk tv (own.map (·.2))) (gName i)) := by
  refine ⟨fun pins s σ H D I h => ?_⟩
  rw [exec_Assign_Name_used _ _ _ _ sw]
  refine wpAny_bind (wpAny_standAt (wpAny_bind (wpAny_bind (thn (dc_core (use := some (assign (.Name y py) X.env)) (Qf := fun _ t => SP X pins D .next t) (Q := fun x J => gName i x σ J D.nx) hc nd I hi ok hg ht hk hv hs h fun Dr Cf t m J IJ q hm f => ?_) fun _ t z => wpAny_pure (wpAny_pure z)))))
  obtain ⟨f0, f1, f2, f3, f4, f5⟩ := f
  refine wpAny_assign_Name (store_ok2 (v := V.ref Dr) IJ nd hy (.inl hl) rfl (fun t2 I2 ⟨a, sb, ha⟩ => ?_) (.inr hl))
  have ne : Cf ≠ a := by
    rcases ha with z | z
    · rw [z]; exact f1
    · exact fun e => f4 y a z e.symm
  exact ⟨m, hm.sameBut sb ne, fun h3 sb3 => ⟨_, J, I2.turned (t' := t2.toks) (fun b o hb e => (sb3.2 b hb).trans e) f0 f1 f3 f4 f5, q⟩⟩
theorem ps_setE {X : Cx} {tg x : Expr} {pos : Pos} {t e : E} {sc : Scope} (hlk : isLckE e = false) (xf : XF X C G F n) (hs : X.env.scope = sc) (ht : ∀ y, X.fn y = true) (h1 : okG C true t sc tg = true) (h2 : okE C true e sc x = true) (h3 : asgB sc tg x = true) :
    PS X (.Assign [tg] x pos) (TSof X.K U0 (exM G F (.set t e))) := by
  have pg := (snd C G F n t).gg true sc tg X xf hs (fun _ => ht) h1
  have pe := (snd C G F n e).ee true sc x X xf hs (fun _ => ht) h2
  obtain ⟨h4, h5⟩ := and_of h3
  obtain ⟨h6, h7⟩ := and_of h4
  have one : ((assignEach [tg] X.env).map (·.2)) = [assign tg X.env] := by rw [asg_cons h6] <;> rfl
  have gen : swapsWith x (some tg) pos.line X.env = pure false → PS X (.Assign [tg] x pos) (TSof X.K U0 (exM G F (.set t e))) := fun hsw =>
    PS.imp (ps_asg pe pg hsw (swapFree_none h7) one) fun D σ H q => ts_asg q
  cases tg with
  | Name y py =>
    cases x with
    | ListComp elt gens scope pos' =>
      have h5 : (decide (sc.kind = .function) && (swB sc y py scope pos' || decide (sc.names.lookup y = some .cell))) = true := h5
      obtain ⟨hk, h5⟩ := and_of h5
      have hk := dec_of hk
      rw [← hs] at hk
      cases hsb : swB sc y py scope pos' with
      | false =>
        rw [hsb, Bool.false_or] at h5
        exact gen (sw_cell hk (by rw [hs]; exact dec_of h5))
      | true =>
        unfold swB at hsb
        obtain ⟨b1, b2⟩ := and_of hsb
        obtain ⟨b3, b4⟩ := and_of b1
        have hloc : X.env.scope.names.lookup y = some .local := by rw [hs]; exact dec_of b3
        have hsw : swapsWith (.ListComp elt gens scope pos') (some (.Name y py)) pos.line X.env = pure true := sw_true hk hloc b4 (not_of' b2)
        -- the target is a plain name
        cases t with
        | tnm k =>
          have h1 : kNm C true k sc (.Name y py) = true := h1
          obtain ⟨n1, n2⟩ := and_of h1
          cases e with
          | comp m vs elt' tg' it' tst' =>
            replace h2 : kComp C vs tg' sc (okI C true it' sc) (okG C false tg') (okTs C false tst') (okE C false elt') (.ListComp elt gens scope pos') = true := h2
            unfold kComp at h2
            split at h2
            · rename_i eltE tgE itE ifs scope0 pos0 heq
              cases heq
              obtain ⟨h1', h2'⟩ := and_of h2
              obtain ⟨h3', h4'⟩ := and_of h1'
              obtain ⟨h5', h6'⟩ := and_of h3'
              obtain ⟨h7', h8'⟩ := and_of h5'
              obtain ⟨h9', hA'⟩ := and_of h7'
              subst hs
              have nf : false = true → ∀ {X' : Cx} (y : Str), X'.fn y = true := fun z => nomatch z
              have own : (ownOf C vs).map (·.2) = vs := by
                unfold ownOf
                rw [List.map_map]
                exact List.map_id vs
              refine PS.imp (ps_setLc (i := k) (own := ownOf C vs) (g := TGof X.K U0 (tslots tg') (asg G F tg')) (tt := TBof X.K U0 (evt G F tst')) (te := TEof X.K U0 (ev G F elt')) xf.calm (by rw [xf.hN]; exact xf.nd) (by rw [xf.hN]; exact dec_of n1) hloc hsw
                ((snd C G F n it').ii _ true _ _ X xf rfl (fun _ => ht) h8') (blkOk_by (by rw [xf.hN]; exact (and_of h9').1))
                (fun s H c cl fp => (snd C G F n tg').gg false _ _ _ (xf.blk s H scope _ fp) rfl (fun z => nf z) h6')
                (fun s H c cl fp => (snd C G F n tst').ts false _ _ _ (xf.blk s H scope _ fp) rfl (fun z => nf z) h4')
                (fun s H c cl fp => (snd C G F n elt').ee false _ _ _ (xf.blk s H scope _ fp) rfl (fun z => nf z) h2') (noset_fold hA')) fun D σ H q => ?_
              obtain ⟨l, S, μ, hl, hS, hp⟩ := q
              replace hp : PostE X.K U0 H μ ((ev G F (.comp m vs elt' tg' it' tst') l S).bind fun w S1 => (asg G F (.tnm k) w l S1).bind fun l1 S2 => .ok (.nx, l1) S2) (EndsOf X.K D) := hp
              have hp2 : PostE X.K U0 H μ (ev G F (.comp m vs elt' tg' it' tst') l S) (VP X.K fun v H' => D.nx (σ.set k (some v)) H') := hp.bind.imp fun w H1 μ1 S1 e1 s1 q1 v rv => q1 H1 μ1 (Ext.refl _ _) s1 _ ((hl.up e1).set k rv)
              have hp3 := PostE.bind (r := evi G F it' l S) hp2
              rw [own]
              refine ⟨l, S, μ, hl, hS, hp3.imp fun ds H1 μ1 S1 e1 s1 q1 J A wk hA Dr hD => ?_⟩
              exact lc_turns wk (hl.up e1) s1 hA hD (fun k hk => dec_of (List.all_eq_true.mp (and_of h9').2 k hk)) q1
            · cases h2
          | lck _ _ => cases hlk
          | _ => cases h2
        | _ => cases h1
    | SetComp _ _ _ _ => exact absurd h5 (by simp [noComp])
    | DictComp kx' vx' gens scope pos' =>
      have h5 : (decide (sc.kind = .function) && (swB sc y py scope pos' || decide (sc.names.lookup y = some .cell))) = true := h5
      obtain ⟨hk, h5⟩ := and_of h5
      have hk := dec_of hk
      rw [← hs] at hk
      cases hsb : swB sc y py scope pos' with
      | false =>
        rw [hsb, Bool.false_or] at h5
        exact gen (sw_cellD hk (by rw [hs]; exact dec_of h5))
      | true =>
      unfold swB at hsb
      obtain ⟨b1, b2⟩ := and_of hsb
      obtain ⟨b3, b4⟩ := and_of b1
      have hloc : X.env.scope.names.lookup y = some .local := by rw [hs]; exact dec_of b3
      have hsw : swapsWith (.DictComp kx' vx' gens scope pos') (some (.Name y py)) pos.line X.env = pure true := sw_trueD hk hloc b4 (not_of' b2)
      cases t with
      | tnm k =>
        have h1 : kNm C true k sc (.Name y py) = true := h1
        obtain ⟨n1, n2⟩ := and_of h1
        cases e with
        | dcp vs ke ve tg' it' tst' =>
          replace h2 : kDcp C vs tg' sc (okI C true it' sc) (okG C false tg') (okTs C false tst') (okE C false ke) (okE C false ve) (.DictComp kx' vx' gens scope pos') = true := h2
          unfold kDcp at h2
          split at h2
          · rename_i kE vE tgE itE ifs scope0 pos0 heq
            cases heq
            obtain ⟨h1', h2'⟩ := and_of h2
            obtain ⟨h1'', h2''⟩ := and_of h1'
            obtain ⟨h3', h4'⟩ := and_of h1''
            obtain ⟨h5', h6'⟩ := and_of h3'
            obtain ⟨h7', h8'⟩ := and_of h5'
            obtain ⟨h9', hA'⟩ := and_of h7'
            subst hs
            have nf : false = true → ∀ {X' : Cx} (y : Str), X'.fn y = true := fun z => nomatch z
            have own : (ownOf C vs).map (·.2) = vs := by
              unfold ownOf
              rw [List.map_map]
              exact List.map_id vs
            refine PS.imp (ps_setDc (i := k) (own := ownOf C vs) (g := TGof X.K U0 (tslots tg') (asg G F tg')) (tt := TBof X.K U0 (evt G F tst')) (tk := TEof X.K U0 (ev G F ke)) (tv := TEof X.K U0 (ev G F ve)) xf.calm (by rw [xf.hN]; exact xf.nd) (by rw [xf.hN]; exact dec_of n1) hloc hsw
              ((snd C G F n it').ii _ true _ _ X xf rfl (fun _ => ht) h8') (blkOk_by (by rw [xf.hN]; exact (and_of h9').1))
              (fun s H c cl fp => (snd C G F n tg').gg false _ _ _ (xf.blk s H scope _ fp) rfl (fun z => nf z) h6')
              (fun s H c cl fp => (snd C G F n tst').ts false _ _ _ (xf.blk s H scope _ fp) rfl (fun z => nf z) h4')
              (fun s H c cl fp => (snd C G F n ke).ee false _ _ _ (xf.blk s H scope _ fp) rfl (fun z => nf z) h2'')
              (fun s H c cl fp => (snd C G F n ve).ee false _ _ _ (xf.blk s H scope _ fp) rfl (fun z => nf z) h2') (noset_fold hA')) fun D σ H q => ?_
            obtain ⟨l, S, μ, hl, hS, hp⟩ := q
            replace hp : PostE X.K U0 H μ ((ev G F (.dcp vs ke ve tg' it' tst') l S).bind fun w S1 => (asg G F (.tnm k) w l S1).bind fun l1 S2 => .ok (.nx, l1) S2) (EndsOf X.K D) := hp
            have hp2 : PostE X.K U0 H μ (ev G F (.dcp vs ke ve tg' it' tst') l S) (VP X.K fun v H' => D.nx (σ.set k (some v)) H') := hp.bind.imp fun w H1 μ1 S1 e1 s1 q1 v rv => q1 H1 μ1 (Ext.refl _ _) s1 _ ((hl.up e1).set k rv)
            have hp3 := PostE.bind (r := evi G F it' l S) hp2
            rw [own]
            refine ⟨l, S, μ, hl, hS, hp3.imp fun ds H1 μ1 S1 e1 s1 q1 J A wk hA Dr hD => ?_⟩
            exact dc_turns wk (hl.up e1) s1 hA hD (fun k hk => dec_of (List.all_eq_true.mp (and_of h9').2 k hk)) q1
          · cases h2
        | lck _ _ => cases hlk
        | _ => cases h2
      | _ => cases h1
    | _ => exact gen rfl
  | _ => exact gen (sw_other rfl)
end
end MP
set_option Elab.async false
set_option linter.all false
set_option maxRecDepth 100000
set_option maxHeartbeats 8000000
/-! Statements, blocks, defs. -/
namespace MP
open PySem PySem.Spec PyProof.Rows L2 RT

section
variable {C : Ck} {G : Nat → Option W} {F : Fun'} {n : Nat}
theorem ps_parC {X : Cx} {sc : Scope} {ks : List Nat} {es : E} {st : Stmt} (xf : XF X C G F n) (hs : X.env.scope = sc) (ht : ∀ y, X.fn y = true) (h : kParC C ks sc (okA C true es sc) st = true) : PS X st (TSof X.K U0 (exM G F (.par ks es))) := by
  unfold kParC at h
  split at h
  · split at h
    · rename_i x px y py _ _ a b _ _ pos ks i j
      obtain ⟨h, hq⟩ := and_of h
      obtain ⟨h, h6⟩ := and_of h
      obtain ⟨h, h5⟩ := and_of h
      obtain ⟨h, hno⟩ := and_of h
      obtain ⟨h, hy⟩ := and_of h
      obtain ⟨h, hx⟩ := and_of h
      obtain ⟨h, hij⟩ := and_of h
      obtain ⟨hi, hj⟩ := and_of h
      subst hs
      have pa := (snd C G F n es).aa true _ [a, b] X xf rfl (fun _ => ht) hq
      have lc : ∀ {z : Str}, locB true X.env.scope z = true → L2.Loc X.env.scope z := fun {z} hz => by
        unfold locB at hz
        split at hz
        · exact .inl (by assumption)
        · exact .inr (by assumption)
        · cases hz
      have g1 := lc hx
      have g2 := lc hy
      refine PS.imp (ps_asg (pe_tup pa) (pg_tup xf.calm (pgs_cons (pg_name (by rw [xf.hN]; exact xf.nd) (by rw [xf.hN]; exact dec_of hi) g1 (.inl (ht x))) (pgs_cons (pg_name (by rw [xf.hN]; exact xf.nd) (by rw [xf.hN]; exact dec_of hj) g2 (.inl (ht y))) pgs_nil))) (by rfl) (swap_cell (dec_of hno)) (by rfl)) fun D σ H q => ?_
      obtain ⟨l, S, μ, hl, hS, hp⟩ := q
      replace hp : PostE X.K U0 H μ ((evs G F es l S).bind fun ws S1 => (opt (setPar l [i, j] ws) S1).bind fun l1 S2 => .ok (.nx, l1) S2) (EndsOf X.K D) := hp
      refine ⟨l, S, μ, hl, hS, hp.bind.imp fun ws H1 μ1 S1 e1 s1 q1 vs rv => ?_⟩
      cases rv with
      | nil => exact q1.elim
      | @cons w v _ _ r1 t1 =>
        cases t1 with
        | nil => exact q1.elim
        | @cons w2 v2 _ _ r2 t2 =>
          cases t2 with
          | cons _ _ => exact q1.elim
          | nil =>
            refine ⟨(by decide : 2 ≤ sizeLine), fun p hp => ⟨p, [v, v2], rfl, SqT.of upd_same, rfl, v, [v2], rfl, v2, [], rfl, rfl, ?_⟩⟩
            have ef := Ext.fresh (μ := μ1) (o := HO.tup [v, v2]) hp
            exact q1 _ μ1 ef (s1.fresh hp) _ ((((hl.up e1).up ef).set i (r1.up ef)).set j (r2.up ef))
    · cases h
  · cases h
theorem ps_parE {X : Cx} {sc : Scope} {ks : List Nat} {es : E} {st : Stmt} (xf : XF X C G F n) (hs : X.env.scope = sc) (ht : ∀ y, X.fn y = true) (h : kPar C ks sc (okA C true es sc) st = true) : PS X st (TSof X.K U0 (exM G F (.par ks es))) := by
  unfold kPar at h
  split at h
  · split at h
    · rename_i x px y py _ _ a b _ _ _ ks i j
      obtain ⟨h, hq⟩ := and_of h
      obtain ⟨h, h6⟩ := and_of h
      obtain ⟨h, h5⟩ := and_of h
      obtain ⟨h, h8⟩ := and_of h
      obtain ⟨h, h7⟩ := and_of h
      obtain ⟨h, h3⟩ := and_of h
      obtain ⟨h, hy⟩ := and_of h
      obtain ⟨h, hx⟩ := and_of h
      obtain ⟨h, hij⟩ := and_of h
      obtain ⟨h, hj⟩ := and_of h
      obtain ⟨hk, hi⟩ := and_of h
      have hxy : x ≠ y := by
        rintro rfl
        exact dec_of hij (nodup_ix xf.nd (dec_of hi) (dec_of hj))
      subst hs
      have pa := (snd C G F n es).aa true _ [a, b] X xf rfl (fun _ => ht) hq
      refine PS.imp (ps_par xf.calm (by rw [xf.hN]; exact xf.nd) (by rw [xf.hN]; exact dec_of hi) (by rw [xf.hN]; exact dec_of hj) (dec_of hij) (dec_of hx) (dec_of hy) pa
        (swap_two (dec_of hk) (dec_of hx) (dec_of hy) (dec_of h3) hxy h5 h6 (not_of' h7) (not_of' h8))) fun D σ H q => ?_
      obtain ⟨l, S, μ, hl, hS, hp⟩ := q
      replace hp : PostE X.K U0 H μ ((evs G F es l S).bind fun ws S1 => (opt (setPar l [i, j] ws) S1).bind fun l1 S2 => .ok (.nx, l1) S2) (EndsOf X.K D) := hp
      refine ⟨l, S, μ, hl, hS, hp.bind.imp fun ws H1 μ1 S1 e1 s1 q1 vs rv => ?_⟩
      cases rv with
      | nil => exact q1.elim
      | @cons w v _ _ r1 t1 =>
        cases t1 with
        | nil => exact q1.elim
        | @cons w2 v2 _ _ r2 t2 =>
          cases t2 with
          | cons _ _ => exact q1.elim
          | nil => exact ⟨v, v2, rfl, q1 H1 μ1 (Ext.refl _ _) s1 _ (((hl.up e1).set i r1).set j r2)⟩
    · cases h
  · split at h
    · rename_i x px y py z pz _ _ a b c _ _ _ ks i j k
      obtain ⟨h, hq⟩ := and_of h
      obtain ⟨h, g3⟩ := and_of h
      obtain ⟨h, g2⟩ := and_of h
      obtain ⟨h, g1⟩ := and_of h
      obtain ⟨h, h8⟩ := and_of h
      obtain ⟨h, h7⟩ := and_of h
      obtain ⟨h, l2⟩ := and_of h
      obtain ⟨h, l1⟩ := and_of h
      obtain ⟨h, hz⟩ := and_of h
      obtain ⟨h, hy⟩ := and_of h
      obtain ⟨h, hx⟩ := and_of h
      obtain ⟨h, hjk⟩ := and_of h
      obtain ⟨h, hik⟩ := and_of h
      obtain ⟨h, hij⟩ := and_of h
      obtain ⟨h, hkk⟩ := and_of h
      obtain ⟨h, hj⟩ := and_of h
      obtain ⟨hk, hi⟩ := and_of h
      have hxy : x ≠ y := by
        rintro rfl
        exact dec_of hij (nodup_ix xf.nd (dec_of hi) (dec_of hj))
      have hxz : x ≠ z := by
        rintro rfl
        exact dec_of hik (nodup_ix xf.nd (dec_of hi) (dec_of hkk))
      have hyz : y ≠ z := by
        rintro rfl
        exact dec_of hjk (nodup_ix xf.nd (dec_of hj) (dec_of hkk))
      subst hs
      have pa := (snd C G F n es).aa true _ [a, b, c] X xf rfl (fun _ => ht) hq
      refine PS.imp (ps_par3 xf.calm (by rw [xf.hN]; exact xf.nd) (by rw [xf.hN]; exact dec_of hi) (by rw [xf.hN]; exact dec_of hj) (by rw [xf.hN]; exact dec_of hkk) (dec_of hij) (dec_of hik) (dec_of hjk) (dec_of hx) (dec_of hy) (dec_of hz) pa
        (swap_three (dec_of hk) (dec_of hx) (dec_of hy) (dec_of hz) (dec_of l1) (dec_of l2) hxy hxz hyz g1 g2 g3 (not_of' h7) (not_of' h8))) fun D σ H q => ?_
      obtain ⟨l, S, μ, hl, hS, hp⟩ := q
      replace hp : PostE X.K U0 H μ ((evs G F es l S).bind fun ws S1 => (opt (setPar l [i, j, k] ws) S1).bind fun l1 S2 => .ok (.nx, l1) S2) (EndsOf X.K D) := hp
      refine ⟨l, S, μ, hl, hS, hp.bind.imp fun ws H1 μ1 S1 e1 s1 q1 vs rv => ?_⟩
      cases rv with
      | nil => exact q1.elim
      | @cons w v _ _ r1 t1 =>
        cases t1 with
        | nil => exact q1.elim
        | @cons w2 v2 _ _ r2 t2 =>
          cases t2 with
          | nil => exact q1.elim
          | @cons w3 v3 _ _ r3 t3 =>
            cases t3 with
            | cons _ _ => exact q1.elim
            | nil => exact ⟨v, v2, v3, rfl, q1 H1 μ1 (Ext.refl _ _) s1 _ ((((hl.up e1).set i r1).set j r2).set k r3)⟩
    · cases h
  · cases h
theorem augW_at {α : Type} {K : PySem.W.Frag} {H : Hp} {μ : Mu} {S : Sto} {op : BO} {w y : W} {f : W → Sto → Rs α} {R : α → Hp → Mu → Sto → Prop} (h : PostE K U0 H μ ((augW S op w y).bind f) R) :
    ∃ i j, w = .dat (.int i) ∧ y = .dat (.int j) ∧ ((op = .add ∧ PostE K U0 H μ (f (.dat (.int (i + j))) S) R) ∨ (op = .sub ∧ PostE K U0 H μ (f (.dat (.int (i - j))) S) R)) := by
  unfold augW at h
  split at h
  · exact ⟨_, _, rfl, rfl, .inl ⟨rfl, h⟩⟩
  · exact ⟨_, _, rfl, rfl, .inr ⟨rfl, h⟩⟩
  · exact h.elim
theorem pss_nilE {X : Cx} : PSs X [] (TSof X.K U0 (exM G F .nil)) :=
  PSs.imp pss_nil fun D σ H q => by
    obtain ⟨l, S, μ, hl, hS, hp⟩ := q
    exact hp H μ (Ext.refl _ _) hS σ hl
theorem ps_augE {X : Cx} {sc : Scope} {k : Nat} {op : BO} {e : E} {st : Stmt} (xf : XF X C G F n) (hs : X.env.scope = sc) (ht : ∀ y, X.fn y = true) (h : kAug C k op sc (okE C true e sc) st = true) : PS X st (TSof X.K U0 (exM G F (.aug k op e))) := by
  unfold kAug at h
  split at h
  · rename_i x px o ex pos
    obtain ⟨h, hq⟩ := and_of h
    obtain ⟨h, ho⟩ := and_of h
    obtain ⟨h, hop⟩ := and_of h
    obtain ⟨hk, hl⟩ := and_of h
    obtain rfl := dec_of ho
    have hloc : (L2.Loc X.env.scope x) ∧ (X.fn x = true ∨ X.env.scope.names.lookup x = some .local) := by
      rw [hs]
      unfold locB at hl
      split at hl
      · exact ⟨.inl (by assumption), .inr (by assumption)⟩
      · exact ⟨.inr (by assumption), .inl (ht x)⟩
      · cases hl
    have pe := (snd C G F n e).ee true sc ex X xf hs (fun _ => ht) hq
    have rd : ∀ {D : Ends} {σ : L2.St} {H : Hp}, TSof X.K U0 (exM G F (.aug k op e)) D σ H → ∃ x, σ[k]? = some (some x) ∧ TEof X.K U0 (ev G F e) σ H fun y H1 => ∃ i j, x = .int i ∧ y = .int j ∧
        ((op = .add ∧ D.nx (σ.set k (some (.int (i + j)))) H1) ∨ (op = .sub ∧ D.nx (σ.set k (some (.int (i - j)))) H1)) := fun {D σ H} q => by
      obtain ⟨l, S, μ, hl, hS, hp⟩ := q
      replace hp : PostE X.K U0 H μ ((getV l k S).bind fun x S0 => (ev G F e l S0).bind fun y S1 => (augW S1 op x y).bind fun z S2 => .ok (.nx, l.set k (some z)) S2) (EndsOf X.K D) := hp
      unfold getV at hp
      split at hp
      · rename_i w ew
        obtain ⟨v, ev', rv⟩ := hl.2 k w ew
        refine ⟨v, ev', l, S, μ, hl, hS, ?_⟩
        have hp : PostE X.K U0 H μ ((ev G F e l S).bind fun y S1 => (augW S1 op w y).bind fun z S2 => .ok (.nx, l.set k (some z)) S2) (EndsOf X.K D) := hp
        refine hp.bind.imp fun y H1 μ1 S1 e1 s1 q1 v1 r1 => ?_
        obtain ⟨i, j, rfl, rfl, q2⟩ := augW_at q1
        obtain rfl := int_rep rv
        obtain rfl := int_rep r1
        refine ⟨i, j, rfl, rfl, ?_⟩
        rcases q2 with ⟨eo, q3⟩ | ⟨eo, q3⟩
        · exact .inl ⟨eo, q3 H1 μ1 (Ext.refl _ _) s1 _ ((hl.up e1).set k (RepD.int (i + j)))⟩
        · exact .inr ⟨eo, q3 H1 μ1 (Ext.refl _ _) s1 _ ((hl.up e1).set k (RepD.int (i - j)))⟩
      · exact hp.elim
    have mono : ∀ {σ : L2.St} {H : Hp} {Q Q' : VK}, TEof X.K U0 (ev G F e) σ H Q → (∀ v H', Q v H' → Q' v H') → TEof X.K U0 (ev G F e) σ H Q' := fun {σ H Q Q'} q i => by
      obtain ⟨l, S, μ, hl, hS, hp⟩ := q
      exact ⟨l, S, μ, hl, hS, hp.imp fun w H1 μ1 S1 _ _ q1 v rv => i v H1 (q1 v rv)⟩
    have hN : X.N[k]? = some x := by rw [xf.hN]; exact dec_of hk
    have nd : X.N.Nodup := by rw [xf.hN]; exact xf.nd
    cases op with
    | add =>
      refine PS.imp (ps_aug (i := k) nd hN hloc.1 pe ip_add hloc.2) fun D σ H q => ?_
      obtain ⟨x', e', q⟩ := rd q
      refine ⟨x', e', mono q fun v H' ⟨i, j, e1, e2, q⟩ => ⟨i, j, e1, e2, ?_⟩⟩
      rcases q with ⟨_, q⟩ | ⟨z, _⟩
      · exact q
      · cases z
    | sub =>
      refine PS.imp (ps_aug (i := k) nd hN hloc.1 pe ip_sub hloc.2) fun D σ H q => ?_
      obtain ⟨x', e', q⟩ := rd q
      refine ⟨x', e', mono q fun v H' ⟨i, j, e1, e2, q⟩ => ⟨i, j, e1, e2, ?_⟩⟩
      rcases q with ⟨z, _⟩ | ⟨_, q⟩
      · cases z
      · exact q
    | _ => exact absurd hop (by decide)
  · cases h
theorem ps_ifE {X : Cx} {c : Expr} {a b : List Stmt} {pos : Pos} {rt : Loc → Sto → Rs W} {ra rb : Loc → Sto → Rs (Fl × Loc)} (ht : PT X c (TTof X.K U0 rt)) (ha : PSs X a (TSof X.K U0 ra)) (hb : PSs X b (TSof X.K U0 rb)) :
    PS X (.If c a b pos) (TSof X.K U0 fun l S => (rt l S).bind fun x S1 => ifW x (ra l S1) (rb l S1)) :=
  PS.imp (ps_if ht ha hb) fun D σ H q => by
    obtain ⟨l, S, μ, hl, hS, hp⟩ := q
    refine ⟨l, S, μ, hl, hS, hp.bind.imp fun w H1 μ1 S1 e1 s1 q1 => ?_⟩
    obtain ⟨b, rfl, q⟩ := ifW_at q1
    exact ⟨b, rfl, post_if q (fun q => ⟨l, S1, μ1, hl.up e1, s1, q⟩) fun q => ⟨l, S1, μ1, hl.up e1, s1, q⟩⟩
theorem ps_retE {X : Cx} {x : Expr} {pos : Pos} {r : Loc → Sto → Rs W} (ha : PE X x (TEof X.K U0 r)) : PS X (.Return (some x) pos) (TSof X.K U0 fun l S => (r l S).bind fun w S1 => .ok (.ret w, l) S1) :=
  PS.imp (ps_ret ha) fun D σ H q => by
    obtain ⟨l, S, μ, hl, hS, hp⟩ := q
    exact ⟨l, S, μ, hl, hS, hp.bind.imp fun w H1 μ1 S1 e1 s1 q1 v rv => q1 H1 μ1 (Ext.refl _ _) s1 v rv⟩
/-- behind a turn: on, out of the loop, or away -/
theorem loop_end {K : PySem.W.Frag} {nxt : Loc → Sto → Rs (Fl × Loc)} {D : Ends} {r : Fl × Loc} {S : Sto} {H : Hp} {μ : Mu} {N : L2.St → Hp → Prop} (s : StoRep K H S μ) (h : PostE K U0 H μ (loopR nxt r S) (EndsOf K D))
    (k : ∀ σ, LocRep K H μ r.2 σ → PostE K U0 H μ (nxt r.2 S) (EndsOf K D) → N σ H) : EndsOf K { D with nx := N, ct := N, bk := D.nx } r H μ S := by
  obtain ⟨f, l⟩ := r
  cases f with
  | nx => exact fun σ hl => k σ hl h
  | ct => exact fun σ hl => k σ hl h
  | brk => exact fun σ hl => h H μ (Ext.refl _ _) s σ hl
  | ret w => exact fun v rv => h H μ (Ext.refl _ _) s v rv
theorem ps_whileE {X : Cx} {c : Expr} {a : List Stmt} {pos : Pos} {rt : Loc → Sto → Rs W} {ra : Loc → Sto → Rs (Fl × Loc)} (po : PassesOwn (model X.prog X.w) X.A X.env X.xe) (ht : PT X c (TTof X.K U0 rt)) (ha : PSs X a (TSof X.K U0 ra)) :
    PS X (.While c a [] pos) (TSof X.K U0 fun l S => whlL rt ra whlFuel l S) :=
  PS.imp (ps_while po ht ha) fun D σ H q => by
    obtain ⟨l, S, μ, hl, hS, hp⟩ := q
    refine ⟨fun m σ H => ∃ l S μ, LocRep X.K H μ l σ ∧ StoRep X.K H S μ ∧ PostE X.K U0 H μ (whlL rt ra m l S) (EndsOf X.K D), ⟨whlFuel, l, S, μ, hl, hS, hp⟩, ?_⟩
    rintro m σ H ⟨l, S, μ, hl, hS, hp⟩
    cases m with
    | zero => exact hp.elim
    | succ m =>
      replace hp : PostE X.K U0 H μ ((rt l S).bind fun x S1 => ifW x ((ra l S1).bind (loopR (whlL rt ra m))) (.ok (.nx, l) S1)) (EndsOf X.K D) := hp
      refine ⟨l, S, μ, hl, hS, hp.bind.imp fun w H1 μ1 S1 e1 s1 q1 => ?_⟩
      obtain ⟨b, rfl, q⟩ := ifW_at q1
      refine ⟨b, rfl, post_if q (fun q => ?_) fun q => q H1 μ1 (Ext.refl _ _) s1 σ (hl.up e1)⟩
      refine ⟨fun σ H => ∃ l S μ, LocRep X.K H μ l σ ∧ StoRep X.K H S μ ∧ PostE X.K U0 H μ (whlL rt ra m l S) (EndsOf X.K D), fun σ' H' h => ⟨m, Nat.lt_succ_self m, h⟩, ?_⟩
      exact ⟨l, S1, μ1, hl.up e1, s1, q.bind.imp fun r H2 μ2 S2 e2 s2 q2 => loop_end s2 q2 fun σ2 hl2 q3 => ⟨r.2, S2, μ2, hl2, s2, q3⟩⟩
theorem ps_forE {X : Cx} {tg it : Expr} {a : List Stmt} {pos : Pos} {ts : List Nat} {ri : Loc → Sto → Rs (List D)} {rg : W → Loc → Sto → Rs Loc} {ra : Loc → Sto → Rs (Fl × Loc)} (po : PassesOwn (model X.prog X.w) X.A X.env X.xe) (hc : X.calm = true)
    (hi : PI X tg it (TIof X.K U0 ri)) (hg : PG X tg (TGof X.K U0 ts rg)) (ha : PSs X a (TSof X.K U0 ra)) (hset : noSet it = true) :
    PS X (.For tg it a [] pos) (TSof X.K U0 fun l S => (ri l S).bind fun ds S1 => forL (fun d l2 S2 => (rg (.dat d) l2 S2).bind fun l3 S3 => ra l3 S3) ds l S1) :=
  PS.imp (ps_for po hc hi hg ha (noset_fold hset)) fun E σ H q => by
    obtain ⟨l, S, μ, hl, hS, hp⟩ := q
    generalize hb : (fun d l2 S2 => (rg (.dat d) l2 S2).bind fun l3 S3 => ra l3 S3) = body at hp
    replace hp : PostE X.K U0 H μ ((ri l S).bind fun ds S1 => forL body ds l S1) (EndsOf X.K E) := hp
    refine ⟨l, S, μ, hl, hS, hp.bind.imp fun ds H1 μ1 S1 e1 s1 q1 J A wk hA => ?_⟩
    let Iv (i : Nat) (σ : L2.St) (H : Hp) : Prop := ∃ l S μ, LocRep X.K H μ l σ ∧ StoRep X.K H S μ ∧ A H μ ∧ PostE X.K U0 H μ (forL body (ds.drop i) l S) (EndsOf X.K E)
    refine ⟨fun i m σ H => m = ds.length - i ∧ i ≤ ds.length ∧ Iv i σ H, ⟨_, rfl, Nat.zero_le _, l, S1, μ1, hl.up e1, s1, hA, q1⟩, ?_⟩
    rintro i m σ H ⟨rfl, hi, l, S, μ, hl, hS, hA, hp⟩
    by_cases hlt : i < ds.length
    · refine .inr ⟨wk.go hA hlt, Iv (i + 1), fun σ' H' h => ⟨_, (by omega), rfl, hlt, h⟩, fun x H' y => ?_⟩
      obtain ⟨ey, sy, ry⟩ := wk.yld hA y (List.getElem?_eq_getElem hlt)
      rw [List.drop_eq_getElem_cons hlt] at hp
      replace hp : PostE X.K U0 H μ ((body ds[i] l S).bind (loopR (forL body (ds.drop (i + 1))))) (EndsOf X.K E) := hp
      have hbi : body ds[i] l S = (rg (.dat ds[i]) l S).bind fun l3 S3 => ra l3 S3 := by rw [← hb]
      rw [hbi] at hp
      have bb : ∀ {α β γ : Type} (r : Rs α) (f : α → Sto → Rs β) (g : β → Sto → Rs γ), (r.bind f).bind g = r.bind fun a S => (f a S).bind g := fun r f g => by cases r <;> rfl
      rw [bb] at hp
      refine ⟨l, S, μ, .dat ds[i], hl.up ey, sy S hS, ry, (hp.up ey).bind.imp fun l3 H3 μ3 S3 e3 s3 q3 σ3 hl3 _ => ?_⟩
      exact ⟨l3, S3, μ3, hl3, s3, q3.bind.imp fun r H4 μ4 S4 e4 s4 q4 => loop_end s4 q4 fun σ4 hl4 q5 => ⟨r.2, S4, μ4, hl4, s4, wk.up hA ((ey.trans e3).trans e4), q5⟩⟩
    · have e : i = ds.length := by omega
      subst e
      rw [List.drop_length] at hp
      exact .inl ⟨wk.stop hA (Nat.le_refl _), hp H μ (Ext.refl _ _) hS σ hl⟩
end

/-! ### for x in (f, g, ..) -/
section
variable {C : Ck} {G : Nat → Option W} {F : Fun'} {n : Nat}
theorem evs_fn {l : Loc} {S : Sto} : ∀ fs : List (Nat × Str), evs G F (fnE fs) l S = .ok (fs.map fun f => W.fn f.1 f.2) S
  | [] => rfl
  | (i, x) :: fs => by
    show ((Rs.ok (W.fn i x) S).bind fun w S1 => (evs G F (fnE fs) l S1).bind fun ws S2 => .ok (w :: ws) S2) = _
    rw [Rs.bind_ok, evs_fn fs]
    rfl
theorem fn_reps {K : PySem.W.Frag} {H : Hp} {μ : Mu} : ∀ {fs : List (Nat × Str)} {vs : List V}, RepWs K H μ (fs.map fun f => W.fn f.1 f.2) vs → vs.length = fs.length ∧ ∀ (i : Nat) (f : Nat × Str) (v : V), fs[i]? = some f → vs[i]? = some v → ∀ H' μ', RepW K H' μ' (.fn f.1 f.2) v
  | [], vs, h => by cases h; exact ⟨rfl, fun i f v e => by simp at e⟩
  | f :: fs, vs, h => by
    cases h with
    | cons r t =>
      obtain ⟨a, b⟩ := fn_reps t
      refine ⟨by simp [a], fun i g v e1 e2 => ?_⟩
      cases i with
      | zero =>
        simp at e1 e2
        subst e1 e2
        exact fun _ _ => r
      | succ i => exact b i g v (by simpa using e1) (by simpa using e2)
theorem ps_forF {X : Cx} {tg : Expr} {es : List Expr} {q1 : Nat} {q2 pos : Pos} {a : List Stmt} {k : Nat} {fs : List (Nat × Str)} {ra : Loc → Sto → Rs (Fl × Loc)} (po : PassesOwn (model X.prog X.w) X.A X.env X.xe) (hc : X.calm = true) (h8 : fs.length ≤ 8)
    (pa : PA X es (TAof X.K U0 (evs G F (fnE fs)))) (hg : PG X tg (TGof X.K U0 [k] (asg G F (.tnm k)))) (ha : PSs X a (TSof X.K U0 ra)) :
    PS X (.For tg (.Tuple es q1 q2) a [] pos) (TSof X.K U0 fun l S => forFL ra k fs l S) :=
  PS.imp (ps_for po hc (pi_tup (pe_tup pa)) hg ha (noset_fold rfl)) fun E σ H q => by
    obtain ⟨l, S, μ, hl, hS, hp⟩ := q
    refine ⟨l, S, μ, hl, hS, ?_⟩
    rw [evs_fn]
    intro H1 μ1 e1 s1 vs rvs
    obtain ⟨hlen, hfn⟩ := fn_reps rvs
    refine ⟨Nat.le_trans (by omega : vs.length ≤ 8) (by decide), fun p hp0 => ⟨p, rfl, ⟨vs, SqT.of upd_same⟩, ?_⟩⟩
    have ef := Ext.fresh (μ := μ1) (o := HO.tup vs) hp0
    let Iv (i : Nat) (σ : L2.St) (H : Hp) : Prop := ∃ l S μ, LocRep X.K H μ l σ ∧ StoRep X.K H S μ ∧ H p = some (.tup vs) ∧ PostE X.K U0 H μ (forFL ra k (fs.drop i) l S) (EndsOf X.K E)
    refine ⟨fun i m σ H => m = fs.length - i ∧ i ≤ fs.length ∧ Iv i σ H, ⟨_, rfl, Nat.zero_le _, l, S, μ1, (hl.up e1).up ef, s1.fresh hp0, upd_same, (hp.up e1).up ef⟩, ?_⟩
    rintro i m σ H ⟨rfl, hi, l, S, μ, hl, hS, hA, hp⟩
    by_cases hlt : i < fs.length
    · refine .inr ⟨⟨vs, vs[i]'(by omega), SqT.of hA, List.getElem?_eq_getElem (by omega)⟩, Iv (i + 1), fun σ' H' h => ⟨_, (by omega), rfl, hlt, h⟩, fun x H' y => ?_⟩
      obtain ⟨rfl, y⟩ := y
      have hx := y vs (SqT.of hA)
      have hr := hfn i fs[i] x (List.getElem?_eq_getElem hlt) hx H' μ
      rw [List.drop_eq_getElem_cons hlt] at hp
      replace hp : PostE X.K U0 H' μ ((ra (l.set k (some (.fn fs[i].1 fs[i].2))) S).bind (loopR (forFL ra k (fs.drop (i + 1))))) (EndsOf X.K E) := hp
      refine ⟨l, S, μ, .fn fs[i].1 fs[i].2, hl, hS, hr, fun H3 μ3 e3 s3 σ3 hl3 _ => ?_⟩
      exact ⟨_, S, μ3, hl3, s3, (hp.up e3).bind.imp fun r H4 μ4 S4 e4 s4 q4 => loop_end s4 q4 fun σ4 hl4 q5 => ⟨r.2, S4, μ4, hl4, s4, e4.tup _ _ (e3.tup _ _ hA), q5⟩⟩
    · have e : i = fs.length := by omega
      subst e
      rw [List.drop_length] at hp
      exact .inl ⟨⟨vs, SqT.of hA, by omega⟩, hp H μ (Ext.refl _ _) hS σ hl⟩
end
/-! ### del, a dict that is walked -/
theorem ps_delE {X : Cx} {o i : Expr} {tpos pos : Pos} {ro ri : Loc → Sto → Rs W} (ho : PE X o (TEof X.K U0 ro)) (hi : PE X i (TEof X.K U0 ri)) :
    PS X (.Delete [.Subscript o i tpos] pos) (TSof X.K U0 fun l S => (ro l S).bind fun x S1 => (ri l S1).bind fun y S2 => (ddelW x y S2).bind fun _ S3 => .ok (.nx, l) S3) := by
  refine PS.imp (ps_ddel ho hi) fun D σ H h => ?_
  obtain ⟨l, S, μ, hl, hS, hp⟩ := h
  refine ⟨l, S, μ, hl, hS, hp.bind.imp fun x H1 μ1 S1 e1 s1 q1 v rv => ⟨l, S1, μ1, hl.up e1, s1, q1.bind.imp fun y H2 μ2 S2 e2 s2 q2 u ru => ?_⟩⟩
  unfold ddelW at q2
  split at q2
  · rename_i k p ek
    split at q2
    · rename_i kvs ed
      split at q2
      · rename_i hs
        obtain ⟨a, vs, rfl, hm, ha, hk⟩ := obj_dic s2 (rv.up e2) ed
        obtain rfl := keyW_rep ru ek
        have mu : Mut (H2 a) := by rw [ha]; trivial
        have ex := Ext.write (o := .dK (dropK vs k)) mu hm
        refine ⟨a, vs, k, rfl, ha, rfl, ?_, q2 _ μ2 ex (s2.write mu hm (ob := .dic (dropW kvs k)) ⟨_, upd_same, RepKs.up ex (RepKs.drop k hk)⟩) σ (((hl.up e1).up e2).up ex)⟩
        rcases hk.val k with ⟨z1, z2⟩ | ⟨w, v, z1, z2, _⟩
        · rw [z1] at hs; cases hs
        · rw [z2]; rfl
      · exact q2.elim
    · exact q2.elim
  · exact q2.elim
theorem ps_lckE {X : Cx} {k : Nat} {st : Stmt} {r : Loc → Sto → Rs (Fl × Loc)} (hs : PS X st (TSof X.K U0 r)) : PS X st (TSof X.K U0 fun l S => (lckW l k S).bind fun p S1 => (r l S1).bind fun w S2 => unlW p w S2) := by
  refine PS.imp (ps_lock hs) fun D σ H h => ?_
  obtain ⟨l, S, μ, hl, hS, hp⟩ := h
  obtain ⟨p, kvs, a, vs, hm, ek, ha', hk, q⟩ := lock_at hl hS hp
  refine ⟨a, .dK vs, ha', trivial, fun od => ?_⟩
  have e0 := Ext.lock (μ := μ) (o := od) ha' hm
  refine ⟨l, S.set p (.lck kvs), μ, hl.up e0, hS.lock hm ha' hk, ?_⟩
  cases er : r l (S.set p (.lck kvs)) with
  | no => rw [er] at q; exact q.elim
  | ex y S1 => rw [er] at q; exact fun H' μ' e s => q H' μ' (e0.trans e) s
  | ok w S1 =>
    rw [er] at q
    intro H' μ' e s
    obtain ⟨z1, S2, z2⟩ := unlock_at (R := EndsOf X.K D) ha' hm e s q
    have ow : ∀ {w : W} {v : V}, RepW X.K H' μ' w v → RepW X.K (upd H' a (.dK vs)) μ' w v := fun rv => RepW.other z1 (fun _ z => by cases z) (fun _ z => by cases z) (fun _ _ z => by cases z) (fun _ _ z => by cases z) rv
    have ol : ∀ {l : Loc} {σ : L2.St}, LocRep X.K H' μ' l σ → LocRep X.K (upd H' a (.dK vs)) μ' l σ := fun h => ⟨h.1, fun i w q => let ⟨v, x, y⟩ := h.2 i w q; ⟨v, x, ow y⟩⟩
    obtain ⟨f, l1⟩ := w
    cases f with
    | nx => exact fun σ' h => ⟨z1, z2 σ' (ol h)⟩
    | brk => exact fun σ' h => ⟨z1, z2 σ' (ol h)⟩
    | ct => exact fun σ' h => ⟨z1, z2 σ' (ol h)⟩
    | ret w => exact fun v h => ⟨z1, z2 v (ow h)⟩
section
variable (C : Ck) (G : Nat → Option W) (F : Fun') (n : Nat)
structure SndS (s : St') : Prop where
  st : ∀ (sc : Scope) (x : Stmt) (X : Cx), XF X C G F n → X.env.scope = sc → (∀ y, X.fn y = true) → PassesOwn (model X.prog X.w) X.A X.env X.xe → okS C sc s x = true → PS X x (TSof X.K U0 (exM G F s))
  ss : ∀ (sc : Scope) (x : List Stmt) (X : Cx), XF X C G F n → X.env.scope = sc → (∀ y, X.fn y = true) → PassesOwn (model X.prog X.w) X.A X.env X.xe → okSs C sc s x = true → PSs X x (TSof X.K U0 (exM G F s))
theorem frz_step {K : PySem.W.Frag} {k : Nat} {r : St'} {D : Ends} {σ : L2.St} {H : Hp} (h : TSof K U0 (exM G F (.cons (.frz k) r)) D σ H) : TSof K U0 (exM G F r) D σ H := by
  obtain ⟨l, S, μ, hl, hS, hp⟩ := h
  replace hp : PostE K U0 H μ (((getV l k S).bind fun x S1 => frzW l k S1 x).bind (seqR (exM G F r))) (EndsOf K D) := hp
  unfold getV at hp
  split at hp
  · rename_i w ew
    replace hp : PostE K U0 H μ ((frzW l k S w).bind (seqR (exM G F r))) (EndsOf K D) := hp
    unfold frzW at hp
    split at hp
    · rename_i p
      split at hp
      · rename_i ds e
        obtain ⟨v, ev', rv⟩ := hl.2 k _ ew
        obtain ⟨a, vs, rfl, hm, ha, hr⟩ := obj_lst hS rv e
        have ex : Ext H μ H (μ.set p) := Ext.let
        have q : PostE K U0 H (μ.set p) (exM G F r (l.set k (some (.dat (.list ds)))) (S.set p .gone)) (EndsOf K D) := PostE.up (H := H) (μ := μ) hp ex
        refine ⟨l.set k (some (.dat (.list ds))), S.set p .gone, μ.set p, ?_, hS.let hm, q⟩
        have l2 := hl.up ex
        refine ⟨by simp [l2.1], fun i u q => ?_⟩
        by_cases ei : k = i
        · subst ei
          obtain ⟨hlen, _⟩ := List.getElem?_eq_some_iff.mp ew
          rw [List.getElem?_set_self hlen] at q
          cases q
          exact ⟨.ref a, ev', .lst ha (hS.out hm) (hS.outh hm) (hr.up ex)⟩
        · rw [List.getElem?_set_ne ei] at q
          exact l2.2 i u q
      · exact hp.elim
    · exact hp.elim
  · exact hp.elim
theorem sndS : ∀ s : St', SndS C G F n s := by
  intro s
  induction s with
  | expr e =>
    refine ⟨fun sc x X xf hs ht po h => ?_, fun sc x X xf hs ht po h => (nomatch h)⟩
    replace h : kExpr (okE C true e sc) x = true := h
    unfold kExpr at h
    split at h
    · obtain ⟨h1, h2⟩ := and_of h
      exact ps_exprE h2 ((snd C G F n e).ee true sc _ X xf hs (fun _ => ht) h1)
    · cases h
  | set t e =>
    refine ⟨fun sc x X xf hs ht po h => ?_, fun sc x X xf hs ht po h => (nomatch h)⟩
    obtain ⟨h0, h⟩ := and_of (show (!isLckE e && kSet sc (okG C true t sc) (okE C true e sc) x) = true from h)
    unfold kSet at h
    split at h
    · obtain ⟨h1, h2⟩ := and_of h
      exact ps_setE (not_of' h0) xf hs ht (and_of h1).1 (and_of h1).2 h2
    · cases h
  | par ks es => exact ⟨fun sc x X xf hs ht po h => (Bool.or_eq_true _ _ ▸ h : kPar C ks sc (okA C true es sc) x = true ∨ kParC C ks sc (okA C true es sc) x = true).elim (fun h => ps_parE xf hs ht h) fun h => ps_parC xf hs ht h, fun sc x X xf hs ht po h => (nomatch h)⟩
  | aug k op e => exact ⟨fun sc x X xf hs ht po h => ps_augE xf hs ht h, fun sc x X xf hs ht po h => (nomatch h)⟩
  | cond t a b iha ihb =>
    refine ⟨fun sc x X xf hs ht po h => ?_, fun sc x X xf hs ht po h => (nomatch h)⟩
    replace h : kIf (okT C true t sc) (okSs C sc a) (okSs C sc b) x = true := h
    unfold kIf at h
    split at h
    · obtain ⟨h1, h2⟩ := and_of h
      exact ps_ifE ((snd C G F n t).tt true sc _ X xf hs (fun _ => ht) (and_of h1).1) (iha.ss sc _ X xf hs ht po (and_of h1).2) (ihb.ss sc _ X xf hs ht po h2)
    · cases h
  | whl t b ihb =>
    refine ⟨fun sc x X xf hs ht po h => ?_, fun sc x X xf hs ht po h => (nomatch h)⟩
    replace h : kWhl (okT C true t sc) (okSs C sc b) x = true := h
    unfold kWhl at h
    split at h
    · obtain ⟨h1, h2⟩ := and_of h
      exact ps_whileE po ((snd C G F n t).tt true sc _ X xf hs (fun _ => ht) h1) (ihb.ss sc _ X xf hs ht po h2)
    · cases h
  | «for» tg it b ihb =>
    refine ⟨fun sc x X xf hs ht po h => ?_, fun sc x X xf hs ht po h => (nomatch h)⟩
    replace h : kFor (okG C true tg sc) (okI C true it sc) (okSs C sc b) x = true := h
    unfold kFor at h
    split at h
    · obtain ⟨h1, h2⟩ := and_of h
      obtain ⟨h3, h4⟩ := and_of h1
      exact ps_forE po xf.calm ((snd C G F n it).ii _ true sc _ X xf hs (fun _ => ht) (and_of h3).2) ((snd C G F n tg).gg true sc _ X xf hs (fun _ => ht) (and_of h3).1) (ihb.ss sc _ X xf hs ht po h2) h4
    · cases h
  | forF k fs b ihb =>
    refine ⟨fun sc x X xf hs ht po h => ?_, fun sc x X xf hs ht po h => (nomatch h)⟩
    replace h : kForF fs (okG C true (.tnm k) sc) (okA C true (fnE fs) sc) (okSs C sc b) x = true := h
    unfold kForF at h
    split at h
    · obtain ⟨h1, h2⟩ := and_of h
      obtain ⟨h3, h4⟩ := and_of h1
      obtain ⟨h5, h6⟩ := and_of h3
      exact ps_forF po xf.calm (dec_of h4) ((snd C G F n (fnE fs)).aa true sc _ X xf hs (fun _ => ht) h6) ((snd C G F n (.tnm k)).gg true sc _ X xf hs (fun _ => ht) h5) (ihb.ss sc _ X xf hs ht po h2)
    · cases h
  | ret e =>
    refine ⟨fun sc x X xf hs ht po h => ?_, fun sc x X xf hs ht po h => (nomatch h)⟩
    replace h : kRet (okE C true e sc) x = true := h
    unfold kRet at h
    split at h
    · exact ps_retE ((snd C G F n e).ee true sc _ X xf hs (fun _ => ht) h)
    · cases h
  | retN =>
    refine ⟨fun sc x X xf hs ht po h => ?_, fun sc x X xf hs ht po h => (nomatch h)⟩
    replace h : kRetN x = true := h
    unfold kRetN at h
    split at h
    · exact PS.imp ps_retN fun D σ H q => by
        obtain ⟨l, S, μ, hl, hS, hp⟩ := q
        exact hp H μ (Ext.refl _ _) hS .non RepD.non
    · cases h
  | brk =>
    refine ⟨fun sc x X xf hs ht po h => ?_, fun sc x X xf hs ht po h => (nomatch h)⟩
    replace h : kBrk x = true := h
    unfold kBrk at h
    split at h
    · exact PS.imp ps_break fun D σ H q => by
        obtain ⟨l, S, μ, hl, hS, hp⟩ := q
        exact hp H μ (Ext.refl _ _) hS σ hl
    · cases h
  | ct =>
    refine ⟨fun sc x X xf hs ht po h => ?_, fun sc x X xf hs ht po h => (nomatch h)⟩
    replace h : kCt x = true := h
    unfold kCt at h
    split at h
    · exact PS.imp ps_continue fun D σ H q => by
        obtain ⟨l, S, μ, hl, hS, hp⟩ := q
        exact hp H μ (Ext.refl _ _) hS σ hl
    · cases h
  | pass =>
    refine ⟨fun sc x X xf hs ht po h => ?_, fun sc x X xf hs ht po h => (nomatch h)⟩
    replace h : kPass x = true := h
    unfold kPass at h
    split at h
    · exact PS.imp ps_pass fun D σ H q => by
        obtain ⟨l, S, μ, hl, hS, hp⟩ := q
        exact hp H μ (Ext.refl _ _) hS σ hl
    · cases h
  | del o i =>
    refine ⟨fun sc x X xf hs ht po h => ?_, fun sc x X xf hs ht po h => (nomatch h)⟩
    replace h : kDel (okE C true o sc) (okE C true i sc) x = true := h
    unfold kDel at h
    split at h
    · obtain ⟨h1, h2⟩ := and_of h
      exact ps_delE ((snd C G F n o).ee true sc _ X xf hs (fun _ => ht) h1) ((snd C G F n i).ee true sc _ X xf hs (fun _ => ht) h2)
    · cases h
  | lckS k s ih => exact ⟨fun sc x X xf hs ht po h => ps_lckE (ih.st sc x X xf hs ht po h), fun sc x X xf hs ht po h => (nomatch h)⟩
  | frz k => exact ⟨fun sc x X xf hs ht po h => (nomatch h), fun sc x X xf hs ht po h => (nomatch h)⟩
  | mkI _ _ => exact ⟨fun sc x X xf hs ht po h => (nomatch h), fun sc x X xf hs ht po h => (nomatch h)⟩
  | kp s ih => exact ⟨fun sc x X xf hs ht po h => (nomatch h), fun sc x X xf hs ht po h => ih.ss sc x X xf hs ht po h⟩
  | nil =>
    refine ⟨fun sc x X xf hs ht po h => (nomatch h), fun sc x X xf hs ht po h => ?_⟩
    cases x with
    | nil => exact pss_nilE
    | cons _ _ => cases h
  | cons s r ihs ihr =>
    refine ⟨fun sc x X xf hs ht po h => (nomatch h), fun sc x X xf hs ht po h => ?_⟩
    replace h : (if isFrz s then okSs C sc r x else kConsS (okS C sc s) (okSs C sc r) x) = true := h
    split at h
    · cases s with
      | frz k => exact PSs.imp (ihr.ss sc x X xf hs ht po h) fun D σ H q => frz_step G F q
      | _ => rename_i z; cases z
    · cases x with
      | nil => cases h
      | cons y ys =>
        obtain ⟨h1, h2⟩ := and_of (show (okS C sc s y && okSs C sc r ys) = true from h)
        refine PSs.imp (pss_cons (ihs.st sc y X xf hs ht po h1) (ihr.ss sc ys X xf hs ht po h2)) fun D σ H q => ?_
        obtain ⟨l, S, μ, hl, hS, hp⟩ := q
        replace hp : PostE X.K U0 H μ ((exM G F s l S).bind (seqR (exM G F r))) (EndsOf X.K D) := hp
        refine ⟨l, S, μ, hl, hS, hp.bind.imp fun rr H1 μ1 S1 e1 s1 q1 => ?_⟩
        obtain ⟨f, l1⟩ := rr
        cases f with
        | nx => exact fun σ1 hl1 => ⟨l1, S1, μ1, hl1, s1, q1⟩
        | ct => exact q1 H1 μ1 (Ext.refl _ _) s1
        | brk => exact q1 H1 μ1 (Ext.refl _ _) s1
        | ret w => exact q1 H1 μ1 (Ext.refl _ _) s1
end
end MP
set_option Elab.async false
set_option linter.all false
set_option maxRecDepth 100000
set_option maxHeartbeats 4000000
/-! Defs that call one another: each answers as its meaning says, at any depth. -/
namespace MP
open PySem PySem.Spec PyProof.Rows L2 RT

/-- a def of the text: its name, its qualified name, its kind (0 a def, 1 a class, 2 a method, 3 a def with one keyword), its class (3: its keyword), its text, its parameters, its names by slot, its meaning -/
structure Df where
  nm : Str
  qn : Str
  kd : Nat
  cl : Str
  st : Stmt
  ps : List Str
  N : List Str
  fn : Fn
/-- names that may be called -/
def nmsOf (tb : List Df) (i : Nat) : Option Str := (tb[i]?).bind fun d => if d.kd ≤ 1 then some d.nm else none
/-- .. that may stand as values -/
def fvsOf (tb : List Df) (i : Nat) : Option Str := (tb[i]?).bind fun d => if d.kd = 0 then some d.nm else none
/-- .. of defs with one keyword -/
def kwsOf (tb : List Df) (i : Nat) : Option (Str × Str) := (tb[i]?).bind fun d => if d.kd = 3 then some (d.cl, d.nm) else none
def fnsOf (tb : List Df) (i : Nat) : Option Fn := (tb[i]?).map (·.fn)
/-- a look at the names of a def's scope -/
def scOk (N P : List Str) (sc : Scope) : Bool :=
  decide (sc.kind = .function) && !sc.isCoroutine && !sc.isGenerator && decide N.Nodup && decide (N.take P.length = P) && P.all (fun x => decide (sc.names.lookup x = some .local) || decide (sc.names.lookup x = some .cell)) && sc.names.all (fun y => !decide (y.2 = .free))
theorem scope_by {N P : List Str} {sc : Scope} (h : scOk N P sc = true) : FnScope N P sc := by
  unfold scOk at h
  simp only [Bool.and_eq_true, Bool.not_eq_true', decide_eq_true_eq, List.all_eq_true, Bool.or_eq_true, decide_eq_false_iff_not] at h
  obtain ⟨⟨⟨⟨⟨⟨h1, h2⟩, h3⟩, h4⟩, h5⟩, h6⟩, h7⟩ := h
  exact ⟨h1, h2, h3, h4, h5, h6, h7⟩
def mkOk (x : Str) (np : Nat) (cm : List (Str × Str × Nat)) : St' → Bool
  | .mkI y i => decide (y = x) && decide (0 < np) && decide ((x, ("__init__" : Str), i) ∈ cm)
  | _ => false
def Df.ok (gl : Nat → Option Str) (fnm : Nat → Option Str) (kwm : Nat → Option (Str × Str)) (blt : List Str) (cf : List (Str × Str)) (cm : List (Str × Str × Nat)) (d : Df) : Bool :=
  if d.kd = 1 then mkOk d.nm d.fn.np cm d.fn.body else
  scOk d.N d.ps (L2.defScope d.st) && decide (d.fn.np = d.ps.length) && decide (d.fn.nn = d.N.length) && okSs ⟨d.N, gl, fnm, blt, cf, cm, kwm⟩ (L2.defScope d.st) d.fn.body (L2.defBody d.st)
/-- the methods are those of the table -/
def cmOk (tb : List Df) (t : Str × Str × Nat) : Bool := match tb[t.2.2]? with
  | some d => decide (d.kd = 2) && decide (d.cl = t.1) && decide (d.nm = t.2.1)
  | none => false
structure TherD (K : PySem.W.Frag) (mg : Str → Option Value) (d : Df) : Prop where
  ex : ∃ fa fd, (mg d.nm = some (.ref fa) ∧ PySem.W.nsIn K mainGlobals d.nm = some (some (.ref fa))) ∧ PySem.W.keepIn K (.ref fa) = true ∧ (∀ us : List Value, us.length = d.ps.length → bindArgs fd ⟨us, []⟩ = pure (d.ps.zip us)) ∧ L2.Fun K d.nm d.qn d.st fa fd
structure TherC (K : PySem.W.Frag) (mg : Str → Option Value) (d : Df) : Prop where
  ex : ∃ Cd, (mg d.nm = some (.ref Cd) ∧ PySem.W.nsIn K mainGlobals d.nm = some (some (.ref Cd))) ∧ PySem.W.keepIn K (.ref Cd) = true ∧ PySem.W.makesIn K Cd = true
structure TherM (K : PySem.W.Frag) (d : Df) : Prop where
  ex : ∃ Cd fa fd, PySem.W.nsIn K mainGlobals d.cl = some (some (.ref Cd)) ∧ Cls K Cd ∧ Meth K Cd d.nm fa ∧ (∀ us : List Value, us.length = d.ps.length → bindArgs fd ⟨us, []⟩ = pure (d.ps.zip us)) ∧ L2.Fun K d.nm d.qn d.st fa fd
structure TherK (K : PySem.W.Frag) (mg : Str → Option Value) (d : Df) : Prop where
  ex : ∃ fa fd, (mg d.nm = some (.ref fa) ∧ PySem.W.nsIn K mainGlobals d.nm = some (some (.ref fa))) ∧ PySem.W.keepIn K (.ref fa) = true ∧ (∀ (us : List Value) (v : Value), (us ++ [v]).length = d.ps.length → bindArgs fd ⟨us, [(d.cl, v)]⟩ = pure (d.ps.zip (us ++ [v]))) ∧ L2.Fun K d.nm d.qn d.st fa fd
def There (K : PySem.W.Frag) (mg : Str → Option Value) (d : Df) : Prop := if d.kd = 0 then TherD K mg d else if d.kd = 1 then TherC K mg d else if d.kd = 2 then TherM K d else TherK K mg d
theorem keepN_le (n : Nat) (w : W) : n ≤ keepN n w := by cases w with
  | obj p => exact Nat.le_max_left _ _
  | _ => exact Nat.le_refl _
theorem below_keep (n : Nat) (w : W) : below (keepN n w) w = true := by cases w with
  | obj p => exact decide_eq_true (Nat.lt_of_lt_of_le (Nat.lt_succ_self p) (Nat.le_max_right _ _))
  | _ => rfl

section
variable {K : PySem.W.Frag} {H : Hp} {μ : Mu}
theorem leave_post {n : Nat} {w : W} {S' : Sto} {H' : Hp} {μ' : Mu} {Q : VK} (hn : n = μ.ob.length) (e : Ext H μ H' μ') (s : StoRep K H' S' μ') (h : PostE K U0 H μ (leave n w S') (VP K Q)) {v : V} (rv : RepW K H' μ' w v) : Q v H' := by
  unfold leave at h
  split at h
  · rename_i c
    exact h H' (μ'.cut (keepN n w)) (Ext.cut (by rw [← hn]; exact keepN_le n w) e) (StoRep.cut s c.2) v (RepW.cut (below_keep n w) rv)
  · exact h.elim
theorem done_post {r : Rs (Fl × Loc)} {S : Sto} {Q : VK} (hS : StoRep K H S μ) (h : PostE K U0 H μ (doneFn S.length r) (VP K Q)) : PostE K U0 H μ r (EndsOf K { nx := fun _ H' => Q .non H', rt := Q }) := by
  cases r with
  | ok a S' =>
    obtain ⟨f, l⟩ := a
    intro H' μ' e s
    cases f with
    | nx => exact fun σ hl => leave_post hS.len e s h (w := .dat .none) RepD.non
    | ret w => exact fun v rv => leave_post hS.len e s h rv
    | brk => exact h.elim
    | ct => exact h.elim
  | ex x S' =>
    intro H' μ' e s
    unfold doneFn at h
    dsimp only at h
    split at h
    · rename_i c
      exact h H' (μ'.cut S.length) (Ext.cut (Nat.le_of_eq hS.len.symm) e) (StoRep.cut s c.2)
    · exact h.elim
  | no => exact h.elim
theorem keep_post {r : Rs (Fl × Loc)} {Q : VK} (h : PostE K U0 H μ (keepFn r) (VP K Q)) : PostE K U0 H μ r (EndsOf K { nx := fun _ H' => Q .non H', rt := Q }) := by
  cases r with
  | ok a S' =>
    obtain ⟨f, l⟩ := a
    intro H' μ' e s
    cases f with
    | nx => exact fun σ hl => h H' μ' e s .non RepD.non
    | ret w => exact fun v rv => h H' μ' e s v rv
    | brk => exact h.elim
    | ct => exact h.elim
  | ex x S' => exact h.elim
  | no => exact h.elim
theorem RepWs.length {ws : List W} {vs : List V} (h : RepWs K H μ ws vs) : ws.length = vs.length := by
  induction h with
  | nil => rfl
  | cons _ _ ih => simp [ih]
theorem RepWs.at {ws : List W} {vs : List V} (h : RepWs K H μ ws vs) : ∀ (i : Nat) (w : W), ws[i]? = some w → ∃ v, vs[i]? = some v ∧ RepW K H μ w v := by
  induction h with
  | nil => intro i w e; simp at e
  | cons a _ ih =>
    intro i w e
    cases i with
    | zero => simp at e; subst e; exact ⟨_, rfl, a⟩
    | succ i => simpa using ih i w (by simpa using e)
theorem start_rep {ws : List W} {vs : List V} {N : List Str} {nn : Nat} (h : RepWs K H μ ws vs) (hn : nn = N.length) : LocRep K H μ (start' ws nn) (L2.start N vs) := by
  subst hn
  have hl := h.length
  refine ⟨by simp [start', L2.start, hl], fun i w q => ?_⟩
  unfold start' at q
  by_cases hi : i < ws.length
  · rw [List.getElem?_append_left (by simpa using hi), List.getElem?_map] at q
    cases e : ws[i]? with
    | none => rw [e] at q; cases q
    | some x =>
      rw [e] at q
      cases q
      obtain ⟨v, ev', rv⟩ := h.at i w e
      refine ⟨v, ?_, rv⟩
      unfold L2.start
      rw [List.getElem?_append_left (by rw [List.length_map, ← hl]; exact hi), List.getElem?_map, ev']
      rfl
  · rw [List.getElem?_append_right (by simpa using hi), List.getElem?_replicate] at q
    split at q <;> cases q
end

section
variable {P : Program} {w : World} {K : PySem.W.Frag} {mg : Str → Option Value} {base : Heap} {tb : List Df} {G : Nat → Option W} {gl : Nat → Option Str} {blt : List Str} {cf : List (Str × Str)} {cm : List (Str × Str × Nat)}
theorem nms_get {f : Nat} {x : Str} (e : nmsOf tb f = some x) : ∃ d, tb[f]? = some d ∧ d.nm = x ∧ d.kd ≤ 1 := by
  unfold nmsOf at e
  cases q : tb[f]? with
  | none => rw [q] at e; cases e
  | some d =>
    rw [q] at e
    have e : (if d.kd ≤ 1 then some d.nm else none) = some x := e
    split at e
    · rename_i h
      exact ⟨d, rfl, Option.some.inj e, h⟩
    · cases e
theorem fvs_get {f : Nat} {x : Str} (e : fvsOf tb f = some x) : ∃ d, tb[f]? = some d ∧ d.nm = x ∧ d.kd = 0 := by
  unfold fvsOf at e
  cases q : tb[f]? with
  | none => rw [q] at e; cases e
  | some d =>
    rw [q] at e
    have e : (if d.kd = 0 then some d.nm else none) = some x := e
    split at e
    · rename_i h
      exact ⟨d, rfl, Option.some.inj e, h⟩
    · cases e
theorem kws_get {f : Nat} {k x : Str} (e : kwsOf tb f = some (k, x)) : ∃ d, tb[f]? = some d ∧ d.cl = k ∧ d.nm = x ∧ d.kd = 3 := by
  unfold kwsOf at e
  cases q : tb[f]? with
  | none => rw [q] at e; cases e
  | some d =>
    rw [q] at e
    have e : (if d.kd = 3 then some (d.cl, d.nm) else none) = some (k, x) := e
    split at e
    · rename_i h
      cases e
      exact ⟨d, rfl, rfl, rfl, h⟩
    · cases e
theorem cm_get (hm : cm.all (cmOk tb) = true) {x m : Str} {i : Nat} (h : (x, m, i) ∈ cm) : ∃ d, tb[i]? = some d ∧ d.kd = 2 ∧ d.cl = x ∧ d.nm = m := by
  have := List.all_eq_true.mp hm _ h
  unfold cmOk at this
  dsimp only at this
  split at this
  · rename_i d e
    obtain ⟨h1, h2⟩ := and_of this
    obtain ⟨h3, h4⟩ := and_of h1
    exact ⟨d, e, dec_of h3, dec_of h4, dec_of h2⟩
  · cases this
/-- what is known of the top -/
structure TopF (w : World) (K : PySem.W.Frag) (mg : Str → Option Value) (tb : List Df) (G : Nat → Option W) (gl : Nat → Option Str) (blt : List Str) (cf : List (Str × Str)) (cm : List (Str × Str × Nat)) : Prop where
  g : ∀ g x w, gl g = some x → G g = some w → ∃ v u, mg x = some u ∧ RelV v u ∧ ∀ H μ, RepW K H μ w v
  c : ∀ g x kvs, gl g = some x → G g = some (.cdi kvs) → ∃ d es m, mg x = some (.ref d) ∧ KDict K w d es m ∧ ∀ z, CdAt K d kvs z
  b : ∀ x, x ∈ blt → mg x = none
  n : ∀ i x, G (fnAt + i) = some (.dat (.str x)) → fvsOf tb i = some x
  f : ∀ x f, (x, f) ∈ cf → ∃ Cd, PySem.W.nsIn K mainGlobals x = some (some (.ref Cd)) ∧ Cls K Cd ∧ NoAttr K Cd f
  t : ∀ d, d ∈ tb → There K mg d
  k : tb.all (Df.ok gl (nmsOf tb) (kwsOf tb) blt cf cm) = true
  m : cm.all (cmOk tb) = true
/-- every def of the table, at depth n -/
theorem fns_ok (T : TopF w K mg tb G gl blt cf cm) : ∀ (n i : Nat) (d : Df), tb[i]? = some d → d.kd ≠ 1 → ∀ fa fd, L2.Fun K d.nm d.qn d.st fa fd → GFn P w K mg base n fa fd d.ps (spF K (callM G (fnsOf tb) n) i) := by
  intro n
  induction n using Nat.strongRecOn with
  | ind n IH0 =>
  intro i d hd hkd fa fd h4
  cases n with
  | zero =>
    refine ⟨fun vs H Q E q => ?_, fun A outer s H args us vs Q E _ _ _ _ _ q => ?_⟩
    · obtain ⟨S, μ, ws, _, _, z⟩ := q; exact z.elim
    · obtain ⟨S, μ, ws, _, _, z⟩ := q; exact z.elim
  | succ n =>
    have IH := IH0 n (Nat.lt_succ_self n)
    have c := List.all_eq_true.mp T.k d (List.mem_of_getElem? hd)
    unfold Df.ok at c
    rw [if_neg hkd] at c
    obtain ⟨c, c4⟩ := and_of c
    obtain ⟨c, c3⟩ := and_of c
    obtain ⟨c1, c2⟩ := and_of c
    have sc := scope_by c1
    have hf : fnsOf tb i = some d.fn := by unfold fnsOf; rw [hd]; rfl
    have unf : ∀ (ws : List W) (S : Sto), callM G (fnsOf tb) (n + 1) i ws S = if ws.length = d.fn.np then runB G (callM G (fnsOf tb) n) ws d.fn.nn S d.fn.body else .no := fun ws S => by
      show (match fnsOf tb i with | some fn => _ | none => _) = _
      rw [hf]
    -- a body of the text: what it ends with
    have body : ∀ {ws : List W} {S : Sto} {H : Hp} {μ : Mu} {Q : VK}, StoRep K H S μ → PostE K U0 H μ (runB G (callM G (fnsOf tb) n) ws d.fn.nn S d.fn.body) (VP K Q) →
        PostE K U0 H μ (exM G (callM G (fnsOf tb) n) d.fn.body (start' ws d.fn.nn) S) (EndsOf K { nx := fun _ H' => Q .non H', rt := Q }) := fun {ws S H μ Q} hS z => by
      by_cases hp : plainB d.fn.body = true
      · rw [runB_plain hp] at z
        exact done_post hS z
      · cases hb : d.fn.body with
        | kp b => rw [hb] at z; exact keep_post z
        | mkI x j => rw [hb] at c4; cases c4
        | _ => rw [hb] at hp; exact absurd rfl hp
    have fnp : ∀ (f : Nat) (d2 : Df), tb[f]? = some d2 → d2.kd = 0 → ∃ fa fd ps, (mg d2.nm = some (.ref fa) ∧ PySem.W.nsIn K mainGlobals d2.nm = some (some (.ref fa))) ∧ PySem.W.keepIn K (.ref fa) = true ∧ Binds K fd ps [] ∧ GFn P w K mg base n fa fd ps (spF K (callM G (fnsOf tb) n) f) := fun f d2 ed hk => by
      have t := T.t d2 (List.mem_of_getElem? ed)
      unfold There at t
      rw [if_pos hk] at t
      obtain ⟨fa2, fd2, g1, g2, g3, g4⟩ := t.ex
      exact ⟨fa2, fd2, d2.ps, g1, g2, .all g3, IH f d2 ed (by omega) fa2 fd2 g4⟩
    have mth : ∀ (f : Nat) (d2 : Df), tb[f]? = some d2 → d2.kd = 2 → ∃ Cd fa fd, PySem.W.nsIn K mainGlobals d2.cl = some (some (.ref Cd)) ∧ Cls K Cd ∧ Meth K Cd d2.nm fa ∧ Binds K fd d2.ps [] ∧ L2.Fun K d2.nm d2.qn d2.st fa fd := fun f d2 ed hk => by
      have t := T.t d2 (List.mem_of_getElem? ed)
      unfold There at t
      rw [if_neg (by omega), if_neg (by omega), if_pos hk] at t
      obtain ⟨Cd, fa2, fd2, g1, g2, g3, g4, g5⟩ := t.ex
      exact ⟨Cd, fa2, fd2, g1, g2, g3, .all g4, g5⟩
    refine GFn.of h4 sc (fun vs H Q E q => ?_) fun cdv A outer s H vs Q E hr ng q => ?_
    · obtain ⟨S, μ, ws, _, rw', z⟩ := q
      rw [unf] at z
      split at z
      · rename_i e
        rw [← rw'.length, e]; exact dec_of c2
      · exact z.elim
    · obtain ⟨S, μ, ws, hS, rw', z⟩ := q
      rw [unf] at z
      split at z
      · refine ⟨_, (sndS ⟨d.N, gl, nmsOf tb, blt, cf, cm, kwsOf tb⟩ G (callM G (fnsOf tb) n) n d.fn.body).ss (L2.defScope d.st) _ _ ⟨rfl, sc.nd, rfl, hr, ng, T.g, T.c, T.b, fun i x e => ?_, fun f x e => ?_, T.f, fun x m i e => ?_, fun f k x e => ?_⟩ rfl (fun _ => rfl) PassesOwn.never c4, start' ws d.fn.nn, S, μ, start_rep rw' (dec_of c3), hS, body hS z⟩
        · obtain ⟨d2, ed, rfl, hk⟩ := fvs_get (T.n i x e)
          exact fnp i d2 ed hk
        · obtain ⟨d2, ed, rfl, hk⟩ := nms_get e
          by_cases h0 : d2.kd = 0
          · exact .inl (fnp f d2 ed h0)
          · refine .inr ?_
            have t := T.t d2 (List.mem_of_getElem? ed)
            have c := List.all_eq_true.mp T.k d2 (List.mem_of_getElem? ed)
            unfold There at t
            rw [if_neg h0] at t
            unfold Df.ok at c
            have h1 : d2.kd = 1 := by omega
            rw [if_pos h1] at t c
            obtain ⟨Cd, g1, g2, g3⟩ := t.ex
            have hf2 : fnsOf tb f = some d2.fn := by unfold fnsOf; rw [ed]; rfl
            cases hb : d2.fn.body with
            | mkI y j =>
              rw [hb] at c
              obtain ⟨k1, k2⟩ := and_of c
              obtain ⟨k3, k4⟩ := and_of k1
              obtain rfl := dec_of k3
              have k4 := dec_of k4
              obtain ⟨d3, e3, q1, q2, q3⟩ := cm_get T.m (dec_of k2)
              refine ⟨Cd, g1, g2, fun S => ?_, ?_⟩
              · cases n with
                | zero => rfl
                | succ m =>
                  show (match fnsOf tb f with | some fn => _ | none => _) = _
                  rw [hf2]
                  show (if 0 = d2.fn.np then _ else _) = _
                  rw [if_neg (by omega)]
              · cases n with
                | zero => exact .inl fun ws S => rfl
                | succ m =>
                  obtain ⟨Cd3, fa3, fd3, r1, r2, r3, r4, r5⟩ := mth j d3 e3 q1
                  rw [q2, g1.2] at r1
                  cases r1
                  rw [q3] at r3
                  refine .inr ⟨fa3, fd3, d3.ps, m, callM G (fnsOf tb) m, j, Nat.le_refl _, ⟨g3, r3.at_, r3.fn, g2⟩, r4, IH0 m (by omega) j d3 e3 (by omega) fa3 fd3 r5, fun ws S => ?_⟩
                  have un2 : callM G (fnsOf tb) (m + 1) f ws S = if ws.length = d2.fn.np then runB G (callM G (fnsOf tb) m) ws d2.fn.nn S d2.fn.body else .no := by
                    show (match fnsOf tb f with | some fn => _ | none => _) = _
                    rw [hf2]
                  rw [un2, hb]
                  split
                  · exact .inr rfl
                  · exact .inl rfl
            | _ => rw [hb] at c; cases c
        · obtain ⟨d3, e3, q1, rfl, rfl⟩ := cm_get T.m e
          obtain ⟨Cd3, fa3, fd3, r1, r2, r3, r4, r5⟩ := mth i d3 e3 q1
          exact ⟨Cd3, fa3, fd3, d3.ps, r1, r2, r3, r4, IH i d3 e3 (by omega) fa3 fd3 r5⟩
        · obtain ⟨d3, e3, rfl, rfl, q1⟩ := kws_get e
          have t := T.t d3 (List.mem_of_getElem? e3)
          unfold There at t
          rw [if_neg (by omega), if_neg (by omega), if_neg (by omega)] at t
          obtain ⟨fa3, fd3, r1, r2, r3, r4⟩ := t.ex
          exact ⟨fa3, fd3, d3.ps, r1, r2, fun s us v _ hl => .of_eq (r3 us v hl), IH f d3 e3 (by omega) fa3 fd3 r4⟩
      · exact z.elim
end

/-! ### constants of the module -/
def sameV : D → Value → Bool
  | .int i, .int j _ => decide (i = j)
  | .str i, .str j _ => decide (i = j)
  | .bool i, .bool j => decide (i = j)
  | .none, .none => true
  | _, _ => false
def sameVs : List D → List Value → Bool
  | [], [] => true
  | d :: ds, v :: vs => sameV d v && sameVs ds vs
  | _, _ => false
def vOf : D → V
  | .int i => .int i
  | .str i => .str i
  | .bool i => .bl i
  | _ => .non
theorem same_rep {K : PySem.W.Frag} {H : Hp} {μ : Mu} {d : D} {u : Value} (h : sameV d u = true) : RelV (vOf d) u ∧ RepD K H μ d (vOf d) := by
  unfold sameV at h
  split at h
  · obtain rfl := dec_of h; exact ⟨⟨_, rfl⟩, .int _⟩
  · obtain rfl := dec_of h; exact ⟨⟨_, rfl⟩, .str _⟩
  · obtain rfl := dec_of h; exact ⟨rfl, .bl _⟩
  · exact ⟨rfl, .non⟩
  · cases h
theorem sames_rep {K : PySem.W.Frag} {H : Hp} {μ : Mu} : ∀ {ds : List D} {us : List Value}, sameVs ds us = true → Vals (ds.map vOf) us ∧ RepDs K H μ ds (ds.map vOf)
  | [], [], _ => ⟨.nil, .nil⟩
  | d :: ds, u :: us, h => by
    obtain ⟨h1, h2⟩ := and_of h
    obtain ⟨a, b⟩ := same_rep (K := K) (H := H) (μ := μ) h1
    obtain ⟨c, e⟩ := sames_rep (K := K) (H := H) (μ := μ) h2
    exact ⟨.cons a c, .cons b e⟩
  | [], _ :: _, h => by cases h
  | _ :: _, [], h => by cases h
/-- a written tuple of flat things -/
theorem cst_there {K : PySem.W.Frag} {mg : Str → Option Value} {h : Heap} {x : Str} {a : Addr} {od : Option Addr} {its : Array Value} {n : Nat} {sl : Array (Option Value)} {ds : List D} (X : K.In h) (G : h.Ns mainGlobals mg) (e : PySem.W.nsIn K mainGlobals x = some (some (.ref a)))
    (l : K.lookup a = some ⟨.type "tuple", od, .seq its n, sl⟩) (z : its.size ≤ sizeLine) (s : sameVs ds its.toList = true) : ∃ v u, mg x = some u ∧ RelV v u ∧ ∀ H μ, RepW K H μ (.cst ds) v :=
  ⟨.ref a, .ref a, PySem.W.mg_of X G e, rfl, fun H μ => ⟨a, ds.map vOf, rfl, ⟨_, its, n, l, rfl, rfl, z, (sames_rep (K := K) (H := H) (μ := μ) s).1⟩, (sames_rep s).2⟩⟩
/-- a written number, text, .. -/
theorem flat_there {K : PySem.W.Frag} {mg : Str → Option Value} {h : Heap} {x : Str} {u : Value} {d : D} (X : K.In h) (G : h.Ns mainGlobals mg) (e : PySem.W.nsIn K mainGlobals x = some (some u)) (s : sameV d u = true) : ∃ v u, mg x = some u ∧ RelV v u ∧ ∀ H μ, RepW K H μ (.dat d) v :=
  ⟨vOf d, u, PySem.W.mg_of X G e, (same_rep (K := K) (H := fun _ => none) (μ := ⟨[], []⟩) s).1, fun H μ => (same_rep s).2⟩
/-- a written dict of flat things -/
def keyIs (k : Str) : Value → Bool
  | .str x _ => decide (k = x)
  | _ => false
def sameKV : List (Str × D) → List DictEntry → Bool
  | [], [] => true
  | (k, d) :: r, e :: es => keyIs k e.key && (sameV d e.val && sameKV r es)
  | _, _ => false
theorem keyIs_eq {k z : Str} {v : Value} (h : keyIs k v = true) : v.isStr z = decide (k = z) ∧ (∃ t, v = .str k t) := by
  unfold keyIs at h
  split at h
  · rename_i x t
    obtain rfl := dec_of h
    refine ⟨?_, t, rfl⟩
    show (decide _ : Bool) = _
    rw [decide_eq_decide]
  · cases h
theorem sameKV_find {z : Str} : ∀ {kvs : List (Str × D)} {es : List DictEntry}, sameKV kvs es = true → (es.any fun e => e.refKey) = false ∧ (match valC kvs z with
    | none => es.find? (fun e => e.key.isStr z) = none
    | some d => ∃ e, es.find? (fun e => e.key.isStr z) = some e ∧ sameV d e.val = true)
  | [], [], _ => ⟨rfl, rfl⟩
  | (k, d) :: r, e :: es, h => by
    obtain ⟨h1, h2⟩ := and_of h
    obtain ⟨h2, h3⟩ := and_of h2
    obtain ⟨i1, i2⟩ := sameKV_find (z := z) h3
    obtain ⟨q1, t, q2⟩ := keyIs_eq (z := z) h1
    refine ⟨?_, ?_⟩
    · rw [List.any_cons, i1, Bool.or_false]
      unfold DictEntry.refKey
      rw [q2]
    · unfold valC at i2 ⊢
      rw [List.find?_cons, List.find?_cons, q1]
      cases hk : decide (k = z) with
      | true => exact ⟨e, rfl, h2⟩
      | false => exact i2
theorem cdi_there {K : PySem.W.Frag} {w : World} {mg : Str → Option Value} {h : Heap} {x : Str} {a : Addr} {es : Array DictEntry} {n : Nat} {kvs : List (Str × D)} (X : K.In h) (G : h.Ns mainGlobals mg) (e : PySem.W.nsIn K mainGlobals x = some (some (.ref a)))
    (l : K.lookup a = some ⟨.type "dict", none, .dict es n, #[]⟩) (m : (a == sysModules) = false) (k : PySem.W.KeysLit w.params es.toList) (s : sameKV kvs es.toList = true) : ∃ d es m, mg x = some (.ref d) ∧ KDict K w d es m ∧ ∀ z, CdAt K d kvs z := by
  refine ⟨a, es, n, PySem.W.mg_of X G e, ⟨l, k, m⟩, fun z => ?_⟩
  obtain ⟨h1, h2⟩ := sameKV_find (z := z) s
  unfold CdAt
  cases q : valC kvs z with
  | none =>
    rw [q] at h2
    show PySem.W.nsIn K a z = some none
    unfold PySem.W.nsIn
    rw [l]
    dsimp only
    have h2 : es.toList.find? (fun e => e.key.isStr z) = none := h2
    rw [h2]
    dsimp only
    have h1 : (es.toList.any fun e => e.refKey) = false := h1
    rw [h1]
    rfl
  | some d =>
    rw [q] at h2
    obtain ⟨e, h3, h4⟩ := h2
    obtain ⟨r1, _⟩ := same_rep (K := K) (H := fun _ => none) (μ := ⟨[], []⟩) h4
    refine ⟨e.val, vOf d, ?_, r1, fun H μ => (same_rep h4).2⟩
    unfold PySem.W.nsIn
    rw [l]
    dsimp only
    have h3 : es.toList.find? (fun e => e.key.isStr z) = some e := h3
    rw [h3]
theorem cdi_rep {K : PySem.W.Frag} {mg : Str → Option Value} {h : Heap} {x : Str} {a : Addr} {kvs : List (Str × D)} (X : K.In h) (G : h.Ns mainGlobals mg) (e : PySem.W.nsIn K mainGlobals x = some (some (.ref a))) : ∃ v u, mg x = some u ∧ RelV v u ∧ ∀ H μ, RepW K H μ (.cdi kvs) v :=
  ⟨.ref a, .ref a, PySem.W.mg_of X G e, rfl, fun _ _ => trivial⟩
theorem there_mk {K : PySem.W.Frag} {mg : Str → Option Value} {h : Heap} {d : Df} {f : Addr} {oc : Value} {od an : Option Addr} {osl : Array (Option Value)} {kV doc pm cdv ct : Value} (hk : d.kd = 0) (X : K.In h) (G : h.Ns mainGlobals mg) (e : PySem.W.nsIn K mainGlobals d.nm = some (some (.ref f)))
    (l : K.lookup f = some ⟨oc, od, .func (PySem.W.fnOf d.nm d.qn (defArgs d.st) (defBody d.st) (defScope d.st) .none kV doc pm an cdv ct), osl⟩) (c : PySem.W.codeIn K cdv d.qn = true) (k : PySem.W.keepIn K (.ref f) = true)
    (b : ∀ (kV doc pm : Value) (an : Option Addr) (cdv ct : Value) (us : List Value), us.length = d.ps.length → bindArgs (PySem.W.fnOf d.nm d.qn (defArgs d.st) (defBody d.st) (defScope d.st) .none kV doc pm an cdv ct) ⟨us, []⟩ = pure (d.ps.zip us)) : There K mg d := by
  unfold There
  rw [if_pos hk]
  exact ⟨f, _, ⟨PySem.W.mg_of X G e, e⟩, k, b kV doc pm an cdv ct, fun_mk l c k⟩
theorem cls_mk {K : PySem.W.Frag} {mg : Str → Option Value} {h : Heap} {d : Df} {f : Addr} (hk : d.kd = 1) (X : K.In h) (G : h.Ns mainGlobals mg) (e : PySem.W.nsIn K mainGlobals d.nm = some (some (.ref f))) (k : PySem.W.keepIn K (.ref f) = true) (m : PySem.W.makesIn K f = true) : There K mg d := by
  unfold There
  rw [if_neg (by omega), if_pos hk]
  exact ⟨f, ⟨PySem.W.mg_of X G e, e⟩, k, m⟩
theorem mth_mk {K : PySem.W.Frag} {mg : Str → Option Value} {d : Df} {C f : Addr} {oc : Value} {od an : Option Addr} {osl : Array (Option Value)} {kV doc pm cdv ct : Value} (hk : d.kd = 2) (e : PySem.W.nsIn K mainGlobals d.cl = some (some (.ref C))) (c0 : Cls K C)
    (a : PySem.W.findIn K (.ref C) d.nm = some (some (.ref f))) (i : PySem.W.isFn K (.ref f) = true)
    (l : K.lookup f = some ⟨oc, od, .func (PySem.W.fnOf d.nm d.qn (defArgs d.st) (defBody d.st) (defScope d.st) .none kV doc pm an cdv ct), osl⟩) (c : PySem.W.codeIn K cdv d.qn = true) (k : PySem.W.keepIn K (.ref f) = true)
    (b : ∀ (kV doc pm : Value) (an : Option Addr) (cdv ct : Value) (us : List Value), us.length = d.ps.length → bindArgs (PySem.W.fnOf d.nm d.qn (defArgs d.st) (defBody d.st) (defScope d.st) .none kV doc pm an cdv ct) ⟨us, []⟩ = pure (d.ps.zip us)) : There K mg d := by
  unfold There
  rw [if_neg (by omega), if_neg (by omega), if_pos hk]
  exact ⟨C, f, _, e, c0, ⟨a, i, k⟩, b kV doc pm an cdv ct, fun_mk l c k⟩
theorem kw_mk {K : PySem.W.Frag} {mg : Str → Option Value} {h : Heap} {d : Df} {f : Addr} {oc : Value} {od an : Option Addr} {osl : Array (Option Value)} {kV doc pm cdv ct : Value} (hk : d.kd = 3) (X : K.In h) (G : h.Ns mainGlobals mg) (e : PySem.W.nsIn K mainGlobals d.nm = some (some (.ref f)))
    (l : K.lookup f = some ⟨oc, od, .func (PySem.W.fnOf d.nm d.qn (defArgs d.st) (defBody d.st) (defScope d.st) .none kV doc pm an cdv ct), osl⟩) (c : PySem.W.codeIn K cdv d.qn = true) (k : PySem.W.keepIn K (.ref f) = true)
    (b : ∀ (us : List Value) (v : Value), (us ++ [v]).length = d.ps.length → bindArgs (PySem.W.fnOf d.nm d.qn (defArgs d.st) (defBody d.st) (defScope d.st) .none kV doc pm an cdv ct) ⟨us, [(d.cl, v)]⟩ = pure (d.ps.zip (us ++ [v]))) : There K mg d := by
  unfold There
  rw [if_neg (by omega), if_neg (by omega), if_neg (by omega)]
  exact ⟨f, _, ⟨PySem.W.mg_of X G e, e⟩, k, b, fun_mk l c k⟩

/-! ### the law -/
theorem scr_rep {K : PySem.W.Frag} {H : Hp} {a : Addr} {ns : List Int} (hO : Only H) (hS : SqL K H a (ns.map V.int)) : RepW K H ⟨[], []⟩ (.scr (ns.map .int)) (.ref a) := by
  have rd : ∀ (H : Hp) (μ : Mu) (ns : List Int), RepDs K H μ (ns.map .int) (ns.map V.int) := fun H μ ns => by
    induction ns with
    | nil => exact .nil
    | cons n ns ih => exact .cons (.int n) ih
  refine ⟨a, ns.map V.int, rfl, ?_, rd _ _ _⟩
  rcases hS with h | h
  · rcases h with h | ⟨o, h⟩
    · rcases hO a with z | ⟨o, xs, z⟩
      · rw [z] at h; cases h
      · rw [z] at h; cases h
    · exact .inl ⟨o, h⟩
  · exact .inr h
theorem law_sp {K : PySem.W.Frag} {F : Fun'} {f : Nat} {H : Hp} {a : Addr} {ns : List Int} (hO : Only H) (hS : SqL K H a (ns.map V.int)) (h : ∃ S, F f [.scr (ns.map .int)] [] = .ok (.dat (.bool true)) S) :
    spF K F f [.ref a] H (fun v _ => v = .bl true) fun _ _ _ => False := by
  obtain ⟨S, h⟩ := h
  refine ⟨[], ⟨[], []⟩, [.scr (ns.map .int)], ⟨rfl, fun a m => absurd m (by simp), fun p a o e => by simp at e, fun p q a e => by simp at e, fun p e => by simp at e⟩, .cons (scr_rep hO hS) .nil, ?_⟩
  rw [h]
  intro H' μ' _ _ v rv
  cases rv
  rfl
theorem walk_mp {l : PySem.W.OpenLaw} {k i : Nat} {dl : Df} {q : Program} {loose : List Str} {XP : (Str → Option Value) → Heap → Prop} {YP : World → Heap → Prop} {d : DefRec} {K : Params → PySem.W.Frag} {x : Str} {tb : List Df} {G : Nat → Option W} {gl : Nat → Option Str} {blt : List Str} {cf : List (Str × Str)} {cm : List (Str × Str × Nat)}
    (hn : l.most = some 63) (hdf : d.params.defaults = []) (hr : Room k callerA) (hY : ∀ (w : World) (h : Heap), YP w h → (K w.params).In h) (hi : tb[i]? = some dl) (hp : dl.ps = [x]) (hdn : dl.nm = d.name) (hkd : dl.kd = 0)
    (hk : tb.all (Df.ok gl (nmsOf tb) (kwsOf tb) blt cf cm) = true) (hm : cm.all (cmOk tb) = true) (hN : ∀ i x, G (fnAt + i) = some (.dat (.str x)) → fvsOf tb i = some x)
    (T : ∀ (w : World) (mg : Str → Option Value) (h : Heap), (K w.params).In h → h.Ns mainGlobals mg → (∀ g x w', gl g = some x → G g = some w' → ∃ v u, mg x = some u ∧ RelV v u ∧ ∀ H μ, RepW (K w.params) H μ w' v) ∧ (∀ g x kvs, gl g = some x → G g = some (.cdi kvs) → ∃ d es m, mg x = some (.ref d) ∧ KDict (K w.params) w d es m ∧ ∀ z, CdAt (K w.params) d kvs z) ∧ (∀ x, x ∈ blt → mg x = none) ∧ (∀ d, d ∈ tb → There (K w.params) mg d) ∧
      ∀ x f, (x, f) ∈ cf → ∃ Cd, PySem.W.nsIn (K w.params) mainGlobals x = some (some (.ref Cd)) ∧ Cls (K w.params) Cd ∧ NoAttr (K w.params) Cd f)
    (hl : ∀ ns : List Int, ns.length ≤ 63 → ∃ S, callM G (fnsOf tb) k i [.scr (ns.map .int)] [] = .ok (.dat (.bool true)) S) :
    PySem.W.WalkO q loose XP YP l.row.toRowW d [] (fun f vs => PySem.call f vs) := by
  refine walkG (m := 63) (n := k) (x := x) (sp := fun w => spF (K w.params) (callM G (fnsOf tb) k) i) hn (by decide) hdf hr hY (fun w mg fa h KX GX hmg => ?_) (fun w H a ns hlen hO hS => law_sp hO hS (hl ns hlen))
  obtain ⟨t1, t0, t2, t3, t4⟩ := T w mg h KX GX
  have td := t3 dl (List.mem_of_getElem? hi)
  unfold There at td
  rw [if_pos hkd] at td
  obtain ⟨fa0, fd, ⟨h1, _⟩, h2, h3, h4⟩ := td.ex
  rw [hdn, hmg] at h1
  cases h1
  refine ⟨fd, fun s v => .of_eq ?_, fun base hb hbn => ?_⟩
  · have := h3 [v] (by rw [hp]; rfl)
    rw [hp] at this
    exact this
  · have := fns_ok (P := l.prog) (w := w) (base := base) ⟨t1, t0, t2, hN, t4, t3, hk, hm⟩ k i dl hi (by omega) fa fd h4
    rw [hp] at this
    exact this
end MP
set_option Elab.async false
set_option linter.all false
set_option maxRecDepth 100000
set_option maxHeartbeats 4000000
/-! Reasoning about meanings: no program in sight. -/
namespace MP
open PySem L2

structure Holds {α : Type} (r : Rs α) (Q : α → Sto → Prop) : Prop where
  ex : ∃ a S, r = .ok a S ∧ Q a S
section
variable {α β : Type} {Q Q' : α → Sto → Prop}
theorem Holds.get {a : α} {S : Sto} (h : Holds (.ok a S) Q) : Q a S := by
  obtain ⟨_, _, e, q⟩ := h.ex
  cases e
  exact q
theorem Holds.ff (h : Holds (.no : Rs α) Q) : False := by
  obtain ⟨_, _, e, _⟩ := h.ex
  cases e
theorem Holds.fx {x : Exn} {S : Sto} (h : Holds (.ex x S : Rs α) Q) : False := by
  obtain ⟨_, _, e, _⟩ := h.ex
  cases e
@[simp] theorem holds_ok {a : α} {S : Sto} : Holds (.ok a S) Q ↔ Q a S := ⟨Holds.get, fun q => ⟨_, _, rfl, q⟩⟩
@[simp] theorem holds_no : Holds (.no : Rs α) Q ↔ False := ⟨Holds.ff, False.elim⟩
@[simp] theorem holds_ex {x : Exn} {S : Sto} : Holds (.ex x S : Rs α) Q ↔ False := ⟨Holds.fx, False.elim⟩
@[simp] theorem holds_bind {r : Rs α} {f : α → Sto → Rs β} {R : β → Sto → Prop} : Holds (r.bind f) R ↔ Holds r fun a S => Holds (f a S) R := by
  cases r with
  | ok a S => exact Iff.symm (holds_ok (Q := fun a S => Holds (f a S) R))
  | ex x S => rw [Rs.bind_ex, holds_ex, holds_ex]
  | no => rw [Rs.bind_no, holds_no, holds_no]
theorem Holds.hide {r : Rs α} (h : ∀ R : α → Sto → Prop, R = Q → Holds r R) : Holds r Q := h Q rfl
theorem Holds.imp {r : Rs α} (h : Holds r Q) (i : ∀ a S, Q a S → Q' a S) : Holds r Q' := by
  obtain ⟨a, S, e, q⟩ := h.ex
  exact ⟨a, S, e, i a S q⟩
@[simp] theorem holds_ite {c : Prop} [Decidable c] {r r' : Rs α} : Holds (if c then r else r') Q ↔ (c → Holds r Q) ∧ (¬c → Holds r' Q) := by
  by_cases h : c <;> simp [h]
theorem holds_ifW {b : Bool} {r r' : Rs α} : Holds (ifW (.dat (.bool b)) r r') Q ↔ (b = true → Holds r Q) ∧ (b = false → Holds r' Q) := by
  cases b <;> simp [ifW]
@[simp] theorem ifW_t {r r' : Rs α} : ifW (.dat (.bool true)) r r' = r := rfl
@[simp] theorem ifW_f {r r' : Rs α} : ifW (.dat (.bool false)) r r' = r' := rfl
theorem holds_ex1 {r : Rs W} {d : W} (h : Holds r fun w _ => w = d) : ∃ S, r = .ok d S := by
  obtain ⟨a, S, e, q⟩ := h.ex
  exact ⟨S, by rw [e, show a = d from q]⟩
end
/-! ### operators of known data -/
section
variable {S : Sto} {i j k : Int} {b c : Bool} {s t : Str} {xs ys : List D} {d : D} {p : Nat}
@[simp] theorem rdD_dat : rdD S (.dat d) = some d := rfl
@[simp] theorem rdC_dat : rdC S (.dat d) = some d := rfl
@[simp] theorem rdC_cst : rdC S (.cst xs) = some (.tuple xs) := rfl
@[simp] theorem rdC_obj : rdC S (.obj p) = obD S[p]? := rfl
@[simp] theorem rdD_obj : rdD S (.obj p) = obD S[p]? := rfl
@[simp] theorem obD_lst : obD (some (.lst xs)) = some (.list xs) := rfl
@[simp] theorem rdDs_nil : rdDs S [] = some [] := rfl
theorem binW_d {op : BO} {x y : D} : binW S op (.dat x) (.dat y) = optD (binD op x y) S := rfl
@[simp] theorem bin_add : binW S .add (.dat (.int i)) (.dat (.int j)) = .ok (.dat (.int (i + j))) S := rfl
@[simp] theorem bin_sub : binW S .sub (.dat (.int i)) (.dat (.int j)) = .ok (.dat (.int (i - j))) S := rfl
@[simp] theorem bin_mul : binW S .mul (.dat (.int i)) (.dat (.int j)) = if mulOk i j then .ok (.dat (.int (i * j))) S else .no := by
  rw [binW_d]; show optD (if mulOk i j then _ else _) S = _; split <;> rfl
@[simp] theorem bin_div : binW S .fdiv (.dat (.int i)) (.dat (.int j)) = if divOk j then .ok (.dat (.int (i / j))) S else .no := by
  rw [binW_d]; show optD (if divOk j then _ else _) S = _; split <;> rfl
@[simp] theorem bin_mod : binW S .mod (.dat (.int i)) (.dat (.int j)) = if 0 < j then .ok (.dat (.int (i % j))) S else .no := by
  rw [binW_d]; show optD (if 0 < j then _ else _) S = _; split <;> rfl
@[simp] theorem bin_shl : binW S .shl (.dat (.int i)) (.dat (.int j)) = if shlOk i j then .ok (.dat (.int (i * 2 ^ j.toNat))) S else .no := by
  rw [binW_d]; show optD (if shlOk i j then _ else _) S = _; split <;> rfl
@[simp] theorem bin_shr : binW S .shr (.dat (.int i)) (.dat (.int j)) = if 0 ≤ j then .ok (.dat (.int (i / 2 ^ j.toNat))) S else .no := by
  rw [binW_d]; show optD (if 0 ≤ j then _ else _) S = _; split <;> rfl
@[simp] theorem bin_band : binW S .band (.dat (.int i)) (.dat (.int j)) = .ok (.dat (.int (Builtin.bitAnd i j))) S := rfl
@[simp] theorem bin_bor : binW S .bor (.dat (.int i)) (.dat (.int j)) = .ok (.dat (.int (Builtin.bitOr i j))) S := rfl
@[simp] theorem bin_bxor : binW S .bxor (.dat (.int i)) (.dat (.int j)) = .ok (.dat (.int (Builtin.bitXor i j))) S := rfl
@[simp] theorem bin_addT : binW S .add (.dat (.tuple xs)) (.dat (.tuple ys)) = if xs.length + ys.length ≤ sizeLine then .ok (.dat (.tuple (xs ++ ys))) S else .no := by
  rw [binW_d]; show optD (if _ then _ else _) S = _; split <;> rfl
@[simp] theorem bin_addL : binW S .add (.dat (.list xs)) (.dat (.list ys)) = if xs.length + ys.length ≤ sizeLine then .ok (.dat (.list (xs ++ ys))) S else .no := by
  rw [binW_d]; show optD (if _ then _ else _) S = _; split <;> rfl
@[simp] theorem bin_mulL : binW S .mul (.dat (.list xs)) (.dat (.int k)) = if repOk xs.length k then .ok (.dat (.list (List.replicate k.toNat xs).flatten)) S else .no := by
  rw [binW_d]; show optD (if _ then _ else _) S = _; split <;> rfl
theorem cmpW_d {op : CO} {x y : D} : cmpW S op (.dat x) (.dat y) = match cmpD op x y with | some c => .ok (.dat (.bool c)) S | none => .no := by cases op <;> rfl
@[simp] theorem cmp_lt : cmpW S .lt (.dat (.int i)) (.dat (.int j)) = .ok (.dat (.bool (decide (i < j)))) S := rfl
@[simp] theorem cmp_le : cmpW S .le (.dat (.int i)) (.dat (.int j)) = .ok (.dat (.bool (decide (i ≤ j)))) S := rfl
@[simp] theorem cmp_gt : cmpW S .gt (.dat (.int i)) (.dat (.int j)) = .ok (.dat (.bool (decide (j < i)))) S := rfl
@[simp] theorem cmp_ge : cmpW S .ge (.dat (.int i)) (.dat (.int j)) = .ok (.dat (.bool (decide (j ≤ i)))) S := rfl
@[simp] theorem cmp_eqi : cmpW S .eq (.dat (.int i)) (.dat (.int j)) = .ok (.dat (.bool (decide (i = j)))) S := rfl
@[simp] theorem cmp_nei : cmpW S .ne (.dat (.int i)) (.dat (.int j)) = .ok (.dat (.bool (!decide (i = j)))) S := rfl
@[simp] theorem cmp_eqs : cmpW S .eq (.dat (.str s)) (.dat (.str t)) = .ok (.dat (.bool (decide (s = t)))) S := rfl
@[simp] theorem cmp_nes : cmpW S .ne (.dat (.str s)) (.dat (.str t)) = .ok (.dat (.bool (!decide (s = t)))) S := rfl
@[simp] theorem cmp_is : cmpW S .is (.dat d) (.dat .none) = .ok (.dat (.bool (isNone d))) S := rfl
@[simp] theorem cmp_isn : cmpW S .isn (.dat d) (.dat .none) = .ok (.dat (.bool (!isNone d))) S := rfl
theorem biW_dd {b : BI} {m : Bool} {d : D} (hb : b ≠ .dict := by decide) (hr : b ≠ .repr := by decide) : biW S b m [.dat d] = match biD b [d] with | some d => mk m d S | none => .no := by cases b <;> first | rfl | exact absurd rfl hb | exact absurd rfl hr
theorem biW_dd2 {b : BI} {m : Bool} {d e : D} : biW S b m [.dat d, .dat e] = match biD b [d, e] with | some d => mk m d S | none => .no := by cases b <;> rfl
@[simp] theorem bi_len {m : Bool} : biW S .len false [.dat (.list xs)] = .ok (.dat (.int xs.length)) S := rfl
@[simp] theorem bi_lent {m : Bool} : biW S .len false [.dat (.tuple xs)] = .ok (.dat (.int xs.length)) S := rfl
@[simp] theorem bi_int : biW S .int false [.dat (.int i)] = .ok (.dat (.int i)) S := rfl
@[simp] theorem bi_abs : biW S .abs false [.dat (.int i)] = .ok (.dat (.int (if i < 0 then -i else i))) S := rfl
@[simp] theorem bi_min : biW S .min false [.dat (.int i), .dat (.int j)] = .ok (.dat (.int (if j < i then j else i))) S := rfl
@[simp] theorem bi_max : biW S .max false [.dat (.int i), .dat (.int j)] = .ok (.dat (.int (if j > i then j else i))) S := rfl
@[simp] theorem bi_tuple : biW S .tuple false [.dat (.list xs)] = .ok (.dat (.tuple xs)) S := rfl
@[simp] theorem bi_tuplet : biW S .tuple false [.dat (.tuple xs)] = .ok (.dat (.tuple xs)) S := rfl
@[simp] theorem bi_list : biW S .list false [.dat (.list xs)] = .ok (.dat (.list xs)) S := rfl
@[simp] theorem bi_listt : biW S .list false [.dat (.tuple xs)] = .ok (.dat (.list xs)) S := rfl
@[simp] theorem bi_listc : biW S .list false [.cst xs] = .ok (.dat (.list xs)) S := rfl
@[simp] theorem isi_d {T : Ty5} : isiW S T (.dat d) = .ok (.dat (.bool (isiD T d))) S := rfl
@[simp] theorem neg_d : negW (.dat (.int i)) S = .ok (.dat (.int (-i))) S := rfl
@[simp] theorem not_d : notW (.dat (.bool b)) S = .ok (.dat (.bool (!b))) S := rfl
@[simp] theorem bl_d : blW (.dat (.bool b)) S = .ok (.dat (.bool b)) S := rfl
@[simp] theorem bool_d : boolW (.dat (.bool b)) S = .ok b S := rfl
@[simp] theorem tru_b : truW S (.dat (.bool b)) = .ok (.dat (.bool b)) S := rfl
@[simp] theorem part_d : partW (.dat (.int i)) S = .ok (some i) S := rfl
@[simp] theorem dat_d : datW (.dat d) S = .ok (some d) S := rfl
@[simp] theorem mk_f : mk false d S = .ok (.dat d) S := rfl
@[simp] theorem mk_t : mk true (.list xs) S = .ok (.obj S.length) (S ++ [.lst xs]) := rfl
@[simp] theorem idx_l : idxW S (.dat (.list xs)) (.dat (.int i)) = optD (atI xs i) S := rfl
@[simp] theorem idx_t : idxW S (.dat (.tuple xs)) (.dat (.int i)) = optD (atI xs i) S := rfl
/-- a place that is written -/
@[simp] theorem at_0 {a : D} : atI (a :: xs) 0 = some a := by simp [atI, ixN]
theorem at_s {a : D} {n : Nat} : atI (a :: xs) ((n + 1 : Nat) : Int) = atI xs (n : Int) := by
  unfold atI ixN
  simp only [List.length_cons]
  by_cases h : n < xs.length
  · rw [if_pos (by omega), if_pos (by omega), if_pos (by omega), if_pos (by omega)]; simp
  · rw [if_pos (by omega), if_neg (by omega), if_pos (by omega), if_neg (by omega)]; rfl
@[simp] theorem at_1 {a b : D} : atI (a :: b :: xs) 1 = some b := (at_s (n := 0)).trans at_0
@[simp] theorem at_2 {a b c : D} : atI (a :: b :: c :: xs) 2 = some c := (at_s (n := 1)).trans at_1
@[simp] theorem at_3 {a b c d : D} : atI (a :: b :: c :: d :: xs) 3 = some d := (at_s (n := 2)).trans at_2
end
/-- an item at an open place: what all items fulfil -/
theorem at_in {xs : List D} {i : Int} (h0 : 0 ≤ i) (h1 : i < xs.length) : ∃ d, d ∈ xs ∧ atI xs i = some d := by
  obtain ⟨n, rfl⟩ : ∃ n : Nat, i = n := ⟨i.toNat, by omega⟩
  have hn : n < xs.length := by omega
  exact ⟨xs[n], List.getElem_mem hn, atI_nat (List.getElem?_eq_getElem hn)⟩
theorem log2_lt64 {n k : Nat} (h : n < 2 ^ k) (hk : 0 < k) : n.log2 < k := by
  by_cases hn : n = 0
  · subst hn; simpa using hk
  · exact (Nat.log2_lt hn).mpr h
theorem mulOk_s {i j : Int} (hi : i.natAbs < 2 ^ 64) (hj : j.natAbs < 2 ^ 64) : mulOk i j := by
  unfold mulOk
  have h1 := log2_lt64 hi (by decide)
  have h2 := log2_lt64 hj (by decide)
  omega
theorem divOk_s {j : Int} (h0 : 0 < j) (hj : j.natAbs < 2 ^ 64) : divOk j := ⟨h0, by have := log2_lt64 hj (by decide); omega⟩

/-! ### defs, blocks -/
section
variable {Q : W → Sto → Prop} {n : Nat} {l : Loc} {S : Sto} {w : W}
@[simp] theorem done_bind {r : Rs (Fl × Loc)} : Holds (doneFn n r) Q ↔ Holds r fun x S => Holds (doneFn n (.ok x S)) Q := by
  cases r with
  | ok a S => exact Iff.symm (holds_ok (Q := fun x S => Holds (doneFn n (.ok x S)) Q))
  | ex x S =>
    rw [holds_ex]
    refine ⟨fun h => ?_, fun h => h.elim⟩
    unfold doneFn at h
    dsimp only at h
    split at h
    · exact holds_ex.mp h
    · exact holds_no.mp h
  | no => exact Iff.trans holds_no holds_no.symm
@[simp] theorem done_ret : doneFn n (.ok (.ret w, l) S) = leave n w S := rfl
@[simp] theorem done_nx : doneFn n (.ok (.nx, l) S) = leave n (.dat .none) S := rfl
theorem leave_d {R : Sto} {d : D} (h : R.all (obBelow R.length) = true) : leave R.length (.dat d) R = .ok (.dat d) R := by
  unfold leave
  simp [keepN, h]
variable {f : Loc → Sto → Rs (Fl × Loc)}
@[simp] theorem seq_nx : seqR f (.nx, l) S = f l S := rfl
@[simp] theorem seq_ret : seqR f (.ret w, l) S = .ok (.ret w, l) S := rfl
@[simp] theorem seq_brk : seqR f (.brk, l) S = .ok (.brk, l) S := rfl
@[simp] theorem seq_ct : seqR f (.ct, l) S = .ok (.ct, l) S := rfl
end
/-! ### loops -/
theorem forL_inv {body : D → Loc → Sto → Rs (Fl × Loc)} {Q : Fl × Loc → Sto → Prop} (P : Loc → Sto → Prop) {ds : List D} : ∀ {l : Loc} {S : Sto}, P l S →
    (∀ d, d ∈ ds → ∀ l S, P l S → Holds (body d l S) fun r S' => match r.1 with
      | .nx => P r.2 S'
      | .ct => P r.2 S'
      | .brk => Q (.nx, r.2) S'
      | .ret w => Q (.ret w, r.2) S') → (∀ l S, P l S → Q (.nx, l) S) → Holds (forL body ds l S) Q := by
  induction ds with
  | nil => intro l S h _ e; exact holds_ok.mpr (e l S h)
  | cons d ds ih =>
    intro l S h st e
    show Holds ((body d l S).bind (loopR (forL body ds))) Q
    rw [holds_bind]
    refine (st d List.mem_cons_self l S h).imp fun r S1 q => ?_
    obtain ⟨f, l1⟩ := r
    cases f with
    | nx => exact ih q (fun d hd => st d (List.mem_cons_of_mem _ hd)) e
    | ct => exact ih q (fun d hd => st d (List.mem_cons_of_mem _ hd)) e
    | brk => exact holds_ok.mpr q
    | ret w => exact holds_ok.mpr q
/-- .. by the number of turns behind -/
theorem forL_idx {body : D → Loc → Sto → Rs (Fl × Loc)} {Q : Fl × Loc → Sto → Prop} (P : Nat → Loc → Sto → Prop) {ds : List D} {l : Loc} {S : Sto} (h0 : P 0 l S)
    (st : ∀ i d, ds[i]? = some d → ∀ l S, P i l S → Holds (body d l S) fun r S' => match r.1 with
      | .nx => P (i + 1) r.2 S'
      | .ct => P (i + 1) r.2 S'
      | .brk => Q (.nx, r.2) S'
      | .ret w => Q (.ret w, r.2) S') (e : ∀ l S, P ds.length l S → Q (.nx, l) S) : Holds (forL body ds l S) Q := by
  have gen : ∀ (es : List D) (k : Nat) (l : Loc) (S : Sto), k ≤ ds.length → ds.drop k = es → P k l S → Holds (forL body es l S) Q := by
    intro es
    induction es with
    | nil =>
      intro k l S hle hd h
      have hk : ds.length ≤ k := List.drop_eq_nil_iff.mp hd
      have hk' : k = ds.length := by omega
      exact holds_ok.mpr (e l S (hk' ▸ h))
    | cons d es ih =>
      intro k l S hle hd h
      have hk : ds[k]? = some d := by
        have : (ds.drop k)[0]? = some d := by rw [hd]; rfl
        simpa using this
      have hd' : ds.drop (k + 1) = es := by
        have : (ds.drop k).drop 1 = es := by rw [hd]; rfl
        rw [List.drop_drop] at this; exact this
      show Holds ((body d l S).bind (loopR (forL body es))) Q
      rw [holds_bind]
      refine (st k d hk l S h).imp fun r S1 q => ?_
      obtain ⟨f, l1⟩ := r
      cases f with
      | nx => exact ih (k + 1) l1 S1 (List.getElem?_eq_some_iff.mp hk).1 hd' q
      | ct => exact ih (k + 1) l1 S1 (List.getElem?_eq_some_iff.mp hk).1 hd' q
      | brk => exact holds_ok.mpr q
      | ret w => exact holds_ok.mpr q
  exact gen ds 0 l S (Nat.zero_le _) rfl h0

/-! ### the meaning, step by step: continuations by name -/
section
variable (G : Nat → Option W) (F : Fun')
def wpE (e : E) (l : Loc) (S : Sto) (Q : W → Sto → Prop) : Prop := Holds (ev G F e l S) Q
def wpO (e : E) (l : Loc) (S : Sto) (Q : Option Int → Sto → Prop) : Prop := Holds (evo G F e l S) Q
def wpT (e : E) (l : Loc) (S : Sto) (Q : Bool → Sto → Prop) : Prop := Holds (evt G F e l S) Q
def wpA (e : E) (l : Loc) (S : Sto) (Q : List W → Sto → Prop) : Prop := Holds (evs G F e l S) Q
def wpI (e : E) (l : Loc) (S : Sto) (Q : List D → Sto → Prop) : Prop := Holds (evi G F e l S) Q
def wpG (t : E) (w : W) (l : Loc) (S : Sto) (Q : Loc → Sto → Prop) : Prop := Holds (asg G F t w l S) Q
def wpGs (t : E) (ds : List D) (l : Loc) (S : Sto) (Q : Loc → Sto → Prop) : Prop := Holds (asgs G F t ds l S) Q
def wpS (s : St') (l : Loc) (S : Sto) (Q : Fl × Loc → Sto → Prop) : Prop := Holds (exM G F s l S) Q
def kF {α β : Type} (f : α → Sto → Rs β) (Q : β → Sto → Prop) : α → Sto → Prop := fun x S => Holds (f x S) Q
def kF2 {β : Type} (f : W → W → Sto → Rs β) (x : W) (Q : β → Sto → Prop) : W → Sto → Prop := fun y S => Holds (f x y S) Q
def kE2 {β : Type} (b : E) (l : Loc) (f : W → W → Sto → Rs β) (Q : β → Sto → Prop) : W → Sto → Prop := fun x S => wpE G F b l S (kF2 f x Q)
def kB2 {β : Type} (c : E) (l : Loc) (f : W → W → W → Sto → Rs β) (x : W) (Q : β → Sto → Prop) : W → Sto → Prop := fun y S => wpE G F c l S (kF2 (f x) y Q)
def kE3 {β : Type} (b c : E) (l : Loc) (f : W → W → W → Sto → Rs β) (Q : β → Sto → Prop) : W → Sto → Prop := fun x S => wpE G F b l S (kB2 G F c l f x Q)
def kAndE (b : E) (l : Loc) (Q : W → Sto → Prop) : W → Sto → Prop := fun x S => Holds (ifW x (ev G F b l S) (.ok (.dat (.bool false)) S)) Q
def kOrE (b : E) (l : Loc) (Q : W → Sto → Prop) : W → Sto → Prop := fun x S => Holds (ifW x (.ok (.dat (.bool true)) S) (ev G F b l S)) Q
def kIfE (a b : E) (l : Loc) (Q : W → Sto → Prop) : W → Sto → Prop := fun x S => Holds (ifW x (ev G F a l S) (ev G F b l S)) Q
def kA2 (w : W) (Q : List W → Sto → Prop) : List W → Sto → Prop := fun ws S => Holds (.ok (w :: ws) S) Q
def kA1 (es : E) (l : Loc) (Q : List W → Sto → Prop) : W → Sto → Prop := fun w S => wpA G F es l S (kA2 w Q)
def kSl3 (x : W) (i : Option Int) (Q : W → Sto → Prop) : Option Int → Sto → Prop := fun j S => Holds (slcW S x i j) Q
def kSl2 (hi : E) (l : Loc) (x : W) (Q : W → Sto → Prop) : Option Int → Sto → Prop := fun i S => wpO G F hi l S (kSl3 x i Q)
def kSl1 (lo hi : E) (l : Loc) (Q : W → Sto → Prop) : W → Sto → Prop := fun x S => wpO G F lo l S (kSl2 G F hi l x Q)
def kMt2 (m : MT) (x : W) (Q : W → Sto → Prop) : List W → Sto → Prop := fun ws S => Holds (mthW S m x ws) Q
def kMt1 (m : MT) (es : E) (l : Loc) (Q : W → Sto → Prop) : W → Sto → Prop := fun x S => wpA G F es l S (kMt2 m x Q)
def kMt0 (m : MT) (es : E) (l : Loc) (Q : W → Sto → Prop) : W → Sto → Prop := fun x S => Holds (recvW S x) (kMt1 G F m es l Q)
def compB (vs : List Nat) (elt tg tst : E) (l : Loc) (d : D) (S2 : Sto) : Rs (Option D) := (asg G F tg (.dat d) (wipeL l vs) S2).bind fun l2 S3 => (evt G F tst l2 S3).bind fun c S4 =>
        if c = true then (ev G F elt l2 S4).bind fun y S5 => datW y S5 else .ok none S4
def kMk (m : Bool) (Q : W → Sto → Prop) : List D → Sto → Prop := fun ys S => Holds (mk m (.list ys) S) Q
def kCompE (m : Bool) (vs : List Nat) (elt tg tst : E) (l : Loc) (Q : W → Sto → Prop) : List D → Sto → Prop := fun ds S => Holds (forC (compB G F vs elt tg tst l) ds [] S) (kMk m Q)
def kChnE (o1 o2 : CO) (b c : E) (l : Loc) (Q : W → Sto → Prop) : W → Sto → Prop := fun x S1 => Holds ((ev G F b l S1).bind fun y S2 => (cmpW S2 o1 x y).bind fun z S3 => ifW z ((ev G F c l S3).bind fun u S4 => cmpW S4 o2 y u) (.ok (.dat (.bool false)) S3)) Q
def kExprS (l : Loc) (Q : Fl × Loc → Sto → Prop) : W → Sto → Prop := fun _ S => Holds (.ok (.nx, l) S) Q
def kNx (Q : Fl × Loc → Sto → Prop) : Loc → Sto → Prop := fun l S => Holds (.ok (.nx, l) S) Q
def kSetS (t : E) (l : Loc) (Q : Fl × Loc → Sto → Prop) : W → Sto → Prop := fun w S => wpG G F t w l S (kNx Q)
def kParS (ks : List Nat) (l : Loc) (Q : Fl × Loc → Sto → Prop) : List W → Sto → Prop := fun ws S => Holds (opt (setPar l ks ws) S) (kNx Q)
def kAugS (k : Nat) (op : BO) (x : W) (l : Loc) (Q : Fl × Loc → Sto → Prop) : W → Sto → Prop := fun y S => Holds (augW S op x y) fun z S2 => Holds (.ok (.nx, l.set k (some z)) S2) Q
def kIfS (a b : St') (l : Loc) (Q : Fl × Loc → Sto → Prop) : W → Sto → Prop := fun x S => Holds (ifW x (exM G F a l S) (exM G F b l S)) Q
def forB (tg : E) (b : St') (d : D) (l : Loc) (S : Sto) : Rs (Fl × Loc) := (asg G F tg (.dat d) l S).bind fun l3 S3 => exM G F b l3 S3
def kForS (tg : E) (b : St') (l : Loc) (Q : Fl × Loc → Sto → Prop) : List D → Sto → Prop := fun ds S => Holds (forL (forB G F tg b) ds l S) Q
def kBody (b : St') (Q : Fl × Loc → Sto → Prop) : Loc → Sto → Prop := fun l S => wpS G F b l S Q
def kRetS (l : Loc) (Q : Fl × Loc → Sto → Prop) : W → Sto → Prop := fun w S => Holds (.ok (.ret w, l) S) Q
def kSeq (r : St') (Q : Fl × Loc → Sto → Prop) : Fl × Loc → Sto → Prop := fun x S => Holds (seqR (exM G F r) x S) Q
def kDone (n : Nat) (Q : W → Sto → Prop) : Fl × Loc → Sto → Prop := fun x S => Holds (doneFn n (.ok x S)) Q
def kSub2 (x : W) (w : W) (l : Loc) (Q : Loc → Sto → Prop) : W → Sto → Prop := fun y S => Holds (setW S x y w) fun _ S3 => Holds (.ok l S3) Q
def kSub1 (i : E) (w : W) (l : Loc) (Q : Loc → Sto → Prop) : W → Sto → Prop := fun x S => wpE G F i l S (kSub2 x w l Q)
def kGs (ts : E) (ds : List D) (Q : Loc → Sto → Prop) : Loc → Sto → Prop := fun l S => wpGs G F ts ds l S Q
end
section
variable {G : Nat → Option W} {F : Fun'} {l : Loc} {S : Sto} {Q : W → Sto → Prop} {R : Fl × Loc → Sto → Prop} {a b c e es t i tg it elt tst lo hi : E} {x y w : W} {ws : List W} {k n : Nat} {m bb : Bool} {d : D} {ds : List D} {r : St'}
theorem hb {α β : Type} {r : Rs α} {f : α → Sto → Rs β} {R : β → Sto → Prop} : Holds (r.bind f) R = Holds r fun a S => Holds (f a S) R := propext holds_bind
theorem hb2 {α β γ : Type} {r : Rs α} {f : α → Sto → Rs β} {g : α → β → Sto → Rs γ} {R : γ → Sto → Prop} : Holds (r.bind fun x S => (f x S).bind (g x)) R = Holds r fun x S => Holds (f x S) fun y S => Holds (g x y S) R := by simp only [hb]
theorem hb3 {α β γ δ : Type} {r : Rs α} {f : α → Sto → Rs β} {g : α → β → Sto → Rs γ} {k : α → β → γ → Sto → Rs δ} {R : δ → Sto → Prop} : Holds (r.bind fun x S => (f x S).bind fun y S => (g x y S).bind (k x y)) R = Holds r fun x S => Holds (f x S) fun y S => Holds (g x y S) fun z S => Holds (k x y z S) R := by simp only [hb]
@[simp] theorem we_int {i : Int} : wpE G F (.int i) l S Q ↔ Q (.dat (.int i)) S := holds_ok
@[simp] theorem we_bl {i : Bool} : wpE G F (.bl i) l S Q ↔ Q (.dat (.bool i)) S := holds_ok
@[simp] theorem we_non : wpE G F .non l S Q ↔ Q (.dat .none) S := holds_ok
@[simp] theorem we_str {i : Str} : wpE G F (.str i) l S Q ↔ Q (.dat (.str i)) S := holds_ok
@[simp] theorem we_var : wpE G F (.var k) l S Q ↔ Holds (getV l k S) Q := Iff.rfl
@[simp] theorem getV_z {o : W} : getV (some o :: l) 0 S = .ok o S := rfl
@[simp] theorem getV_s {o : Option W} : getV (o :: l) (k + 1) S = getV l k S := rfl
@[simp] theorem we_glb : wpE G F (.glb k) l S Q ↔ Holds (opt (G k) S) Q := Iff.rfl
@[simp] theorem we_bin {op : BO} : wpE G F (.bin op a b) l S Q ↔ wpE G F a l S (kE2 G F b l (fun x y S => binW S op x y) Q) := Iff.of_eq hb2
@[simp] theorem we_neg : wpE G F (.neg a) l S Q ↔ wpE G F a l S (kF negW Q) := Iff.of_eq hb
@[simp] theorem we_cmp {op : CO} : wpE G F (.cmp op a b) l S Q ↔ wpE G F a l S (kE2 G F b l (fun x y S => cmpW S op x y) Q) := Iff.of_eq hb2
@[simp] theorem we_tcmp {op : CO} : wpE G F (.tcmp op a b) l S Q ↔ wpE G F a l S (kE2 G F b l (fun x y S => (cmpW S op x y).bind blW) Q) := by
  show Holds (Rs.bind (Rs.bind _ fun x S1 => Rs.bind _ _) _) Q ↔ _
  rw [hb, hb2]
  unfold kE2 kF2 wpE
  simp only [hb]
@[simp] theorem we_and : wpE G F (.and a b) l S Q ↔ wpE G F a l S (kAndE G F b l Q) := Iff.of_eq hb
@[simp] theorem we_tand : wpE G F (.tand a b) l S Q ↔ wpE G F a l S (kAndE G F b l Q) := Iff.of_eq hb
@[simp] theorem we_or : wpE G F (.or a b) l S Q ↔ wpE G F a l S (kOrE G F b l Q) := Iff.of_eq hb
@[simp] theorem we_tor : wpE G F (.tor a b) l S Q ↔ wpE G F a l S (kOrE G F b l Q) := Iff.of_eq hb
@[simp] theorem we_not : wpE G F (.not a) l S Q ↔ wpE G F a l S (kF notW Q) := Iff.of_eq hb
@[simp] theorem we_tnot : wpE G F (.tnot a) l S Q ↔ wpE G F a l S (kF notW Q) := Iff.of_eq hb
@[simp] theorem we_tv : wpE G F (.tv a) l S Q ↔ wpE G F a l S (kF (fun x S => truW S x) Q) := Iff.of_eq hb
@[simp] theorem we_one : wpE G F (.one a) l S Q ↔ wpE G F a l S Q := Iff.rfl
@[simp] theorem we_ifx : wpE G F (.ifx t a b) l S Q ↔ wpE G F t l S (kIfE G F a b l Q) := Iff.of_eq hb
@[simp] theorem we_chn {o1 o2 : CO} : wpE G F (.chn o1 o2 a b c) l S Q ↔ wpE G F a l S (kChnE G F o1 o2 b c l Q) := Iff.of_eq hb
@[simp] theorem we_tup : wpE G F (.tup es) l S Q ↔ wpA G F es l S (kF tupW Q) := Iff.of_eq hb
@[simp] theorem we_lst : wpE G F (.lst m es) l S Q ↔ wpA G F es l S (kF (lstW m) Q) := Iff.of_eq hb
@[simp] theorem we_idx : wpE G F (.idx a b) l S Q ↔ wpE G F a l S (kE2 G F b l (fun x y S => idxW S x y) Q) := Iff.of_eq hb2
@[simp] theorem we_slc : wpE G F (.slc a lo hi) l S Q ↔ wpE G F a l S (kSl1 G F lo hi l Q) := Iff.of_eq hb3
@[simp] theorem we_call : wpE G F (.call k es) l S Q ↔ wpA G F es l S (kF (F k) Q) := Iff.of_eq hb
@[simp] theorem we_bi {f : BI} : wpE G F (.bi f m es) l S Q ↔ wpA G F es l S (kF (fun ws S => biW S f m ws) Q) := Iff.of_eq hb
@[simp] theorem we_isi {T : Ty5} : wpE G F (.isi T a) l S Q ↔ wpE G F a l S (kF (fun x S => isiW S T x) Q) := Iff.of_eq hb
@[simp] theorem we_mth {m : MT} : wpE G F (.mth m a es) l S Q ↔ wpE G F a l S (kMt0 G F m es l Q) := Iff.of_eq hb3
@[simp] theorem we_trev : wpE G F (.trev a) l S Q ↔ wpE G F a l S (kF revW Q) := Iff.of_eq hb
@[simp] theorem we_comp {vs : List Nat} : wpE G F (.comp m vs elt tg it tst) l S Q ↔ wpI G F it l S (kCompE G F m vs elt tg tst l Q) := Iff.of_eq hb2
@[simp] theorem kf_ap {α β : Type} {f : α → Sto → Rs β} {Q : β → Sto → Prop} {x : α} : kF f Q x S ↔ Holds (f x S) Q := Iff.rfl
@[simp] theorem kf2_ap {β : Type} {f : W → W → Sto → Rs β} {Q : β → Sto → Prop} : kF2 f x Q y S ↔ Holds (f x y S) Q := Iff.rfl
@[simp] theorem ke2_ap {β : Type} {f : W → W → Sto → Rs β} {Q : β → Sto → Prop} : kE2 G F b l f Q x S ↔ wpE G F b l S (kF2 f x Q) := Iff.rfl
@[simp] theorem ke3_ap {β : Type} {f : W → W → W → Sto → Rs β} {Q : β → Sto → Prop} : kE3 G F b c l f Q x S ↔ wpE G F b l S (kB2 G F c l f x Q) := Iff.rfl
@[simp] theorem kb2_ap {β : Type} {f : W → W → W → Sto → Rs β} {Q : β → Sto → Prop} : kB2 G F c l f x Q y S ↔ wpE G F c l S (kF2 (f x) y Q) := Iff.rfl
@[simp] theorem kand_t : kAndE G F b l Q (.dat (.bool true)) S ↔ wpE G F b l S Q := Iff.rfl
@[simp] theorem kand_f : kAndE G F b l Q (.dat (.bool false)) S ↔ Q (.dat (.bool false)) S := holds_ok
@[simp] theorem kor_f : kOrE G F b l Q (.dat (.bool false)) S ↔ wpE G F b l S Q := Iff.rfl
@[simp] theorem kor_t : kOrE G F b l Q (.dat (.bool true)) S ↔ Q (.dat (.bool true)) S := holds_ok
@[simp] theorem kif_t : kIfE G F a b l Q (.dat (.bool true)) S ↔ wpE G F a l S Q := Iff.rfl
@[simp] theorem kif_f : kIfE G F a b l Q (.dat (.bool false)) S ↔ wpE G F b l S Q := Iff.rfl
theorem kand_b (h1 : bb = true → wpE G F b l S Q) (h2 : bb = false → Q (.dat (.bool false)) S) : kAndE G F b l Q (.dat (.bool bb)) S := by cases bb <;> first | exact h1 rfl | exact h2 rfl | exact holds_ok.mpr (h1 rfl) | exact holds_ok.mpr (h2 rfl)
theorem kor_b (h1 : bb = true → Q (.dat (.bool true)) S) (h2 : bb = false → wpE G F b l S Q) : kOrE G F b l Q (.dat (.bool bb)) S := by cases bb <;> first | exact h1 rfl | exact h2 rfl | exact holds_ok.mpr (h1 rfl) | exact holds_ok.mpr (h2 rfl)
theorem kif_b (h1 : bb = true → wpE G F a l S Q) (h2 : bb = false → wpE G F b l S Q) : kIfE G F a b l Q (.dat (.bool bb)) S := by cases bb <;> first | exact h1 rfl | exact h2 rfl | exact holds_ok.mpr (h1 rfl) | exact holds_ok.mpr (h2 rfl)
@[simp] theorem wa_nil {Q : List W → Sto → Prop} : wpA G F .nil l S Q ↔ Q [] S := holds_ok
@[simp] theorem wa_cons {Q : List W → Sto → Prop} : wpA G F (.cons e es) l S Q ↔ wpE G F e l S (kA1 G F es l Q) := Iff.of_eq hb2
@[simp] theorem ka1_ap {Q : List W → Sto → Prop} : kA1 G F es l Q w S ↔ wpA G F es l S (kA2 w Q) := Iff.rfl
@[simp] theorem ka2_ap {Q : List W → Sto → Prop} : kA2 w Q ws S ↔ Q (w :: ws) S := holds_ok
@[simp] theorem wo_nil {Q : Option Int → Sto → Prop} : wpO G F .nil l S Q ↔ Q none S := holds_ok
@[simp] theorem wo_cons {Q : Option Int → Sto → Prop} : wpO G F (.cons e es) l S Q ↔ wpE G F e l S (kF partW Q) := Iff.of_eq hb
@[simp] theorem ksl1_ap : kSl1 G F lo hi l Q x S ↔ wpO G F lo l S (kSl2 G F hi l x Q) := Iff.rfl
@[simp] theorem ksl2_ap {i : Option Int} : kSl2 G F hi l x Q i S ↔ wpO G F hi l S (kSl3 x i Q) := Iff.rfl
@[simp] theorem ksl3_ap {i j : Option Int} : kSl3 x i Q j S ↔ Holds (slcW S x i j) Q := Iff.rfl
@[simp] theorem kmt0_ap {m : MT} : kMt0 G F m es l Q x S ↔ Holds (recvW S x) (kMt1 G F m es l Q) := Iff.rfl
@[simp] theorem kmt1_ap {m : MT} : kMt1 G F m es l Q x S ↔ wpA G F es l S (kMt2 m x Q) := Iff.rfl
@[simp] theorem kmt2_ap {m : MT} : kMt2 m x Q ws S ↔ Holds (mthW S m x ws) Q := Iff.rfl
@[simp] theorem kcomp_ap {vs : List Nat} : kCompE G F m vs elt tg tst l Q ds S ↔ Holds (forC (compB G F vs elt tg tst l) ds [] S) (kMk m Q) := Iff.rfl
@[simp] theorem kmk_ap : kMk m Q ds S ↔ Holds (mk m (.list ds) S) Q := Iff.rfl
def kCmpI (elt : E) (Q : Option D → Sto → Prop) (l2 : Loc) : Bool → Sto → Prop := fun c S4 => Holds (if c = true then (ev G F elt l2 S4).bind fun y S5 => datW y S5 else .ok none S4) Q
@[simp] theorem kcmpi_t {Q : Option D → Sto → Prop} : kCmpI (G := G) (F := F) elt Q l true S ↔ wpE G F elt l S (kF datW Q) := by
  show Holds (if true = true then _ else _) Q ↔ _
  rw [if_pos rfl, hb]; rfl
@[simp] theorem kcmpi_f {Q : Option D → Sto → Prop} : kCmpI (G := G) (F := F) elt Q l false S ↔ Q none S := holds_ok
def kCmpT (elt tst : E) (Q : Option D → Sto → Prop) : Loc → Sto → Prop := fun l2 S3 => wpT G F tst l2 S3 (kCmpI (G := G) (F := F) elt Q l2)
@[simp] theorem kcmpt_ap {Q : Option D → Sto → Prop} : kCmpT (G := G) (F := F) elt tst Q l S ↔ wpT G F tst l S (kCmpI (G := G) (F := F) elt Q l) := Iff.rfl
theorem comp_ap {vs : List Nat} {Q : Option D → Sto → Prop} : Holds (compB G F vs elt tg tst l d S) Q ↔ wpG G F tg (.dat d) (wipeL l vs) S (kCmpT (G := G) (F := F) elt tst Q) := Iff.of_eq hb2
@[simp] theorem wt_nil {Q : Bool → Sto → Prop} : wpT G F .nil l S Q ↔ Q true S := holds_ok
@[simp] theorem wt_cons {Q : Bool → Sto → Prop} : wpT G F (.cons e es) l S Q ↔ wpE G F e l S (kF boolW Q) := Iff.of_eq hb
@[simp] theorem wi_isq {Q : List D → Sto → Prop} : wpI G F (.isq e) l S Q ↔ wpE G F e l S (kF seqW Q) := Iff.of_eq hb
@[simp] theorem wi_irev {Q : List D → Sto → Prop} : wpI G F (.irev e) l S Q ↔ wpE G F e l S (kF irevW Q) := Iff.of_eq hb
@[simp] theorem wi_r1 {Q : List D → Sto → Prop} : wpI G F (.irg1 a) l S Q ↔ wpE G F a l S (kF rng1W Q) := Iff.of_eq hb
@[simp] theorem wi_r2 {Q : List D → Sto → Prop} : wpI G F (.irg2 a b) l S Q ↔ wpE G F a l S (kE2 G F b l rng2W Q) := Iff.of_eq hb2
@[simp] theorem wi_r3 {Q : List D → Sto → Prop} : wpI G F (.irg3 a b c) l S Q ↔ wpE G F a l S (kE3 G F b c l rng3W Q) := Iff.of_eq hb3
@[simp] theorem wg_nm {Q : Loc → Sto → Prop} : wpG G F (.tnm k) w l S Q ↔ Q (l.set k (some w)) S := holds_ok
@[simp] theorem wg_sub {Q : Loc → Sto → Prop} : wpG G F (.tsub a i) w l S Q ↔ wpE G F a l S (kSub1 G F i w l Q) := Iff.of_eq hb3
@[simp] theorem ksub1_ap {Q : Loc → Sto → Prop} : kSub1 G F i w l Q x S ↔ wpE G F i l S (kSub2 x w l Q) := Iff.rfl
@[simp] theorem ksub2_ap {Q : Loc → Sto → Prop} : kSub2 x w l Q y S ↔ Holds (setW S x y w) fun _ S3 => Holds (.ok l S3) Q := Iff.rfl
theorem wg_tup {ts : E} {Q : Loc → Sto → Prop} : wpG G F (.ttup ts) (.dat (.tuple ds)) l S Q ↔ ds.length = elen ts ∧ wpGs G F ts ds l S Q := by
  show Holds (if ds.length = elen ts then _ else _) Q ↔ _
  split
  · rename_i h; exact ⟨fun q => ⟨h, q⟩, fun q => q.2⟩
  · rename_i h; exact ⟨fun q => q.ff.elim, fun q => (h q.1).elim⟩
@[simp] theorem wgs_nil {Q : Loc → Sto → Prop} : wpGs G F .nil [] l S Q ↔ Q l S := holds_ok
@[simp] theorem wgs_cons {ts : E} {Q : Loc → Sto → Prop} : wpGs G F (.cons t ts) (d :: ds) l S Q ↔ wpG G F t (.dat d) l S (kGs G F ts ds Q) := by
  show Holds ((asg G F t (.dat d) l S).bind fun l1 S1 => asgs G F ts ds l1 S1) Q ↔ _
  rw [hb]; rfl
@[simp] theorem kgs_ap {ts : E} {Q : Loc → Sto → Prop} : kGs G F ts ds Q l S ↔ wpGs G F ts ds l S Q := Iff.rfl
variable {s u v : St'}
@[simp] theorem ws_expr : wpS G F (.expr e) l S R ↔ wpE G F e l S (kExprS l R) := Iff.of_eq hb
@[simp] theorem kexprs_ap : kExprS l R w S ↔ R (.nx, l) S := holds_ok
@[simp] theorem ws_set : wpS G F (.set t e) l S R ↔ wpE G F e l S (kSetS G F t l R) := Iff.of_eq hb2
@[simp] theorem ksets_ap : kSetS G F t l R w S ↔ wpG G F t w l S (kNx R) := Iff.rfl
@[simp] theorem knx_ap : kNx R l S ↔ R (.nx, l) S := holds_ok
@[simp] theorem ws_par {ks : List Nat} : wpS G F (.par ks es) l S R ↔ wpA G F es l S (kParS ks l R) := Iff.of_eq hb2
@[simp] theorem kpars_ap {ks : List Nat} : kParS ks l R ws S ↔ Holds (opt (setPar l ks ws) S) (kNx R) := Iff.rfl
@[simp] theorem ws_cond : wpS G F (.cond t u v) l S R ↔ wpE G F t l S (kIfS G F u v l R) := Iff.of_eq hb
@[simp] theorem kifs_t : kIfS G F u v l R (.dat (.bool true)) S ↔ wpS G F u l S R := Iff.rfl
@[simp] theorem kifs_f : kIfS G F u v l R (.dat (.bool false)) S ↔ wpS G F v l S R := Iff.rfl
theorem kifs_b (h1 : bb = true → wpS G F u l S R) (h2 : bb = false → wpS G F v l S R) : kIfS G F u v l R (.dat (.bool bb)) S := by cases bb <;> first | exact h1 rfl | exact h2 rfl | exact holds_ok.mpr (h1 rfl) | exact holds_ok.mpr (h2 rfl)
@[simp] theorem ws_for : wpS G F (.for tg it r) l S R ↔ wpI G F it l S (kForS G F tg r l R) := Iff.of_eq hb
@[simp] theorem kfors_ap : kForS G F tg r l R ds S ↔ Holds (forL (forB G F tg r) ds l S) R := Iff.rfl
theorem forB_ap : Holds (forB G F tg r d l S) R ↔ wpG G F tg (.dat d) l S (kBody G F r R) := by unfold forB; rw [hb]; rfl
@[simp] theorem kbody_ap : kBody G F r R l S ↔ wpS G F r l S R := Iff.rfl
@[simp] theorem ws_ret : wpS G F (.ret e) l S R ↔ wpE G F e l S (kRetS l R) := Iff.of_eq hb
@[simp] theorem krets_ap : kRetS l R w S ↔ R (.ret w, l) S := holds_ok
@[simp] theorem ws_retN : wpS G F .retN l S R ↔ R (.ret (.dat .none), l) S := holds_ok
@[simp] theorem ws_brk : wpS G F .brk l S R ↔ R (.brk, l) S := holds_ok
@[simp] theorem ws_ct : wpS G F .ct l S R ↔ R (.ct, l) S := holds_ok
@[simp] theorem ws_pass : wpS G F .pass l S R ↔ R (.nx, l) S := holds_ok
@[simp] theorem wS_nil : wpS G F .nil l S R ↔ R (.nx, l) S := holds_ok
@[simp] theorem ws_frz : wpS G F (.frz k) l S R ↔ Holds (getV l k S) (kF (fun x S => frzW l k S x) R) := Iff.of_eq hb
@[simp] theorem ws_cons : wpS G F (.cons s r) l S R ↔ wpS G F s l S (kSeq G F r R) := Iff.of_eq hb
@[simp] theorem ws_whl : wpS G F (.whl t r) l S R ↔ Holds (whlL (ev G F t) (exM G F r) whlFuel l S) R := Iff.rfl
@[simp] theorem kseq_nx : kSeq G F r R (.nx, l) S ↔ wpS G F r l S R := Iff.rfl
@[simp] theorem kseq_ret : kSeq G F r R (.ret w, l) S ↔ R (.ret w, l) S := holds_ok
@[simp] theorem kseq_brk : kSeq G F r R (.brk, l) S ↔ R (.brk, l) S := holds_ok
@[simp] theorem kseq_ct : kSeq G F r R (.ct, l) S ↔ R (.ct, l) S := holds_ok
@[simp] theorem kdone_ret : kDone n Q (.ret w, l) S ↔ Holds (leave n w S) Q := Iff.rfl
@[simp] theorem kdone_nx : kDone n Q (.nx, l) S ↔ Holds (leave n (.dat .none) S) Q := Iff.rfl
theorem call_def {ft : Nat → Option Fn} {f : Nat} {fn : Fn} (h1 : ft f = some fn) (h2 : ws.length = fn.np) (h : wpS G (callM G ft n) fn.body (start' ws fn.nn) S (kDone S.length Q)) (hp : plainB fn.body = true := by rfl) : Holds (callM G ft (n + 1) f ws S) Q := by
  unfold callM
  rw [h1]
  simp only [h2, if_true]
  rw [runB_plain hp, done_bind]
  exact h
theorem kifs_cut (M : Fl × Loc → Sto → Prop) (h : kIfS G F u v l M x S) (i : ∀ y S, M y S → R y S) : kIfS G F u v l R x S := Holds.imp h i
theorem ws_cut (M : Fl × Loc → Sto → Prop) (h : wpS G F s l S M) (i : ∀ y S, M y S → R y S) : wpS G F s l S R := Holds.imp h i
theorem we_cut (M : W → Sto → Prop) (h : wpE G F e l S M) (i : ∀ y S, M y S → Q y S) : wpE G F e l S Q := Holds.imp h i
end
/-! ### the first object -/
section
variable {ds : List D} {R : Sto} {i : Int} {d : D}
@[simp] theorem idx_o0 : idxW (.lst ds :: R) (.obj 0) (.dat (.int i)) = optD (atI ds i) (.lst ds :: R) := rfl
@[simp] theorem set_o0 : setW (.lst ds :: R) (.obj 0) (.dat (.int i)) (.dat d) = match ixN ds.length i with | some j => .ok () (.lst (ds.set j d) :: R) | none => .no := rfl
@[simp] theorem ix4_0 : ixN 4 0 = some 0 := by decide
@[simp] theorem ix4_1 : ixN 4 1 = some 1 := by decide
@[simp] theorem ix4_2 : ixN 4 2 = some 2 := by decide
@[simp] theorem ix4_3 : ixN 4 3 = some 3 := by decide
/-- older objects mean nothing that is newer -/
def Cl (R : Sto) : Prop := ∀ n, R.length + 1 ≤ n → R.all (obBelow n) = true
theorem leave_0 {n : Nat} {d : D} (hn : n = R.length + 1) (h : Cl R) : leave n (.dat d) (.lst ds :: R) = .ok (.dat d) (.lst ds :: R) := by
  subst hn
  have := h (R.length + 1) (Nat.le_refl _)
  unfold leave
  simp [keepN, this, obBelow]
end
/-! ### comprehensions -/
theorem forC_idx {body : D → Sto → Rs (Option D)} {Q : List D → Sto → Prop} (P : Nat → List D → Sto → Prop) {ds acc : List D} {S : Sto} (h0 : P 0 acc S)
    (st : ∀ i d, ds[i]? = some d → ∀ acc S, P i acc S → Holds (body d S) fun r S' => match r with
      | some y => acc.length < sizeLine ∧ P (i + 1) (acc ++ [y]) S'
      | none => P (i + 1) acc S') (e : ∀ acc S, P ds.length acc S → Q acc S) : Holds (forC body ds acc S) Q := by
  have gen : ∀ (es : List D) (k : Nat) (acc : List D) (S : Sto), k ≤ ds.length → ds.drop k = es → P k acc S → Holds (forC body es acc S) Q := by
    intro es
    induction es with
    | nil =>
      intro k acc S hle hd h
      have hk : ds.length ≤ k := List.drop_eq_nil_iff.mp hd
      have hk' : k = ds.length := by omega
      exact holds_ok.mpr (e acc S (hk' ▸ h))
    | cons d es ih =>
      intro k acc S hle hd h
      have hk : ds[k]? = some d := by
        have : (ds.drop k)[0]? = some d := by rw [hd]; rfl
        simpa using this
      have hd' : ds.drop (k + 1) = es := by
        have : (ds.drop k).drop 1 = es := by rw [hd]; rfl
        rw [List.drop_drop] at this; exact this
      have hl := (List.getElem?_eq_some_iff.mp hk).1
      show Holds ((body d S).bind fun r S1 => match r with
        | some y => if acc.length < sizeLine then forC body es (acc ++ [y]) S1 else .no
        | none => forC body es acc S1) Q
      rw [hb]
      refine (st k d hk acc S h).imp fun r S1 q => ?_
      cases r with
      | none => exact ih (k + 1) acc S1 hl hd' q
      | some y =>
        show Holds (if acc.length < sizeLine then _ else _) Q
        rw [if_pos q.1]
        exact ih (k + 1) (acc ++ [y]) S1 hl hd' q.2
  exact gen ds 0 acc S (Nat.zero_le _) rfl h0
/-- every item made into one -/
theorem forC_all {body : D → Sto → Rs (Option D)} {Q : List D → Sto → Prop} (P : D → Prop) {ds : List D} {S : Sto} (hl : ds.length ≤ sizeLine)
    (st : ∀ d, d ∈ ds → Holds (body d S) fun r S' => S' = S ∧ ∃ y, r = some y ∧ P y) (e : ∀ ys, ys.length = ds.length → (∀ y, y ∈ ys → P y) → Q ys S) : Holds (forC body ds [] S) Q := by
  refine forC_idx (fun i acc S' => S' = S ∧ acc.length = i ∧ i ≤ ds.length ∧ ∀ y, y ∈ acc → P y) ⟨rfl, rfl, Nat.zero_le _, fun y h => absurd h (by simp)⟩ ?_ ?_
  · rintro i d hd acc S' ⟨rfl, rfl, hle, ha⟩
    have hlt := (List.getElem?_eq_some_iff.mp hd).1
    refine (st d (List.mem_of_getElem? hd)).imp ?_
    rintro r S1 ⟨rfl, y, rfl, hy⟩
    refine ⟨by omega, rfl, by simp, hlt, fun z hz => ?_⟩
    rcases List.mem_append.mp hz with hz | hz
    · exact ha z hz
    · rw [List.mem_singleton.mp hz]; exact hy
  · rintro acc S' ⟨rfl, h1, _, h2⟩
    exact e acc h1 h2
theorem forC_map {body : D → Sto → Rs (Option D)} {Q : List D → Sto → Prop} (g : D → D) {ds : List D} {S : Sto} (hl : ds.length ≤ sizeLine)
    (st : ∀ d, d ∈ ds → Holds (body d S) fun r S' => S' = S ∧ r = some (g d)) (e : Q (ds.map g) S) : Holds (forC body ds [] S) Q := by
  refine forC_idx (fun i acc S' => S' = S ∧ acc = (ds.take i).map g) ⟨rfl, by simp⟩ ?_ ?_
  · rintro i d hd acc S' ⟨rfl, rfl⟩
    have hlt := (List.getElem?_eq_some_iff.mp hd).1
    refine (st d (List.mem_of_getElem? hd)).imp ?_
    rintro r S1 ⟨rfl, rfl⟩
    refine ⟨by rw [List.length_map, List.length_take]; omega, rfl, ?_⟩
    rw [List.take_add_one, hd]; simp
  · rintro acc S' ⟨rfl, rfl⟩
    simpa using e
theorem ints_of : ∀ {ys : List D} {P : Int → Prop}, (∀ y, y ∈ ys → ∃ x, y = .int x ∧ P x) → ∃ xs : List Int, ys = xs.map .int ∧ ∀ x, x ∈ xs → P x
  | [], _, _ => ⟨[], rfl, fun _ h => absurd h (by simp)⟩
  | y :: ys, P, h => by
    obtain ⟨x, rfl, hx⟩ := h y List.mem_cons_self
    obtain ⟨xs, rfl, hxs⟩ := ints_of fun z hz => h z (List.mem_cons_of_mem _ hz)
    refine ⟨x :: xs, rfl, fun z hz => ?_⟩
    rcases List.mem_cons.mp hz with rfl | hz
    · exact hx
    · exact hxs z hz
@[simp] theorem seq_l {ds : List D} {S : Sto} : seqW (.dat (.list ds)) S = .ok ds S := rfl
@[simp] theorem seq_t {ds : List D} {S : Sto} : seqW (.dat (.tuple ds)) S = .ok ds S := rfl
@[simp] theorem seq_s {ds : List D} {S : Sto} : seqW (.scr ds) S = .ok ds S := rfl
@[simp] theorem seq_c {ds : List D} {S : Sto} : seqW (.cst ds) S = .ok ds S := rfl
theorem lst_w {m : Bool} {ws : List W} {ds : List D} {S : Sto} (h : dsOf ws = some ds) (hl : ds.length ≤ sizeLine) : lstW m ws S = mk m (.list ds) S := by
  unfold lstW
  rw [h]
  show (if ds.length ≤ sizeLine then _ else _) = _
  rw [if_pos hl]
theorem tup_w {ws : List W} {ds : List D} {S : Sto} (h : dsOf ws = some ds) (hl : ds.length ≤ sizeLine) : tupW ws S = .ok (.dat (.tuple ds)) S := by
  unfold tupW
  rw [h]
  show (if ds.length ≤ sizeLine then _ else _) = _
  rw [if_pos hl]
theorem small_len {n : Nat} (h : n ≤ 1000) : n ≤ sizeLine := Nat.le_trans h (by decide)
section
variable {S : Sto} {m : Bool} {a b c d e f g : D}
@[simp] theorem lst_0 : lstW m [] S = mk m (.list []) S := rfl
@[simp] theorem lst_1 : lstW m [.dat a] S = mk m (.list [a]) S := lst_w rfl (small_len (by simp))
@[simp] theorem lst_2 : lstW m [.dat a, .dat b] S = mk m (.list [a, b]) S := lst_w rfl (small_len (by simp))
@[simp] theorem lst_3 : lstW m [.dat a, .dat b, .dat c] S = mk m (.list [a, b, c]) S := lst_w rfl (small_len (by simp))
@[simp] theorem lst_4 : lstW m [.dat a, .dat b, .dat c, .dat d] S = mk m (.list [a, b, c, d]) S := lst_w rfl (small_len (by simp))
@[simp] theorem lst_5 : lstW m [.dat a, .dat b, .dat c, .dat d, .dat e] S = mk m (.list [a, b, c, d, e]) S := lst_w rfl (small_len (by simp))
@[simp] theorem lst_6 : lstW m [.dat a, .dat b, .dat c, .dat d, .dat e, .dat f] S = mk m (.list [a, b, c, d, e, f]) S := lst_w rfl (small_len (by simp))
@[simp] theorem lst_7 : lstW m [.dat a, .dat b, .dat c, .dat d, .dat e, .dat f, .dat g] S = mk m (.list [a, b, c, d, e, f, g]) S := lst_w rfl (small_len (by simp))
@[simp] theorem tup_0 : tupW [] S = .ok (.dat (.tuple [])) S := rfl
@[simp] theorem tup_1 : tupW [.dat a] S = .ok (.dat (.tuple [a])) S := tup_w rfl (small_len (by simp))
@[simp] theorem tup_2 : tupW [.dat a, .dat b] S = .ok (.dat (.tuple [a, b])) S := tup_w rfl (small_len (by simp))
@[simp] theorem tup_3 : tupW [.dat a, .dat b, .dat c] S = .ok (.dat (.tuple [a, b, c])) S := tup_w rfl (small_len (by simp))
@[simp] theorem tup_4 : tupW [.dat a, .dat b, .dat c, .dat d] S = .ok (.dat (.tuple [a, b, c, d])) S := tup_w rfl (small_len (by simp))
@[simp] theorem tup_5 : tupW [.dat a, .dat b, .dat c, .dat d, .dat e] S = .ok (.dat (.tuple [a, b, c, d, e])) S := tup_w rfl (small_len (by simp))
end
@[simp] theorem str_eq {a b : String} : ((Str.ofString a) = (Str.ofString b)) ↔ a = b := by
  refine ⟨fun h => ?_, fun h => by rw [h]⟩
  have h1 : (a.toList.map Char.toNat) = (b.toList.map Char.toNat) := by
    rw [Str.ofString_eq_toList, Str.ofString_eq_toList] at h
    have := congrArg (fun s : Str => s.cps.toList) h
    simpa using this
  have h2 : a.toList = b.toList := (List.map_inj_right (fun c d e => Char.ext (UInt32.toNat_inj.mp e))).mp h1
  exact String.ext h2
section
variable {S : Sto} {x : D} {ys : List D}
@[simp] theorem cmp_isin : cmpW S .isin (.dat x) (.dat (.list ys)) = if flatD x = true ∧ ys.all flatD = true then .ok (.dat (.bool (ys.any fun y => PyData.eqv y x))) S else .no := by
  rw [cmpW_d]; show (match inD x ys with | some c => _ | none => _) = _
  unfold inD; by_cases h : flatD x = true ∧ ys.all flatD = true <;> simp only [h, if_true, if_false] <;> rfl
@[simp] theorem cmp_isinT : cmpW S .isin (.dat x) (.dat (.tuple ys)) = if flatD x = true ∧ ys.all flatD = true then .ok (.dat (.bool (ys.any fun y => PyData.eqv y x))) S else .no := by
  rw [cmpW_d]; show (match inD x ys with | some c => _ | none => _) = _
  unfold inD; by_cases h : flatD x = true ∧ ys.all flatD = true <;> simp only [h, if_true, if_false] <;> rfl
@[simp] theorem flat_i {i : Int} : flatD (.int i) = true := rfl
@[simp] theorem flat_s {i : Str} : flatD (.str i) = true := rfl
@[simp] theorem flat_b {i : Bool} : flatD (.bool i) = true := rfl
@[simp] theorem flat_n : flatD .none = true := rfl
@[simp] theorem eqv_ss {a b : Str} : PyData.eqv (.str a) (.str b) = decide (a = b) := rfl
@[simp] theorem eqv_ii {a b : Int} : PyData.eqv (.int a) (.int b) = decide (a = b) := rfl
@[simp] theorem isi_1 {i : Int} : isiD .int (.int i) = true := rfl
@[simp] theorem isi_2 {i : Int} : isiD .bool (.int i) = false := rfl
@[simp] theorem isi_3 {i : Bool} : isiD .int (.bool i) = true := rfl
@[simp] theorem isi_4 {i : Bool} : isiD .bool (.bool i) = true := rfl
@[simp] theorem isi_5 {i : List D} : isiD .int (.list i) = false := rfl
@[simp] theorem isi_6 {i : List D} : isiD .int (.tuple i) = false := rfl
@[simp] theorem isi_7 {i : List D} : isiD .list (.list i) = true := rfl
@[simp] theorem isi_8 {i : List D} : isiD .list (.tuple i) = false := rfl
@[simp] theorem isi_9 {i : List D} : isiD .tuple (.tuple i) = true := rfl
@[simp] theorem isi_a {i : List D} : isiD .tuple (.list i) = false := rfl
@[simp] theorem isi_b {i : Str} : isiD .str (.str i) = true := rfl
@[simp] theorem isi_c {i : Str} : isiD .int (.str i) = false := rfl
@[simp] theorem isi_d' {i : Int} : isiD .str (.int i) = false := rfl
@[simp] theorem isi_e {i : Int} : isiD .tuple (.int i) = false := rfl
@[simp] theorem isi_f {i : Int} : isiD .list (.int i) = false := rfl
@[simp] theorem isi_g : isiD .int .none = false := rfl
@[simp] theorem isi_h : isiD .tuple .none = false := rfl
@[simp] theorem isi_i : isiD .list .none = false := rfl
end
/-- no object means one that is newer -/
def ClS (S : Sto) : Prop := ∀ n, S.length ≤ n → S.all (obBelow n) = true
theorem cls_cons {R : Sto} {ds : List D} (h : Cl R) : ClS (.lst ds :: R) := fun n hn => by
  have := h n (by simpa using hn)
  simp [obBelow, this]
theorem cl_nil : Cl [] := fun _ _ => rfl
theorem leave_same {n : Nat} {d : D} {S : Sto} (hn : n = S.length) (h : ClS S) : leave n (.dat d) S = .ok (.dat d) S := by
  subst hn
  have := h S.length (Nat.le_refl _)
  unfold leave
  simp [keepN, this]
/-- .. when the def made objects of its own -/
theorem leave_more {n : Nat} {d : D} {S T : Sto} (hn : n = S.length) (h : ClS S) : leave n (.dat d) (S ++ T) = .ok (.dat d) S := by
  subst hn
  have := h S.length (Nat.le_refl _)
  unfold leave
  simp [keepN, this]
theorem shl_1 {w : Nat} (h : w ≤ 1000000) : shlOk 1 w := ⟨by omega, by omega, by decide⟩
theorem pow_pos' (w : Nat) : (0 : Int) < 2 ^ w := Int.pow_pos (by decide)
theorem pow_le32 {w : Nat} (h : w ≤ 32) : (2 : Int) ^ w ≤ 4294967296 := by
  have : (2 : Int) ^ w ≤ 2 ^ 32 := by exact_mod_cast Nat.pow_le_pow_right (by decide : 0 < 2) h
  simpa using this
/-- exactly this -/
def IsQ {α : Type} (a : α) (S : Sto) : α → Sto → Prop := fun x S' => x = a ∧ S' = S
@[simp] theorem isq_ap {α : Type} {a x : α} {S S' : Sto} : IsQ a S x S' ↔ x = a ∧ S' = S := Iff.rfl
theorem is_eq {α : Type} {r : Rs α} {a : α} {S : Sto} (h : Holds r (IsQ a S)) : r = .ok a S := by
  obtain ⟨x, S', e, rfl, rfl⟩ := h.ex
  exact e
theorem lt_cast {x w : Nat} (h : x < 2 ^ w) (hw : w ≤ 32) : (x : Int) < 4294967296 := by
  have h2 : 2 ^ w ≤ 2 ^ 32 := Nat.pow_le_pow_right (by decide) hw
  have h3 : x < 4294967296 := Nat.lt_of_lt_of_le h h2
  omega
theorem rngH_len (lo c : Int) : ∀ n, (rng lo c n).length = n
  | 0 => rfl
  | n + 1 => by simp [rng, rngH_len (lo + c) c n]
theorem rngH_get {lo c : Int} : ∀ {n i : Nat} {d : D}, (rng lo c n)[i]? = some d → i < n ∧ d = .int (lo + i * c)
  | 0, i, d, h => by simp [rng] at h
  | n + 1, 0, d, h => by simp [rng] at h; exact ⟨by omega, by rw [← h]; simp⟩
  | n + 1, i + 1, d, h => by
    have := rngH_get (n := n) (i := i) (d := d) (lo := lo + c) (by simpa [rng] using h)
    refine ⟨by omega, ?_⟩
    rw [this.2]
    congr 1
    rw [Int.natCast_add, Int.add_mul]
    omega
@[simp] theorem rng1_d {i : Int} {S : Sto} : rng1W (.dat (.int i)) S = if smallI i = true then .ok (rng 0 1 i.toNat) S else .no := rfl
@[simp] theorem rng2_d {i j : Int} {S : Sto} : rng2W (.dat (.int i)) (.dat (.int j)) S = if smallI i = true ∧ smallI j = true then .ok (rng i 1 (j - i).toNat) S else .no := rfl
@[simp] theorem rng3_d {i j k : Int} {S : Sto} : rng3W (.dat (.int i)) (.dat (.int j)) (.dat (.int k)) S = if k = -1 ∧ smallI i = true ∧ smallI j = true then .ok (rng i (-1) (i - j).toNat) S else .no := rfl
theorem small_i {i : Int} (h0 : -1000000 ≤ i) (h1 : i ≤ 1000000) : smallI i = true := by
  unfold smallI
  rw [Bool.and_eq_true, decide_eq_true_eq, decide_eq_true_eq]
  omega
theorem at_all {xs : List D} {i : Int} (P : D → Prop) (h0 : 0 ≤ i) (h1 : i < xs.length) (h : ∀ d, d ∈ xs → P d) : ∃ d, P d ∧ atI xs i = some d := by
  obtain ⟨d, hd, e⟩ := at_in h0 h1
  exact ⟨d, h d hd, e⟩
theorem nat_of {i : Int} (h : 0 ≤ i) : ∃ n : Nat, i = n := ⟨i.toNat, by omega⟩
theorem holds_at {xs : List D} {i : Int} {S : Sto} {Q : W → Sto → Prop} (P : D → Prop) (h0 : 0 ≤ i) (h1 : i < xs.length) (h : ∀ d, d ∈ xs → P d) (k : ∀ d, P d → Q (.dat d) S) : Holds (optD (atI xs i) S) Q := by
  obtain ⟨d, hd, e⟩ := at_all P h0 h1 h
  rw [e]
  exact holds_ok.mpr (k d hd)
@[simp] theorem we_lrng {G : Nat → Option W} {F : Fun'} {m : Bool} {a : E} {l : Loc} {S : Sto} {Q : W → Sto → Prop} : wpE G F (.lrng m a) l S Q ↔ wpE G F a l S (kF (lrngW m) Q) := Iff.of_eq hb
@[simp] theorem lrng_d {m : Bool} {j : Int} {S : Sto} : lrngW m (.dat (.int j)) S = if smallI j = true ∧ j ≤ 1000000 then mk m (.list (rng 0 1 j.toNat)) S else .no := rfl
@[simp] theorem rev_l {ds : List D} {S : Sto} : revW (.dat (.list ds)) S = .ok (.dat (.tuple ds.reverse)) S := rfl
@[simp] theorem rev_t {ds : List D} {S : Sto} : revW (.dat (.tuple ds)) S = .ok (.dat (.tuple ds.reverse)) S := rfl
theorem ints_map : ∀ ns : List Int, intsD (ns.map .int) = some ns
  | [] => rfl
  | n :: ns => by show (intsD (ns.map .int)).map (n :: ·) = _; rw [ints_map ns]; rfl
theorem pairs_map : ∀ ps : List (Int × Int), pairsD (ps.map dPair) = some ps
  | [] => rfl
  | p :: ps => by show (pairsD (ps.map dPair)).map ((p.1, p.2) :: ·) = _; rw [pairs_map ps]; rfl
theorem bi_sum {ns : List Int} {S : Sto} : biW S .sum false [.dat (.list (ns.map .int))] = .ok (.dat (.int ns.sum)) S := by
  rw [biW_dd]
  show (match (intsD (ns.map .int)).map fun ns => PyData.int ns.sum with | some d => mk false d S | none => .no) = _
  rw [ints_map]; rfl
theorem bi_sortI {ns : List Int} {S : Sto} {m : Bool} : biW S .sorted m [.dat (.list (ns.map .int))] = mk m (.list ((sortI ns).map .int)) S := by
  rw [biW_dd]
  show (match (match intsD (ns.map .int) with | some ns => some (PyData.list ((sortI ns).map .int)) | none => _) with | some d => mk m d S | none => .no) = _
  rw [ints_map]
theorem bi_sortP {ps : List (Int × Int)} {S : Sto} {m : Bool} : biW S .sorted m [.dat (.list (ps.map dPair))] = mk m (.list ((sortP ps).map dPair)) S := by
  cases ps with
  | nil => rw [biW_dd]; rfl
  | cons p ps =>
    rw [biW_dd]
    have h : intsD ((p :: ps).map dPair) = none := rfl
    show (match (match intsD ((p :: ps).map dPair) with | some ns => some (PyData.list ((sortI ns).map .int)) | none => match pairsD ((p :: ps).map dPair) with | some ps => some (PyData.list ((sortP ps).map dPair)) | none => none) with | some d => mk m d S | none => .no) = _
    rw [h, pairs_map]
theorem bi_maxI {ns : List Int} {M : Int} {S : Sto} (h : maxI ns = some M) : biW S .max false [.dat (.list (ns.map .int))] = .ok (.dat (.int M)) S := by
  rw [biW_dd]
  show (match (match intsD (ns.map .int) with | some ns => (maxI ns).map .int | none => none) with | some d => mk false d S | none => .no) = _
  rw [ints_map]
  show (match (maxI ns).map PyData.int with | some d => mk false d S | none => .no) = _
  rw [h]; rfl
/-! ### comparing a thing with itself, with the empty list -/
def Sh (k : Nat) (d : D) : Prop := d.canLay0 = true ∧ d.depth ≤ k
theorem Sh.mono {j k : Nat} {d : D} (h : Sh j d) (hk : j ≤ k) : Sh k d := ⟨h.1, Nat.le_trans h.2 hk⟩
theorem sh_int {i : Int} {k : Nat} : Sh k (.int i) := ⟨rfl, Nat.zero_le _⟩
theorem sh_bool {b : Bool} {k : Nat} : Sh k (.bool b) := ⟨rfl, Nat.zero_le _⟩
theorem sh_none {k : Nat} : Sh k .none := ⟨rfl, Nat.zero_le _⟩
theorem sh_all {k : Nat} : ∀ {xs : List D}, (∀ x, x ∈ xs → Sh k x) → PyData.canLayAll0 xs = true ∧ PyData.depthAll xs ≤ k
  | [], _ => ⟨rfl, Nat.zero_le _⟩
  | x :: xs, h => by
    obtain ⟨a, b⟩ := h x List.mem_cons_self
    obtain ⟨c, d⟩ := sh_all fun y hy => h y (List.mem_cons_of_mem _ hy)
    exact ⟨by show (PyData.canLay0 x && PyData.canLayAll0 xs) = true; rw [a, c]; rfl, Nat.max_le.mpr ⟨b, d⟩⟩
theorem sh_list {k : Nat} {xs : List D} (h : ∀ x, x ∈ xs → Sh k x) : Sh (k + 1) (.list xs) := ⟨(sh_all h).1, Nat.succ_le_succ (sh_all h).2⟩
theorem sh_tuple {k : Nat} {xs : List D} (h : ∀ x, x ∈ xs → Sh k x) : Sh (k + 1) (.tuple xs) := ⟨(sh_all h).1, Nat.succ_le_succ (sh_all h).2⟩
theorem sh_ints {ns : List Int} {k : Nat} : ∀ x, x ∈ (ns.map PyData.int) → Sh k x := fun x hx => by
  obtain ⟨n, _, rfl⟩ := List.mem_map.mp hx
  exact sh_int
theorem Sh.shaped {k : Nat} {d : D} (h : Sh k d) (hk : k ≤ 64 := by decide) : SeqAt.shaped d = true := by
  unfold SeqAt.shaped
  rw [h.1, decide_eq_true (Nat.le_trans h.2 hk)]
  rfl
theorem eqD_shaped {x y : D} (hx : SeqAt.shaped x = true) (hy : SeqAt.shaped y = true) : eqD x y = some (PyData.eqv x y) := by
  unfold eqD
  split
  · rfl
  · rfl
  · congr 1
  · rw [if_pos ⟨hx, hy⟩]
section
variable {S : Sto} {k j : Nat} {x y : D} {xs : List D}
theorem cmp_eqD (hx : Sh k x) (hy : Sh j y) (hk : k ≤ 64 := by decide) (hj : j ≤ 64 := by decide) : cmpW S .eq (.dat x) (.dat y) = .ok (.dat (.bool (PyData.eqv x y))) S := by
  rw [cmpW_d]
  show (match eqD x y with | some c => _ | none => _) = _
  rw [eqD_shaped (hx.shaped hk) (hy.shaped hj)]
theorem cmp_neD (hx : Sh k x) (hy : Sh j y) (hk : k ≤ 64 := by decide) (hj : j ≤ 64 := by decide) : cmpW S .ne (.dat x) (.dat y) = .ok (.dat (.bool (!PyData.eqv x y))) S := by
  rw [cmpW_d]
  show (match (eqD x y).map (!·) with | some c => _ | none => _) = _
  rw [eqD_shaped (hx.shaped hk) (hy.shaped hj)]
  rfl
theorem cmp_eq_self (hx : Sh k x) (hk : k ≤ 64 := by decide) : cmpW S .eq (.dat x) (.dat x) = .ok (.dat (.bool true)) S := by rw [cmp_eqD hx hx hk hk, SeqAt.eqv_refl x hx.1]
theorem cmp_ne_self (hx : Sh k x) (hk : k ≤ 64 := by decide) : cmpW S .ne (.dat x) (.dat x) = .ok (.dat (.bool false)) S := by rw [cmp_neD hx hx hk hk, SeqAt.eqv_refl x hx.1]; rfl
theorem eqv_nil : PyData.eqv (.list xs) (.list []) = xs.isEmpty := by cases xs <;> rfl
theorem eqv_nilT : PyData.eqv (.tuple xs) (.tuple []) = xs.isEmpty := by cases xs <;> rfl
theorem sh_nil : Sh 1 (.list []) := sh_list (k := 0) fun x h => absurd h (by simp)
theorem cmp_eq_nil (hx : Sh k (.list xs)) (hk : k ≤ 64 := by decide) : cmpW S .eq (.dat (.list xs)) (.dat (.list [])) = .ok (.dat (.bool xs.isEmpty)) S := by rw [cmp_eqD hx sh_nil hk, eqv_nil]
theorem cmp_ne_nil (hx : Sh k (.list xs)) (hk : k ≤ 64 := by decide) : cmpW S .ne (.dat (.list xs)) (.dat (.list [])) = .ok (.dat (.bool (!xs.isEmpty))) S := by rw [cmp_neD hx sh_nil hk, eqv_nil]
end
/-! ### an object -/
section
variable {S : Sto} {p : Nat} {ds : List D} {i : Int} {d : D} {m : Bool}
theorem rdK_ob (h : S[p]? = some (.lst ds)) : rdK S (.obj p) = none := by show obK S[p]? = none; rw [h]; rfl
theorem idx_ob (h : S[p]? = some (.lst ds)) : idxW S (.obj p) (.dat (.int i)) = optD (atI ds i) S := by
  unfold idxW
  rw [rdK_ob h]
  show idxW0 S (.obj p) (.dat (.int i)) = _
  unfold idxW0
  rw [rdC_obj, h]
  rfl
theorem set_ob {j : Nat} (h : S[p]? = some (.lst ds)) (hj : ixN ds.length i = some j) : setW S (.obj p) (.dat (.int i)) (.dat d) = .ok () (S.set p (.lst (ds.set j d))) := by
  unfold setW
  rw [rdK_ob h]
  show (match S[p]? with | some (.lst ds) => _ | _ => _) = _
  rw [h]
  show (match ixN ds.length i with | some j => _ | none => _) = _
  rw [hj]
theorem bi_ob {b : BI} (h : S[p]? = some (.lst ds)) : biW S b m [.obj p] = biW S b m [.dat (.list ds)] := by
  have e0 : biW0 S b m [.obj p] = biW0 S b m [.dat (.list ds)] := by
    unfold biW0
    simp only [rdDs, rdC_obj, rdC_dat, h, obD_lst]
  have e1 : rdD S (.obj p) = rdD S (.dat (.list ds)) := by rw [rdD_obj, rdD_dat, h]; rfl
  have e2 : rdK S (.obj p) = rdK S (.dat (.list ds)) := rdK_ob h
  cases b with
  | len =>
    show (match rdK S (.obj p) with | some kvs => _ | none => biW0 S .len m [.obj p]) = _
    rw [rdK_ob h]
    exact e0
  | list =>
    show (match rdK S (.obj p) with | some kvs => _ | none => biW0 S .list m [.obj p]) = _
    rw [rdK_ob h]
    exact e0
  | dict =>
    show dictW S (.obj p) = dictW S (.dat (.list ds))
    unfold dictW
    rw [e1, e2]
  | repr =>
    show shW S (.obj p) = shW S (.dat (.list ds))
    unfold shW
    rw [rdC_obj, h]
    rfl
  | _ => exact e0
theorem app_ob (h : S[p]? = some (.lst ds)) (hl : ds.length < sizeLine) : mthW S .append (.obj p) [.dat d] = .ok (.dat .none) (S.set p (.lst (ds ++ [d]))) := by
  show (match S[p]? with | some (.lst ds) => _ | _ => _) = _
  rw [h]
  show (if ds.length < sizeLine then _ else _) = _
  rw [if_pos hl]
theorem popAt_ob (h : S[p]? = some (.lst ds)) (h0 : 0 ≤ i) (h1 : i < 2 ^ 62) (hd : ds[i.toNat]? = some d) : mthW S .popAt (.obj p) [.dat (.int i)] = .ok (.dat d) (S.set p (.lst (ds.eraseIdx i.toNat))) := by
  show (match S[p]? with | some (.lst ds) => _ | _ => _) = _
  rw [h]
  show (if 0 ≤ i ∧ i < 2 ^ 62 then (match ds[i.toNat]? with | some d => _ | none => _) else _) = _
  rw [if_pos ⟨h0, h1⟩, hd]
theorem recv_ob (h : S[p]? = some (.lst ds)) : recvW S (.obj p) = .ok (.obj p) S := by
  unfold recvW
  rw [rdD_obj, h]
  rfl
end
theorem forC_filt {body : D → Sto → Rs (Option D)} {Q : List D → Sto → Prop} (p : D → Bool) (g : D → D) {ds : List D} {S : Sto} (hl : ds.length ≤ sizeLine)
    (st : ∀ d, d ∈ ds → Holds (body d S) fun r S' => S' = S ∧ r = if p d = true then some (g d) else none) (e : Q ((ds.filter p).map g) S) : Holds (forC body ds [] S) Q := by
  refine forC_idx (fun i acc S' => S' = S ∧ acc = ((ds.take i).filter p).map g) ⟨rfl, by simp⟩ ?_ ?_
  · rintro i d hd acc S' ⟨rfl, rfl⟩
    have hlt := (List.getElem?_eq_some_iff.mp hd).1
    have hle : ((ds.take i).filter p).length ≤ i := Nat.le_trans (List.length_filter_le _ _) (by rw [List.length_take]; omega)
    have he : (ds.take (i + 1)).filter p = (ds.take i).filter p ++ (if p d = true then [d] else []) := by
      rw [List.take_add_one, hd]
      simp only [Option.toList_some, List.filter_append, List.filter_cons, List.filter_nil]
    refine (st d (List.mem_of_getElem? hd)).imp ?_
    rintro r S1 ⟨rfl, rfl⟩
    by_cases hp : p d = true
    · rw [if_pos hp]
      refine ⟨by rw [List.length_map]; omega, rfl, ?_⟩
      rw [he, if_pos hp]; simp
    · rw [if_neg hp]
      refine ⟨rfl, ?_⟩
      rw [he, if_neg hp]; simp
  · rintro acc S' ⟨rfl, rfl⟩
    simpa using e
@[simp] theorem last_get {S : Sto} {x : Ob} : (S ++ [x])[S.length]? = some x := List.getElem?_concat_length
@[simp] theorem last_set {S : Sto} {x y : Ob} : (S ++ [x]).set S.length y = S ++ [y] := by simp
/-- a place of a list of numbers -/
def getI (bs : List Int) (i : Int) : Int := bs.getD i.toNat 0
theorem at_getI {bs : List Int} {i : Int} (h0 : 0 ≤ i) (h1 : i < bs.length) : atI (bs.map PyData.int) i = some (.int (getI bs i)) := by
  obtain ⟨n, rfl⟩ := nat_of h0
  have hn : n < bs.length := by omega
  refine atI_nat ?_
  rw [List.getElem?_map, List.getElem?_eq_getElem hn]
  simp [getI, List.getD, hn]
theorem ix_nn {n : Nat} {i : Int} (h0 : 0 ≤ i) (h1 : i < n) : ixN n i = some i.toNat := by
  unfold ixN
  rw [if_pos h0, if_pos h1]
theorem clS_lists {S : Sto} (h : ∀ o, o ∈ S → ∃ ds, o = .lst ds) : ClS S := fun n _ => List.all_eq_true.mpr fun o ho => by
  obtain ⟨ds, rfl⟩ := h o ho
  rfl
theorem forC_filtM {α : Type} {body : D → Sto → Rs (Option D)} {Q : List D → Sto → Prop} (f : α → D) (p : α → Bool) (g : α → D) {xs : List α} {S : Sto} (hl : xs.length ≤ sizeLine)
    (st : ∀ x, x ∈ xs → Holds (body (f x) S) fun r S' => S' = S ∧ r = if p x = true then some (g x) else none) (e : Q ((xs.filter p).map g) S) : Holds (forC body (xs.map f) [] S) Q := by
  refine forC_idx (fun i acc S' => S' = S ∧ acc = ((xs.take i).filter p).map g) ⟨rfl, by simp⟩ ?_ ?_
  · rintro i d hd acc S' ⟨rfl, rfl⟩
    rw [List.getElem?_map] at hd
    obtain ⟨x, hx, rfl⟩ := Option.map_eq_some_iff.mp hd
    have hlt := (List.getElem?_eq_some_iff.mp hx).1
    have hle : ((xs.take i).filter p).length ≤ i := Nat.le_trans (List.length_filter_le _ _) (by rw [List.length_take]; omega)
    have he : (xs.take (i + 1)).filter p = (xs.take i).filter p ++ (if p x = true then [x] else []) := by
      rw [List.take_add_one, hx]
      simp only [Option.toList_some, List.filter_append, List.filter_cons, List.filter_nil]
    refine (st x (List.mem_of_getElem? hx)).imp ?_
    rintro r S1 ⟨rfl, rfl⟩
    by_cases hp : p x = true
    · rw [if_pos hp]
      refine ⟨by rw [List.length_map]; omega, rfl, ?_⟩
      rw [he, if_pos hp]; simp
    · rw [if_neg hp]
      refine ⟨rfl, ?_⟩
      rw [he, if_neg hp]; simp
  · rintro acc S' ⟨rfl, rfl⟩
    simpa using e
theorem forC_mapM {α : Type} {body : D → Sto → Rs (Option D)} {Q : List D → Sto → Prop} (f : α → D) (g : α → D) {xs : List α} {S : Sto} (hl : xs.length ≤ sizeLine)
    (st : ∀ x, x ∈ xs → Holds (body (f x) S) fun r S' => S' = S ∧ r = some (g x)) (e : Q (xs.map g) S) : Holds (forC body (xs.map f) [] S) Q :=
  forC_filtM f (fun _ => true) g hl (fun x hx => (st x hx).imp fun r S' q => ⟨q.1, by rw [q.2]; rfl⟩) (by rw [List.filter_eq_self.mpr (fun _ _ => rfl)]; exact e)
/-- items made over a range of numbers -/
theorem rng_map (n : Nat) : rng 0 1 n = (List.range n).map fun i => PyData.int (i : Nat) := by
  refine List.ext_getElem? fun i => ?_
  by_cases h : i < n
  · have h2 : i < (rng 0 1 n).length := by rw [rngH_len]; exact h
    have := rngH_get (List.getElem?_eq_getElem h2)
    rw [List.getElem?_eq_getElem h2, this.2]
    simp [h]
  · rw [List.getElem?_eq_none (by rw [rngH_len]; omega), List.getElem?_eq_none (by simp; omega)]
theorem small_len' {n : Nat} (h : n ≤ 1000000) : n ≤ sizeLine := Nat.le_trans h (by decide)
theorem frz_ob {l : Loc} {k p : Nat} {S : Sto} {ds : List D} (h : S[p]? = some (.lst ds)) : frzW l k S (.obj p) = .ok (.nx, l.set k (some (.dat (.list ds)))) (S.set p .gone) := by
  show (match S[p]? with | some (.lst ds) => _ | _ => _) = _
  rw [h]
@[simp] theorem slc_l {xs : List D} {lo hi : Option Int} {S : Sto} : slcW S (.dat (.list xs)) lo hi = .ok (.dat (.list (cutD xs lo hi))) S := rfl
@[simp] theorem slc_t {xs : List D} {lo hi : Option Int} {S : Sto} : slcW S (.dat (.tuple xs)) lo hi = .ok (.dat (.tuple (cutD xs lo hi))) S := rfl
theorem cut_nat {xs : List D} {lo hi : Nat} (h : lo ≤ hi) (hl : hi ≤ xs.length) : cutD xs (some (lo : Int)) (some (hi : Int)) = (xs.drop lo).take (hi - lo) := by
  unfold cutD
  rw [HT.sIx_nat, HT.sIx_nat, Nat.min_eq_left hl, Nat.min_eq_left (Nat.le_trans h hl)]
theorem cut_0 {xs : List D} {hi : Nat} (hl : hi ≤ xs.length) : cutD xs none (some (hi : Int)) = xs.take hi := by
  unfold cutD
  rw [HT.sIx_nat, HT.sIx_none, Nat.min_eq_left hl]; rfl
theorem cut_e {xs : List D} {lo : Nat} (hl : lo ≤ xs.length) : cutD xs (some (lo : Int)) none = xs.drop lo := by
  unfold cutD
  rw [HT.sIx_nat, HT.sIx_none, Nat.min_eq_left hl, List.take_of_length_le (by simp)]
@[simp] theorem tup_o {S : Sto} {p : Nat} {ds : List D} : recvW (S ++ [.lst ds]) (.obj S.length) = .ok (.obj S.length) (S ++ [.lst ds]) := recv_ob last_get
theorem app_last {S : Sto} {ds : List D} {d : D} (h : ds.length < sizeLine) : mthW (S ++ [.lst ds]) .append (.obj S.length) [.dat d] = .ok (.dat .none) (S ++ [.lst (ds ++ [d])]) := by
  rw [app_ob last_get h, last_set]
@[simp] theorem bi_listm {xs : List D} {S : Sto} : biW S .list true [.dat (.list xs)] = .ok (.obj S.length) (S ++ [.lst xs]) := rfl
@[simp] theorem bi_listtm {xs : List D} {S : Sto} : biW S .list true [.dat (.tuple xs)] = .ok (.obj S.length) (S ++ [.lst xs]) := rfl
section
variable {G : Nat → Option W} {F : Fun'} {b : E} {l : Loc} {S : Sto} {Q : W → Sto → Prop} {h v : Bool}
theorem kand_val (hb : h = true → ∀ Q' : W → Sto → Prop, Q' (.dat (.bool v)) S → wpE G F b l S Q') (k : Q (.dat (.bool (h && v))) S) : kAndE G F b l Q (.dat (.bool h)) S := by
  cases h with
  | true => exact hb rfl Q (by simpa using k)
  | false => exact holds_ok.mpr (by simpa using k)
theorem kor_val (hb : h = false → ∀ Q' : W → Sto → Prop, Q' (.dat (.bool v)) S → wpE G F b l S Q') (k : Q (.dat (.bool (h || v))) S) : kOrE G F b l Q (.dat (.bool h)) S := by
  cases h with
  | true => exact holds_ok.mpr (by simpa using k)
  | false => exact hb rfl Q (by simpa using k)
end
/-! ### while -/
theorem whlL_inv {t : Loc → Sto → Rs W} {body : Loc → Sto → Rs (Fl × Loc)} {Q : Fl × Loc → Sto → Prop} (P : Nat → Loc → Sto → Prop)
    (st : ∀ k l S, P k l S → Holds (t l S) fun x S1 => ∃ b, x = .dat (.bool b) ∧ (b = true → Holds (body l S1) fun r S2 => match r.1 with
      | .nx => ∃ j, j < k ∧ P j r.2 S2
      | .ct => ∃ j, j < k ∧ P j r.2 S2
      | .brk => Q (.nx, r.2) S2
      | .ret w => Q (.ret w, r.2) S2) ∧ (b = false → Q (.nx, l) S1)) : ∀ (fuel k : Nat) (l : Loc) (S : Sto), k < fuel → P k l S → Holds (whlL t body fuel l S) Q
  | 0, k, l, S, h, _ => absurd h (by omega)
  | fuel + 1, k, l, S, h, hp => by
    show Holds ((t l S).bind fun x S1 => ifW x ((body l S1).bind (loopR (whlL t body fuel))) (.ok (.nx, l) S1)) Q
    rw [holds_bind]
    refine (st k l S hp).imp ?_
    rintro x S1 ⟨b, rfl, h1, h2⟩
    cases b with
    | false => exact holds_ok.mpr (h2 rfl)
    | true =>
      show Holds ((body l S1).bind (loopR (whlL t body fuel))) Q
      rw [holds_bind]
      refine (h1 rfl).imp fun r S2 q => ?_
      obtain ⟨f, l1⟩ := r
      cases f with
      | nx => obtain ⟨j, hj, q⟩ := q; exact whlL_inv P st fuel j l1 S2 (by omega) q
      | ct => obtain ⟨j, hj, q⟩ := q; exact whlL_inv P st fuel j l1 S2 (by omega) q
      | brk => exact holds_ok.mpr q
      | ret w => exact holds_ok.mpr q
theorem bools_map {α : Type} (f : α → Bool) : ∀ xs : List α, boolsD (xs.map fun x => .bool (f x)) = some (xs.map f)
  | [] => rfl
  | x :: xs => by show (boolsD (xs.map fun x => .bool (f x))).map (f x :: ·) = _; rw [bools_map f xs]; rfl
theorem bi_all {α : Type} (f : α → Bool) {xs : List α} {S : Sto} : biW S .all false [.dat (.list (xs.map fun x => .bool (f x)))] = .ok (.dat (.bool (xs.all f))) S := by
  rw [biW_dd]
  show (match (boolsD (xs.map fun x => .bool (f x))).map (fun ns => PyData.bool (ns.all id)) with | some d => mk false d S | none => .no) = _
  rw [bools_map]
  show Rs.ok (W.dat (.bool ((xs.map f).all id))) S = _
  rw [List.all_map]; rfl
theorem bi_any {α : Type} (f : α → Bool) {xs : List α} {S : Sto} : biW S .any false [.dat (.list (xs.map fun x => .bool (f x)))] = .ok (.dat (.bool (xs.any f))) S := by
  rw [biW_dd]
  show (match (boolsD (xs.map fun x => .bool (f x))).map (fun ns => PyData.bool (ns.any id)) with | some d => mk false d S | none => .no) = _
  rw [bools_map]
  show Rs.ok (W.dat (.bool ((xs.map f).any id))) S = _
  rw [List.any_map]; rfl
end MP
set_option Elab.async false
set_option linter.all false
set_option maxRecDepth 100000
set_option maxHeartbeats 4000000
/-! Reasoning about dicts. -/
namespace MP
open PySem L2
section
variable (G : Nat → Option W) (F : Fun')
def kCh2 (o2 : CO) (c : E) (l : Loc) (y : W) (Q : W → Sto → Prop) : W → Sto → Prop := fun z S3 => Holds (ifW z ((ev G F c l S3).bind fun u S4 => cmpW S4 o2 y u) (.ok (.dat (.bool false)) S3)) Q
def kCh1 (o1 o2 : CO) (c : E) (l : Loc) (x : W) (Q : W → Sto → Prop) : W → Sto → Prop := fun y S2 => Holds (cmpW S2 o1 x y) (kCh2 G F o2 c l y Q)
def kDctE (p : Nat) (Q : W → Sto → Prop) : List W → Sto → Prop := fun ws S => Holds (dctW p ws S) Q
def kDm1b (m : DM) (x : W) (Q : W → Sto → Prop) : W → Sto → Prop := fun y S => Holds (dm1W S m x y) Q
def kDm1a (m : DM) (a : E) (l : Loc) (Q : W → Sto → Prop) : W → Sto → Prop := fun x S => Holds (isdW S x) fun _ S2 => wpE G F a l S2 (kDm1b m x Q)
def kDm2c (m : DM) (x y : W) (Q : W → Sto → Prop) : W → Sto → Prop := fun z S => Holds (dm2W S m x y z) Q
def kDm2b (m : DM) (b : E) (l : Loc) (x : W) (Q : W → Sto → Prop) : W → Sto → Prop := fun y S => wpE G F b l S (kDm2c m x y Q)
def kDm2a (m : DM) (a b : E) (l : Loc) (Q : W → Sto → Prop) : W → Sto → Prop := fun x S => Holds (isdW S x) fun _ S2 => wpE G F a l S2 (kDm2b G F m b l x Q)
def dcpB (vs : List Nat) (kx vx tg tst : E) (l : Loc) (p : Nat) (d : D) (S2 : Sto) : Rs Unit := (asg G F tg (.dat d) (wipeL l vs) S2).bind fun l2 S3 => (evt G F tst l2 S3).bind fun c S4 =>
        if c = true then (ev G F kx l2 S4).bind fun y S5 => (ev G F vx l2 S5).bind fun z S6 => dputW p y z S6 else .ok () S4
def kDcpE (vs : List Nat) (kx vx tg tst : E) (l : Loc) (Q : W → Sto → Prop) : List D → Sto → Prop := fun ds S => Holds (forD (dcpB G F vs kx vx tg tst l S.length) ds (S ++ [.dic []])) fun _ S2 => Q (.obj S.length) S2
def kLck {α : Type} (p : Nat) (Q : α → Sto → Prop) : α → Sto → Prop := fun w S => Holds (unlW p w S) Q
def kLck1 (e : E) (l : Loc) (Q : W → Sto → Prop) : Nat → Sto → Prop := fun p S => wpE G F e l S (kLck p Q)
def kLckS (s : St') (l : Loc) (R : Fl × Loc → Sto → Prop) : Nat → Sto → Prop := fun p S => wpS G F s l S (kLck p R)
def kDel2 (x : W) (l : Loc) (R : Fl × Loc → Sto → Prop) : W → Sto → Prop := fun y S => Holds (ddelW x y S) fun _ S3 => R (.nx, l) S3
def kDel1 (i : E) (l : Loc) (R : Fl × Loc → Sto → Prop) : W → Sto → Prop := fun x S => wpE G F i l S (kDel2 x l R)
def kPr2 (x y : W) (Q : List W → Sto → Prop) : List W → Sto → Prop := fun ws S => Q (x :: y :: ws) S
def kPr1 (es : E) (l : Loc) (x : W) (Q : List W → Sto → Prop) : W → Sto → Prop := fun y S => wpA G F es l S (kPr2 x y Q)
def kPr0 (v es : E) (l : Loc) (Q : List W → Sto → Prop) : W → Sto → Prop := fun x S => wpE G F v l S (kPr1 G F es l x Q)
end
section
variable {G : Nat → Option W} {F : Fun'} {l : Loc} {S : Sto} {Q : W → Sto → Prop} {R : Fl × Loc → Sto → Prop} {a b c e es t i o tg it kx vx tst : E} {x y z w : W} {ws : List W} {k n p g : Nat} {h v bb : Bool} {d : D} {ds : List D} {s : St'} {o1 o2 : CO} {m : DM} {vs : List Nat}
@[simp] theorem kchn_ap : kChnE G F o1 o2 b c l Q x S ↔ wpE G F b l S (kCh1 G F o1 o2 c l x Q) := Iff.of_eq hb2
@[simp] theorem kch1_ap : kCh1 G F o1 o2 c l x Q y S ↔ Holds (cmpW S o1 x y) (kCh2 G F o2 c l y Q) := Iff.rfl
@[simp] theorem kch2_t : kCh2 G F o2 c l y Q (.dat (.bool true)) S ↔ wpE G F c l S (kF2 (fun x y S => cmpW S o2 x y) y Q) := Iff.of_eq hb
@[simp] theorem kch2_f : kCh2 G F o2 c l y Q (.dat (.bool false)) S ↔ Q (.dat (.bool false)) S := holds_ok
theorem kch2_val (hb : h = true → ∀ Q' : W → Sto → Prop, Q' (.dat (.bool v)) S → wpE G F c l S (kF2 (fun x y S => cmpW S o2 x y) y Q')) (k : Q (.dat (.bool (h && v))) S) : kCh2 G F o2 c l y Q (.dat (.bool h)) S := by
  cases h with
  | true => exact kch2_t.mpr (hb rfl Q (by simpa using k))
  | false => exact kch2_f.mpr (by simpa using k)
@[simp] theorem we_tchn : wpE G F (.tchn o1 o2 a b c) l S Q ↔ wpE G F a l S (kChnE G F o1 o2 b c l (kF (fun x S => blW x S) Q)) := by
  show Holds (Rs.bind (Rs.bind _ _) _) Q ↔ _
  rw [hb, hb]
  rfl
@[simp] theorem we_dct : wpE G F (.dct es) l S Q ↔ wpA G F es l (S ++ [.dic []]) (kDctE S.length Q) := Iff.of_eq hb
@[simp] theorem we_dm1 : wpE G F (.dm1 m o a) l S Q ↔ wpE G F o l S (kDm1a G F m a l Q) := by
  show Holds (Rs.bind _ _) Q ↔ _
  rw [hb]; unfold kDm1a; simp only [hb2]; rfl
@[simp] theorem kdm1a_ap : kDm1a G F m a l Q x S ↔ Holds (isdW S x) fun _ S2 => wpE G F a l S2 (kDm1b m x Q) := Iff.rfl
@[simp] theorem kdm1b_ap : kDm1b m x Q y S ↔ Holds (dm1W S m x y) Q := Iff.rfl
@[simp] theorem we_dm2 : wpE G F (.dm2 m o a b) l S Q ↔ wpE G F o l S (kDm2a G F m a b l Q) := by
  show Holds (Rs.bind _ _) Q ↔ _
  rw [hb]; unfold kDm2a; simp only [hb]; rfl
@[simp] theorem kdm2a_ap : kDm2a G F m a b l Q x S ↔ Holds (isdW S x) fun _ S2 => wpE G F a l S2 (kDm2b G F m b l x Q) := Iff.rfl
@[simp] theorem kdm2b_ap : kDm2b G F m b l x Q y S ↔ wpE G F b l S (kDm2c m x y Q) := Iff.rfl
@[simp] theorem kdm2c_ap : kDm2c m x y Q z S ↔ Holds (dm2W S m x y z) Q := Iff.rfl
@[simp] theorem we_dcp : wpE G F (.dcp vs kx vx tg it tst) l S Q ↔ wpI G F it l S (kDcpE G F vs kx vx tg tst l Q) := by
  show Holds (Rs.bind _ _) Q ↔ _
  rw [hb]; unfold kDcpE; simp only [hb, holds_ok]; rfl
@[simp] theorem kdcp_ap : kDcpE G F vs kx vx tg tst l Q ds S ↔ Holds (forD (dcpB G F vs kx vx tg tst l S.length) ds (S ++ [.dic []])) fun _ S2 => Q (.obj S.length) S2 := Iff.rfl
@[simp] theorem we_lck : wpE G F (.lck k e) l S Q ↔ Holds (lckW l k S) (kLck1 G F e l Q) := Iff.of_eq hb2
@[simp] theorem klck1_ap : kLck1 G F e l Q p S ↔ wpE G F e l S (kLck p Q) := Iff.rfl
@[simp] theorem klck_ap {α : Type} {w : α} {Q : α → Sto → Prop} : kLck p Q w S ↔ Holds (unlW p w S) Q := Iff.rfl
@[simp] theorem we_cdx : wpE G F (.cdx g e) l S Q ↔ Holds (opt (cdOf (G g)) S) fun kvs S0 => wpE G F e l S0 (kF (cdxW kvs) Q) := Iff.of_eq hb2
@[simp] theorem we_cdi : wpE G F (.cdi bb g e) l S Q ↔ Holds (opt (cdOf (G g)) S) fun kvs S0 => wpE G F e l S0 (kF (cdiW bb kvs) Q) := Iff.of_eq hb2
@[simp] theorem we_tcdi : wpE G F (.tcdi bb g e) l S Q ↔ Holds (opt (cdOf (G g)) S) fun kvs S0 => wpE G F e l S0 (kF (cdiW bb kvs) (kF (fun x S => blW x S) Q)) := by
  show Holds (Rs.bind (Rs.bind _ _) _) Q ↔ _
  rw [hb, hb]; simp only [hb]; rfl
@[simp] theorem wi_idk {Q : List D → Sto → Prop} : wpI G F (.idk e) l S Q ↔ wpE G F e l S (kF keysW Q) := Iff.of_eq hb
@[simp] theorem wa_prs {Q : List W → Sto → Prop} : wpA G F (.prs a b es) l S Q ↔ wpE G F a l S (kPr0 G F b es l Q) := by
  show Holds (Rs.bind _ _) Q ↔ _
  rw [hb]; unfold kPr0 kPr1 kPr2; simp only [hb, holds_ok]; rfl
@[simp] theorem kpr0_ap {Q : List W → Sto → Prop} : kPr0 G F b es l Q x S ↔ wpE G F b l S (kPr1 G F es l x Q) := Iff.rfl
@[simp] theorem kpr1_ap {Q : List W → Sto → Prop} : kPr1 G F es l x Q y S ↔ wpA G F es l S (kPr2 x y Q) := Iff.rfl
@[simp] theorem kpr2_ap {Q : List W → Sto → Prop} : kPr2 x y Q ws S ↔ Q (x :: y :: ws) S := Iff.rfl
@[simp] theorem kdct_ap : kDctE p Q ws S ↔ Holds (dctW p ws S) Q := Iff.rfl
@[simp] theorem ws_del : wpS G F (.del o i) l S R ↔ wpE G F o l S (kDel1 G F i l R) := by
  show Holds (Rs.bind _ _) R ↔ _
  rw [hb]; unfold kDel1 kDel2; simp only [hb, holds_ok]; rfl
@[simp] theorem kdel1_ap : kDel1 G F i l R x S ↔ wpE G F i l S (kDel2 x l R) := Iff.rfl
@[simp] theorem kdel2_ap : kDel2 x l R y S ↔ Holds (ddelW x y S) fun _ S3 => R (.nx, l) S3 := Iff.rfl
@[simp] theorem ws_lckS : wpS G F (.lckS k s) l S R ↔ Holds (lckW l k S) (kLckS G F s l R) := Iff.of_eq hb2
@[simp] theorem klckS_ap : kLckS G F s l R p S ↔ wpS G F s l S (kLck p R) := Iff.rfl
@[simp] theorem lckW_z : lckW (some (.obj p) :: l) 0 S = lckP p S := rfl
@[simp] theorem lckW_s {w : Option W} : lckW (w :: l) (k + 1) S = lckW l k S := rfl
@[simp] theorem keysW_o : keysW (.obj p) S = keysP p S := rfl
end
/-! ### what stands in a dict -/
section
variable {S : Sto} {p : Nat} {kvs : List (Key × W)} {i : Int} {s : Str} {v z : W} {m : Bool} {ds : List D}
/-- a dict, walked or not -/
def DicAt (S : Sto) (p : Nat) (kvs : List (Key × W)) : Prop := S[p]? = some (.dic kvs) ∨ S[p]? = some (.lck kvs)
theorem DicAt.rd (h : DicAt S p kvs) : rdK S (.obj p) = some kvs := by
  show obK S[p]? = _
  rcases h with h | h <;> rw [h] <;> rfl
theorem idx_dI (h : DicAt S p kvs) : idxW S (.obj p) (.dat (.int i)) = opt (valW kvs (.inl i)) S := by unfold idxW; rw [h.rd]; rfl
theorem idx_dS (h : DicAt S p kvs) : idxW S (.obj p) (.dat (.str s)) = opt (valW kvs (.inr s)) S := by unfold idxW; rw [h.rd]; rfl
theorem in_dI (h : DicAt S p kvs) : cmpW S .isin (.dat (.int i)) (.obj p) = .ok (.dat (.bool (valW kvs (.inl i)).isSome)) S := by
  show (match rdK S (.obj p) with | some kvs => inW S false (.dat (.int i)) kvs | none => _) = _
  rw [h.rd]; rfl
theorem in_dS (h : DicAt S p kvs) : cmpW S .isin (.dat (.str s)) (.obj p) = .ok (.dat (.bool (valW kvs (.inr s)).isSome)) S := by
  show (match rdK S (.obj p) with | some kvs => inW S false (.dat (.str s)) kvs | none => _) = _
  rw [h.rd]; rfl
theorem nin_dI (h : DicAt S p kvs) : cmpW S .notin (.dat (.int i)) (.obj p) = .ok (.dat (.bool (!(valW kvs (.inl i)).isSome))) S := by
  show (match rdK S (.obj p) with | some kvs => inW S true (.dat (.int i)) kvs | none => _) = _
  rw [h.rd]; rfl
theorem nin_dS (h : DicAt S p kvs) : cmpW S .notin (.dat (.str s)) (.obj p) = .ok (.dat (.bool (!(valW kvs (.inr s)).isSome))) S := by
  show (match rdK S (.obj p) with | some kvs => inW S true (.dat (.str s)) kvs | none => _) = _
  rw [h.rd]; rfl
theorem len_d (h : DicAt S p kvs) : biW S .len m [.obj p] = .ok (.dat (.int kvs.length)) S := by
  show (match rdK S (.obj p) with | some kvs => _ | none => _) = _
  rw [h.rd]
theorem list_d (h : DicAt S p kvs) : biW S .list m [.obj p] = mk m (.list (kvs.map fun kv => dKey kv.1)) S := by
  show (match rdK S (.obj p) with | some kvs => _ | none => _) = _
  rw [h.rd]
theorem dict_d (h : DicAt S p kvs) : biW S .dict m [.obj p] = .ok (.obj S.length) (S ++ [.dic kvs]) := by
  show dictW S (.obj p) = _
  unfold dictW
  rw [h.rd]
theorem put_d (h : S[p]? = some (.dic kvs)) (hl : kvs.length < sizeLine) {y : W} {k : Key} (hk : keyW y = some k) : dputW p y z S = .ok () (S.set p (.dic (putW kvs k z))) := by
  unfold dputW
  rw [hk, h]
  show (if kvs.length < sizeLine then _ else _) = _
  rw [if_pos hl]
theorem set_d (h : S[p]? = some (.dic kvs)) (hl : kvs.length < sizeLine) {y : W} {k : Key} (hk : keyW y = some k) : setW S (.obj p) y z = .ok () (S.set p (.dic (putW kvs k z))) := by
  have e : rdK S (.obj p) = some kvs := DicAt.rd (.inl h)
  unfold setW
  rw [e]
  exact put_d h hl hk
theorem isd_d (h : DicAt S p kvs) : isdW S (.obj p) = .ok () S := by unfold isdW; rw [h.rd]
theorem get_d (h : DicAt S p kvs) {y : W} {k : Key} (hk : keyW y = some k) : dgetW S (.obj p) y z = .ok ((valW kvs k).getD z) S := by unfold dgetW; rw [h.rd, hk]
@[simp] theorem dm1_get {x y : W} : dm1W S .get x y = dgetW S x y (.dat .none) := rfl
@[simp] theorem dm2_get {x y : W} : dm2W S .get x y z = dgetW S x y z := rfl
@[simp] theorem dm1_pop {x y : W} : dm1W S .pop x y = dpopW S x y none := rfl
@[simp] theorem dm2_pop {x y : W} : dm2W S .pop x y z = dpopW S x y (some z) := rfl
theorem pop_d (h : S[p]? = some (.dic kvs)) {y : W} {k : Key} (hk : keyW y = some k) {o : Option W} (hv : valW kvs k = some v) : dpopW S (.obj p) y o = .ok v (S.set p (.dic (dropW kvs k))) := by
  unfold dpopW
  rw [hk]
  show (match S[p]? with | some (.dic kvs) => (match valW kvs k with | some v => Rs.ok v (S.set p (.dic (dropW kvs k))) | none => opt o S) | _ => .no) = _
  rw [h]
  show (match valW kvs k with | some v => Rs.ok v (S.set p (.dic (dropW kvs k))) | none => opt o S) = _
  rw [hv]
theorem del_d (h : S[p]? = some (.dic kvs)) {y : W} {k : Key} (hk : keyW y = some k) (hv : (valW kvs k).isSome = true) : ddelW (.obj p) y S = .ok () (S.set p (.dic (dropW kvs k))) := by
  unfold ddelW
  rw [hk]
  show (match S[p]? with | some (.dic kvs) => _ | _ => _) = _
  rw [h]
  show (if (valW kvs k).isSome = true then _ else _) = _
  rw [if_pos hv]
theorem lck_d (h : S[p]? = some (.dic kvs)) : lckP p S = .ok p (S.set p (.lck kvs)) := by unfold lckP; rw [h]
theorem unl_d {α : Type} {w : α} (h : S[p]? = some (.lck kvs)) : unlW p w S = .ok w (S.set p (.dic kvs)) := by unfold unlW; rw [h]
theorem keys_d (h : S[p]? = some (.lck kvs)) : keysP p S = .ok (kvs.map fun kv => dKey kv.1) S := by unfold keysP; rw [h]
@[simp] theorem keyW_i : keyW (.dat (.int i)) = some (.inl i) := rfl
@[simp] theorem keyW_s : keyW (.dat (.str s)) = some (.inr s) := rfl
theorem dct_d {ws : List W} (h : S[p]? = some (.dic [])) (hk : pairsW ws = some kvs) (hl : kvs.length ≤ 15) : dctW p ws S = .ok (.obj p) (S.set p (.dic (mergeW [] kvs))) := by
  unfold dctW
  rw [hk, h]
  show (if kvs.length ≤ 15 then _ else _) = _
  rw [if_pos hl]
theorem dict_tup (hk : pairsK ds = some kvs) (hl : ds.length ≤ sizeLine) : biW S .dict m [.dat (.tuple ds)] = .ok (.obj S.length) (S ++ [.dic (mergeW [] kvs)]) := by
  show dictP S ds = _
  unfold dictP
  rw [hk]
  show (if ds.length ≤ sizeLine then _ else _) = _
  rw [if_pos hl]
theorem dict_lst (hk : pairsK ds = some kvs) (hl : ds.length ≤ sizeLine) : biW S .dict m [.dat (.list ds)] = .ok (.obj S.length) (S ++ [.dic (mergeW [] kvs)]) := by
  show dictP S ds = _
  unfold dictP
  rw [hk]
  show (if ds.length ≤ sizeLine then _ else _) = _
  rw [if_pos hl]
@[simp] theorem cdOf_c {kvs : List (Str × D)} : cdOf (some (.cdi kvs)) = some kvs := rfl
@[simp] theorem cdx_s {kvs : List (Str × D)} : cdxW kvs (.dat (.str s)) S = optD (valC kvs s) S := by
  show (match valC kvs s with | some d => _ | none => _) = _
  cases valC kvs s <;> rfl
@[simp] theorem cdi_s {kvs : List (Str × D)} {b : Bool} : cdiW b kvs (.dat (.str s)) S = .ok (.dat (.bool (if b = true then (valC kvs s).isSome else !(valC kvs s).isSome))) S := rfl
/-! tables -/
@[simp] theorem valW_nil' {k : Key} : valW [] k = none := rfl
theorem valW_cons {k j : Key} {w : W} {r : List (Key × W)} : valW ((j, w) :: r) k = if j = k then some w else valW r k := by
  unfold valW
  rw [List.find?_cons]
  by_cases e : j = k
  · rw [if_pos e]; simp [e]
  · rw [if_neg e]; simp [e]
theorem valC_cons {k j : Str} {w : D} {r : List (Str × D)} : valC ((j, w) :: r) k = if j = k then some w else valC r k := by
  unfold valC
  rw [List.find?_cons]
  by_cases e : j = k
  · rw [if_pos e]; simp [e]
  · rw [if_neg e]; simp [e]
@[simp] theorem valC_nil {k : Str} : valC [] k = none := rfl
theorem valW_any {k : Key} : ∀ {kvs : List (Key × W)}, (kvs.any fun kv => decide (kv.1 = k)) = (valW kvs k).isSome
  | [] => rfl
  | (j, w) :: r => by
    rw [List.any_cons, valW_any, valW_cons]
    by_cases e : j = k <;> simp [e]
theorem valW_app {k : Key} {b : List (Key × W)} : ∀ {a : List (Key × W)}, valW (a ++ b) k = (valW a k).or (valW b k)
  | [] => by simp
  | (j, w) :: r => by
    rw [List.cons_append, valW_cons, valW_cons, valW_app]
    by_cases e : j = k <;> simp [e]
theorem valW_repl {k j : Key} {v : W} : ∀ {kvs : List (Key × W)}, valW (kvs.map fun kv => if kv.1 = k then (kv.1, v) else kv) j = (valW kvs j).map fun x => if k = j then v else x
  | [] => rfl
  | (i, w) :: r => by
    rw [List.map_cons]
    have ih := valW_repl (k := k) (j := j) (v := v) (kvs := r)
    by_cases e : i = k
    · subst e
      simp only [if_pos]
      rw [valW_cons, valW_cons, ih]
      by_cases e2 : i = j <;> simp [e2]
    · simp only [if_neg e]
      rw [valW_cons, valW_cons, ih]
      by_cases e2 : i = j
      · subst e2
        have : ¬ k = i := fun z => e z.symm
        simp [this]
      · simp [e2]
theorem valW_put {kvs : List (Key × W)} {k j : Key} {v : W} : valW (putW kvs k v) j = if k = j then some v else valW kvs j := by
  unfold putW
  rw [valW_any]
  cases h : valW kvs k with
  | some w =>
    simp only [Option.isSome_some, if_true]
    rw [valW_repl]
    by_cases e : k = j
    · subst e; simp [h]
    · simp only [e, if_false]; cases valW kvs j <;> rfl
  | none =>
    simp only [Option.isSome_none, Bool.false_eq_true, if_false]
    rw [valW_app, valW_cons, valW_nil']
    by_cases e : k = j
    · subst e; simp [h]
    · simp only [e, if_false]; cases valW kvs j <;> rfl
theorem valW_drop {k j : Key} : ∀ {kvs : List (Key × W)}, valW (dropW kvs k) j = if k = j then none else valW kvs j
  | [] => by simp [dropW]
  | (i, w) :: r => by
    have ih := valW_drop (k := k) (j := j) (kvs := r)
    unfold dropW at ih ⊢
    rw [List.filter_cons]
    by_cases e : i = k
    · subst e
      simp only [ne_eq, not_true_eq_false, decide_false, Bool.false_eq_true, if_false]
      rw [ih, valW_cons]
      by_cases e2 : i = j <;> simp [e2]
    · simp only [ne_eq, e, not_false_eq_true, decide_true, if_true]
      rw [valW_cons, valW_cons, ih]
      by_cases e2 : k = j
      · subst e2; simp [e]
      · simp [e2]
end
end MP
set_option Elab.async false
set_option linter.all false
set_option maxRecDepth 100000
set_option maxHeartbeats 4000000
/-! More reasoning about meanings. -/
namespace MP
open PySem L2
/-! ### == of data without bools -/
mutual
def nb : D → Bool
  | .none => true
  | .int _ => true
  | .str _ => true
  | .list xs => nbs xs
  | .tuple xs => nbs xs
  | .bool _ => false
  | .dict _ => false
def nbs : List D → Bool
  | [] => true
  | x :: xs => nb x && nbs xs
end
mutual
theorem eqv_nb : ∀ (x y : D), nb x = true → nb y = true → (PyData.eqv x y = true ↔ x = y)
  | .none, y, _, hy => by cases y <;> simp [PyData.eqv, nb] at hy ⊢
  | .int i, y, _, hy => by cases y <;> simp [PyData.eqv, nb] at hy ⊢
  | .str s, y, _, hy => by cases y <;> simp [PyData.eqv, nb] at hy ⊢
  | .list xs, y, hx, hy => by
    cases y with
    | list ys => rw [PyData.eqv]; rw [eqvs_nb xs ys hx hy]; simp
    | _ => simp [PyData.eqv, nb] at hy ⊢
  | .tuple xs, y, hx, hy => by
    cases y with
    | tuple ys => rw [PyData.eqv]; rw [eqvs_nb xs ys hx hy]; simp
    | _ => simp [PyData.eqv, nb] at hy ⊢
  | .bool _, _, hx, _ => by simp [nb] at hx
  | .dict _, _, hx, _ => by simp [nb] at hx
theorem eqvs_nb : ∀ (xs ys : List D), nbs xs = true → nbs ys = true → (PyData.eqvAll xs ys = true ↔ xs = ys)
  | [], [], _, _ => by simp [PyData.eqvAll]
  | [], y :: ys, _, _ => by simp [PyData.eqvAll]
  | x :: xs, [], _, _ => by simp [PyData.eqvAll]
  | x :: xs, y :: ys, hx, hy => by
    simp only [nbs, Bool.and_eq_true] at hx hy
    rw [PyData.eqvAll, Bool.and_eq_true, eqv_nb x y hx.1 hy.1, eqvs_nb xs ys hx.2 hy.2]
    simp
end
theorem nbs_all {xs : List D} (h : ∀ x, x ∈ xs → nb x = true) : nbs xs = true := by
  induction xs with
  | nil => rfl
  | cons x xs ih =>
    rw [nbs, h x List.mem_cons_self, ih fun y hy => h y (List.mem_cons_of_mem _ hy)]
    rfl
theorem nb_int {i : Int} : nb (.int i) = true := rfl
theorem nb_tuple {xs : List D} (h : ∀ x, x ∈ xs → nb x = true) : nb (.tuple xs) = true := nbs_all h
theorem nb_list {xs : List D} (h : ∀ x, x ∈ xs → nb x = true) : nb (.list xs) = true := nbs_all h
theorem nb_ints {ns : List Int} : ∀ x, x ∈ (ns.map PyData.int) → nb x = true := fun x hx => by
  obtain ⟨n, _, rfl⟩ := List.mem_map.mp hx
  rfl
/-- == as a truth value -/
theorem eqv_dec {x y : D} (hx : nb x = true) (hy : nb y = true) {p : Prop} [Decidable p] (h : x = y ↔ p) : PyData.eqv x y = decide p := by
  rw [Bool.eq_iff_iff, eqv_nb x y hx hy, h, decide_eq_true_eq]
theorem map_int_inj {ns ms : List Int} : ns.map PyData.int = ms.map PyData.int ↔ ns = ms :=
  ⟨fun h => (List.map_inj_right (fun a b e => PyData.int.inj e)).mp h, fun h => by rw [h]⟩
theorem eqvT_ints {ns ms : List Int} : PyData.eqv (.tuple (ns.map .int)) (.tuple (ms.map .int)) = decide (ns = ms) :=
  eqv_dec (nb_tuple nb_ints) (nb_tuple nb_ints) (by simp [map_int_inj])
theorem eqvL_ints {ns ms : List Int} : PyData.eqv (.list (ns.map .int)) (.list (ms.map .int)) = decide (ns = ms) :=
  eqv_dec (nb_list nb_ints) (nb_list nb_ints) (by simp [map_int_inj])
/-! ### loops that fold -/
theorem forL_fold {α σ : Type} {body : D → Loc → Sto → Rs (Fl × Loc)} {Q : Fl × Loc → Sto → Prop} (f : α → D) (step : σ → α → σ) (R : σ → Loc → Sto → Prop) : ∀ {xs : List α} {s : σ} {l : Loc} {S : Sto}, R s l S →
    (∀ x, x ∈ xs → ∀ s l S, R s l S → Holds (body (f x) l S) fun r S' => r.1 = .nx ∧ R (step s x) r.2 S') → (∀ l S, R (xs.foldl step s) l S → Q (.nx, l) S) → Holds (forL body (xs.map f) l S) Q
  | [], s, l, S, h, _, e => holds_ok.mpr (e l S h)
  | x :: xs, s, l, S, h, st, e => by
    show Holds ((body (f x) l S).bind (loopR (forL body (xs.map f)))) Q
    rw [holds_bind]
    refine (st x List.mem_cons_self s l S h).imp ?_
    rintro ⟨fl, l1⟩ S1 ⟨rfl, q⟩
    exact forL_fold f step R q (fun y hy => st y (List.mem_cons_of_mem _ hy)) e
/-- .. with the number of turns behind -/
theorem forL_foldI {α σ : Type} {body : D → Loc → Sto → Rs (Fl × Loc)} {Q : Fl × Loc → Sto → Prop} (f : α → D) (step : σ → α → σ) (R : Nat → σ → Loc → Sto → Prop) {xs : List α} {s : σ} {l : Loc} {S : Sto} (h0 : R 0 s l S)
    (st : ∀ i x, xs[i]? = some x → ∀ s l S, R i s l S → Holds (body (f x) l S) fun r S' => r.1 = .nx ∧ R (i + 1) (step s x) r.2 S') (e : ∀ l S, R xs.length (xs.foldl step s) l S → Q (.nx, l) S) : Holds (forL body (xs.map f) l S) Q := by
  refine forL_idx (fun i l S => R i ((xs.take i).foldl step s) l S) h0 ?_ ?_
  · intro i d hd l S h
    rw [List.getElem?_map] at hd
    obtain ⟨x, hx, rfl⟩ := Option.map_eq_some_iff.mp hd
    refine (st i x hx _ l S h).imp ?_
    rintro ⟨fl, l1⟩ S1 ⟨rfl, q⟩
    have e2 : (xs.take (i + 1)).foldl step s = step ((xs.take i).foldl step s) x := by
      rw [List.take_add_one, hx, List.foldl_append]; rfl
    show R (i + 1) ((xs.take (i + 1)).foldl step s) l1 S1
    rw [e2]; exact q
  · intro l S h
    rw [List.length_map, List.take_length] at h
    exact e l S h
theorem range_get {n i x : Nat} (h : (List.range n)[i]? = some x) : i < n ∧ x = i := by
  obtain ⟨a, b⟩ := List.getElem?_eq_some_iff.mp h
  rw [List.getElem_range] at b
  exact ⟨by simpa using a, b.symm⟩
section
variable {S : Sto} {p : Nat} {ds : List D} {d : D}
theorem cmp_ob {op : CO} (h : S[p]? = some (.lst ds)) : cmpW S op (.obj p) (.dat d) = cmpW S op (.dat (.list ds)) (.dat d) := by
  have e0 : ∀ op, cmpW0 S op (.obj p) (.dat d) = cmpW0 S op (.dat (.list ds)) (.dat d) := fun op => by
    unfold cmpW0
    rw [rdC_obj, h]
    rfl
  cases op <;> exact e0 _
end
section
variable {S : Sto} {x : D} {ys : List D}
theorem ninD {x : D} {ys : List D} : cmpD .notin x (.tuple ys) = (inD x ys).map (!·) := rfl
@[simp] theorem cmp_nin : cmpW S .notin (.dat x) (.dat (.list ys)) = if flatD x = true ∧ ys.all flatD = true then .ok (.dat (.bool (!ys.any fun y => PyData.eqv y x))) S else .no := by
  rw [cmpW_d]; show (match (inD x ys).map (!·) with | some c => _ | none => _) = _
  unfold inD; by_cases h : flatD x = true ∧ ys.all flatD = true <;> simp only [h, if_true, if_false] <;> rfl
@[simp] theorem cmp_ninT : cmpW S .notin (.dat x) (.dat (.tuple ys)) = if flatD x = true ∧ ys.all flatD = true then .ok (.dat (.bool (!ys.any fun y => PyData.eqv y x))) S else .no := by
  rw [cmpW_d]; show (match (inD x ys).map (!·) with | some c => _ | none => _) = _
  unfold inD; by_cases h : flatD x = true ∧ ys.all flatD = true <;> simp only [h, if_true, if_false] <;> rfl
end
/-! ### defs as values, extend, reversed(range) -/
section
variable {G : Nat → Option W} {F : Fun'} {l : Loc} {S : Sto} {Q : W → Sto → Prop} {R : Fl × Loc → Sto → Prop} {i k p : Nat} {x : Str} {es a b : E} {st : St'} {fs : List (Nat × Str)} {ds zs : List D}
@[simp] theorem we_fnv : wpE G F (.fnv i x) l S Q ↔ Q (.fn i x) S := holds_ok
@[simp] theorem we_callv : wpE G F (.callv k es) l S Q ↔ Holds (getV l k S) fun w S0 => Holds (fnW G w S0) fun i S1 => wpA G F es l S1 (kF (F i) Q) := by
  show Holds (Rs.bind _ _) Q ↔ _
  rw [hb]; simp only [hb]; rfl
@[simp] theorem ws_forF : wpS G F (.forF k fs st) l S R ↔ Holds (forFL (exM G F st) k fs l S) R := Iff.rfl
theorem forFL_cons {body : Loc → Sto → Rs (Fl × Loc)} : Holds (forFL body k ((i, x) :: fs) l S) R ↔ Holds (body (l.set k (some (.fn i x))) S) fun r S1 => Holds (loopR (forFL body k fs) r S1) R := holds_bind
theorem forFL_nil {body : Loc → Sto → Rs (Fl × Loc)} : Holds (forFL body k [] l S) R ↔ R (.nx, l) S := holds_ok
@[simp] theorem wi_rr2 {Q : List D → Sto → Prop} : wpI G F (.irr2 a b) l S Q ↔ wpE G F a l S (kE2 G F b l rngRW Q) := Iff.of_eq hb2
@[simp] theorem rngR_d {i j : Int} : rngRW (.dat (.int i)) (.dat (.int j)) S = if smallI i = true ∧ smallI j = true then .ok (rng (i + (((j - i).toNat : Nat) : Int) - 1) (-1) (j - i).toNat) S else .no := rfl
theorem ext_ob (h : S[p]? = some (.lst ds)) (hl : ds.length + zs.length ≤ sizeLine) : mthW S .extend (.obj p) [.dat (.list zs)] = .ok (.dat .none) (S.set p (.lst (ds ++ zs))) := by
  show (match S[p]? with | some (.lst ds) => _ | _ => _) = _
  rw [h]
  show (if ds.length + zs.length ≤ sizeLine then _ else _) = _
  rw [if_pos hl]
end
theorem small_lt {n : Nat} (h : n ≤ 1000000) : n < sizeLine := by
  have := small_len' (n := 1000000) (Nat.le_refl _)
  have h2 : 1000000 ≠ sizeLine := by decide +kernel
  omega
theorem pow_toNat (w : Nat) : ((2 : Int) ^ w).toNat = 2 ^ w := by
  have e : ((2 : Int) ^ w) = ((2 ^ w : Nat) : Int) := by simp
  rw [e]; rfl
theorem pow_le10 {w : Nat} (h : w ≤ 10) : 2 ^ w ≤ 1024 := Nat.pow_le_pow_right (by decide : 0 < 2) h
theorem small_pow {w : Nat} (h : w ≤ 10) : smallI ((2 : Int) ^ w) = true := by
  have e : ((2 : Int) ^ w) = ((2 ^ w : Nat) : Int) := by simp
  have := pow_le10 h
  rw [e]
  generalize 2 ^ w = z at this
  exact small_i (by omega) (by omega)
theorem ClS.snoc {S : Sto} {ds : List D} (h : ClS S) : ClS (S ++ [.lst ds]) := fun k hk => by
  have := h k (by simp at hk; omega)
  simp [this, obBelow]
/-! ### places behind the first object -/
theorem snoc_get {R : Sto} {o x : Ob} : (o :: (R ++ [x]))[R.length + 1]? = some x := by simp
theorem snoc_set {R : Sto} {o x y : Ob} : (o :: (R ++ [x])).set (R.length + 1) y = o :: (R ++ [y]) := by simp
theorem cl_snoc {R : Sto} {ds : List D} (h : Cl R) : Cl (R ++ [.lst ds]) := fun k hk => by
  have := h k (by simp at hk; omega)
  simp [this, obBelow]
theorem get2a {R : Sto} {o x y : Ob} : (o :: (R ++ [x, y]))[R.length + 1]? = some x := by simp
theorem get2b {R : Sto} {o x y : Ob} : (o :: (R ++ [x, y]))[R.length + 1 + 1]? = some y := by simp
theorem set2a {R : Sto} {o x y z : Ob} : (o :: (R ++ [x, y])).set (R.length + 1) z = o :: (R ++ [z, y]) := by simp
theorem set2b {R : Sto} {o x y z : Ob} : (o :: (R ++ [x, y])).set (R.length + 1 + 1) z = o :: (R ++ [x, z]) := by simp
/-- behind a def that made objects: a store that starts with o :: R -/
theorem leave_o {R T : Sto} {o : Ob} {n : Nat} {d : D} (hn : n = R.length + 1) (h : ClS (o :: R)) : leave n (.dat d) (o :: (R ++ T)) = .ok (.dat d) (o :: R) :=
  leave_more (S := o :: R) (T := T) (by simp [hn]) h
theorem cl_snoc2 {R : Sto} {ds es : List D} (h : Cl R) : Cl (R ++ [.lst ds, .lst es]) := fun k hk => by
  have := h k (by simp at hk; omega)
  simp [this, obBelow]
theorem popAt_nat {S : Sto} {p v : Nat} {ds : List D} {d : D} (h : S[p]? = some (.lst ds)) (h1 : (v : Int) < 2 ^ 62) (hd : ds[v]? = some d) : mthW S .popAt (.obj p) [.dat (.int v)] = .ok (.dat d) (S.set p (.lst (ds.eraseIdx v))) := popAt_ob h (by omega) h1 hd
section
variable {G : Nat → Option W} {F : Fun'} {b : E} {l : Loc} {S : Sto} {Q : W → Sto → Prop} {h : Bool}
theorem kand_cut (M : Bool → Sto → Prop) (h1 : h = true → wpE G F b l S fun w S' => ∃ c, w = .dat (.bool c) ∧ M c S') (h2 : h = false → M false S) (k : ∀ c S', M c S' → Q (.dat (.bool c)) S') : kAndE G F b l Q (.dat (.bool h)) S := by
  cases h with
  | true => exact Holds.imp (h1 rfl) fun w S' ⟨c, e, m⟩ => e ▸ k c S' m
  | false => exact holds_ok.mpr (k false S (h2 rfl))
theorem kor_cut (M : Bool → Sto → Prop) (h1 : h = false → wpE G F b l S fun w S' => ∃ c, w = .dat (.bool c) ∧ M c S') (h2 : h = true → M true S) (k : ∀ c S', M c S' → Q (.dat (.bool c)) S') : kOrE G F b l Q (.dat (.bool h)) S := by
  cases h with
  | false => exact Holds.imp (h1 rfl) fun w S' ⟨c, e, m⟩ => e ▸ k c S' m
  | true => exact holds_ok.mpr (k true S (h2 rfl))
end
end MP
set_option Elab.async false
set_option linter.all false
set_option maxRecDepth 100000
set_option maxHeartbeats 4000000
/-! Reasoning about instances. -/
namespace MP
open PySem L2
section
variable (G : Nat → Option W) (F : Fun')
def kMc1 (i : Nat) (w : W) (Q : W → Sto → Prop) : List W → Sto → Prop := fun ws S => Holds (F i (w :: ws) S) Q
def kMc0 (x m : Str) (i : Nat) (es : E) (l : Loc) (Q : W → Sto → Prop) : W → Sto → Prop := fun w S => Holds (insW x m w S) fun _ S2 => wpA G F es l S2 (kMc1 F i w Q)
def kCk1 (i : Nat) (ws : List W) (Q : W → Sto → Prop) : W → Sto → Prop := fun w S => Holds (F i (ws ++ [w]) S) Q
def kCk0 (i : Nat) (e : E) (l : Loc) (Q : W → Sto → Prop) : List W → Sto → Prop := fun ws S => wpE G F e l S (kCk1 F i ws Q)
def kFl (x f : Str) (w : W) (l : Loc) (Q : Loc → Sto → Prop) : W → Sto → Prop := fun y S => Holds (setA x f y w S) fun _ S2 => Q l S2
/-- a body whose objects are kept -/
def kKeep (Q : W → Sto → Prop) : Fl × Loc → Sto → Prop := fun r S => Holds (keepFn (.ok r S)) Q
end
section
variable {G : Nat → Option W} {F : Fun'} {l : Loc} {S : Sto} {Q : W → Sto → Prop} {R : Fl × Loc → Sto → Prop} {o es : E} {x m f : Str} {i n p : Nat} {w y v : W} {ws : List W} {s : St'} {fs : List (Str × W)}
@[simp] theorem we_fld : wpE G F (.fld x o f) l S Q ↔ wpE G F o l S (kF (fldW x f) Q) := Iff.of_eq hb
@[simp] theorem we_mcl : wpE G F (.mcl x m i o es) l S Q ↔ wpE G F o l S (kMc0 G F x m i es l Q) := by
  show Holds (Rs.bind _ _) Q ↔ _
  rw [hb]; simp only [hb]; rfl
@[simp] theorem we_sset {a : E} : wpE G F (.sset a) l S Q ↔ wpE G F a l S (kF ssetW Q) := Iff.of_eq hb
@[simp] theorem we_rpl {a b : E} : wpE G F (.rpl a b) l S Q ↔ wpE G F a l S (kE2 G F b l (fun x y S => rplW S x y) Q) := Iff.of_eq hb2
@[simp] theorem we_ckw {e : E} : wpE G F (.ckw i es e) l S Q ↔ wpA G F es l S (kCk0 G F i e l Q) := by
  show Holds (Rs.bind _ _) Q ↔ _
  rw [hb]; simp only [hb]; rfl
@[simp] theorem kck0_ap {e : E} : kCk0 G F i e l Q ws S ↔ wpE G F e l S (kCk1 F i ws Q) := Iff.rfl
@[simp] theorem kck1_ap : kCk1 F i ws Q w S ↔ Holds (F i (ws ++ [w]) S) Q := Iff.rfl
@[simp] theorem kmc0_ap : kMc0 G F x m i es l Q w S ↔ Holds (insW x m w S) fun _ S2 => wpA G F es l S2 (kMc1 F i w Q) := Iff.rfl
@[simp] theorem kmc1_ap : kMc1 F i w Q ws S ↔ Holds (F i (w :: ws) S) Q := Iff.rfl
@[simp] theorem wg_fld {Q : Loc → Sto → Prop} : wpG G F (.tfld x o f) w l S Q ↔ wpE G F o l S (kFl x f w l Q) := by
  show Holds (Rs.bind _ _) Q ↔ _
  rw [hb]; simp only [hb]
  refine Iff.of_eq (congrArg (Holds _) ?_)
  funext y S1
  show Holds _ (fun _ S2 => Holds (.ok l S2) Q) = Holds _ _
  simp only [holds_ok]
@[simp] theorem kfl_ap {Q : Loc → Sto → Prop} : kFl x f w l Q y S ↔ Holds (setA x f y w S) fun _ S2 => Q l S2 := Iff.rfl
theorem fld_at (h : S[p]? = some (.ins x fs)) : fldW x f (.obj p) S = opt (fs.lookup f) S := by
  show fldL x f S S[p]? = _
  rw [h]
  exact if_pos rfl
theorem ins_at (h : S[p]? = some (.ins x fs)) (hm : fs.lookup m = none) : insW x m (.obj p) S = .ok () S := by
  show insL x m S S[p]? = _
  rw [h]
  exact if_pos ⟨rfl, hm⟩
theorem setA_at (h : S[p]? = some (.ins x fs)) (hl : fs.length < 1000) : setA x f (.obj p) v S = .ok () (S.set p (.ins x (putA f v fs))) := by
  show setL x f v S p S[p]? = _
  rw [h]
  exact if_pos ⟨rfl, hl⟩
theorem call_kp {ft : Nat → Option Fn} {f : Nat} {np nn : Nat} (h1 : ft f = some ⟨np, nn, .kp s⟩) (h2 : ws.length = np) (h : wpS G (callM G ft n) s (start' ws nn) S (kKeep Q)) : Holds (callM G ft (n + 1) f ws S) Q := by
  unfold callM
  rw [h1]
  simp only [h2, if_true]
  show Holds (keepFn (exM G (callM G ft n) s (start' ws nn) S)) Q
  have h : Holds (exM G (callM G ft n) s (start' ws nn) S) (kKeep Q) := h
  revert h
  generalize exM G (callM G ft n) s (start' ws nn) S = r
  intro h
  cases r with
  | ok a S' => exact holds_ok.mp h
  | ex _ _ => exact (holds_ex.mp h).elim
  | no => exact (holds_no.mp h).elim
@[simp] theorem kkeep_ret : kKeep Q (.ret w, l) S ↔ Q w S := holds_ok
@[simp] theorem kkeep_nx : kKeep Q (.nx, l) S ↔ Q (.dat .none) S := holds_ok
/-- a class called -/
theorem call_new {ft : Nat → Option Fn} {f i : Nat} {np nn : Nat} (h1 : ft f = some ⟨np, nn, .mkI x i⟩) (h2 : ws.length = np) (h : Holds (callM G ft n i (.obj S.length :: ws) (S ++ [.ins x []])) fun w S2 => w = .dat .none ∧ Q (.obj S.length) S2) : Holds (callM G ft (n + 1) f ws S) Q := by
  unfold callM
  rw [h1]
  simp only [h2, if_true]
  show Holds (newI x (callM G ft n i) ws S) Q
  unfold newI
  obtain ⟨w, S2, e, rfl, q⟩ := h
  rw [e]
  exact holds_ok.mpr q
end
end MP
set_option Elab.async false
set_option linter.all false
set_option maxRecDepth 100000
set_option maxHeartbeats 4000000
/-! repr of data with ints of up to twelve signs. -/
namespace Lw
open PySem MP L2
/-- small data: k deep, at most m heavy -/
structure Rw (k m : Nat) (d : MP.D) : Prop where
  cl : d.canLay0 = true
  dp : d.depth ≤ k
  sh : d.showable = true
  lf : d.intsShort 13 = true
  wt : d.weight ≤ m
theorem Rw.mono {j k m n : Nat} {d : MP.D} (h : Rw j m d) (hk : j ≤ k) (hm : m ≤ n) : Rw k n d := ⟨h.cl, Nat.le_trans h.dp hk, h.sh, h.lf, Nat.le_trans h.wt hm⟩
theorem rw_int {i : Int} (h : i.natAbs < 10 ^ 12) : Rw 0 64 (.int i) := by
  have hl : i.natAbs.log2 < 63 := log2_lt64 (Nat.lt_trans h (by decide)) (by decide)
  refine ⟨rfl, Nat.le_refl _, ?_, ?_, ?_⟩
  · show decide (i.natAbs.log2 < 1920) = true
    exact decide_eq_true (by omega)
  · show decide ((PyData.shown (.int i)).length ≤ 13) = true
    exact decide_eq_true (PyData.shown_int_le h)
  · show (if i == 0 then 0 else i.natAbs.log2 + 1) ≤ 64
    split <;> omega
theorem rw_all {k m : Nat} : ∀ {xs : List MP.D}, (∀ x, x ∈ xs → Rw k m x) → PyData.canLayAll0 xs = true ∧ PyData.depthAll xs ≤ k ∧ PyData.showableAll xs = true ∧ PyData.intsShortAll 13 xs = true ∧ PyData.weightAll xs ≤ xs.length * (m + 1)
  | [], _ => ⟨rfl, Nat.zero_le _, rfl, rfl, by simp [PyData.weightAll]⟩
  | x :: xs, h => by
    have a := h x List.mem_cons_self
    obtain ⟨b1, b2, b3, b4, b5⟩ := rw_all (xs := xs) fun y hy => h y (List.mem_cons_of_mem _ hy)
    refine ⟨?_, Nat.max_le.mpr ⟨a.dp, b2⟩, ?_, ?_, ?_⟩
    · show (x.canLay0 && PyData.canLayAll0 xs) = true
      rw [a.cl, b1]; rfl
    · show (x.showable && PyData.showableAll xs) = true
      rw [a.sh, b3]; rfl
    · show (x.intsShort 13 && PyData.intsShortAll 13 xs) = true
      rw [a.lf, b4]; rfl
    · show x.weight + 1 + PyData.weightAll xs ≤ (xs.length + 1) * (m + 1)
      have := a.wt
      rw [Nat.add_mul, Nat.one_mul]
      omega
theorem rw_tuple {k m n : Nat} {xs : List MP.D} (h : ∀ x, x ∈ xs → Rw k m x) (hn : xs.length * (m + 1) ≤ n) : Rw (k + 1) n (.tuple xs) := by
  obtain ⟨b1, b2, b3, b4, b5⟩ := rw_all h
  exact ⟨b1, Nat.succ_le_succ b2, b3, b4, Nat.le_trans b5 hn⟩
theorem reprw_ok {k m : Nat} {xs : List MP.D} {S : Sto} (h : Rw k m (.tuple xs)) (hk : k ≤ 64) (hm : m ≤ 1000000) : biW S .repr false [.dat (.tuple xs)] = .ok (.dat (.str (PyData.tuple xs).shown)) S := by
  have h1 : (PyData.tuple xs).layable0 = true := by
    show (PyData.canLay0 _ && decide (PyData.depth _ ≤ 64) && decide (PyData.weight _ ≤ 2 ^ 20)) = true
    have := h.dp
    have := h.wt
    rw [h.cl, decide_eq_true (show PyData.depth (.tuple xs) ≤ 64 by omega), decide_eq_true (show PyData.weight (.tuple xs) ≤ 2 ^ 20 by omega)]
    rfl
  have h3 : (PyData.tuple xs).shown.length ≤ sizeLine := PyData.shown_fits_of_layable0 (B := 13) (by decide) (by decide) h1 h.lf
  show (if seqD (.tuple xs) = true ∧ (PyData.tuple xs).layable0 = true ∧ (PyData.tuple xs).showable = true ∧ (PyData.tuple xs).shown.length ≤ sizeLine then _ else _) = _
  rw [if_pos ⟨rfl, h1, h.sh, h3⟩]
end Lw
set_option Elab.async false
set_option linter.all false
set_option maxRecDepth 100000
set_option maxHeartbeats 4000000
/-! Dicts of whole numbers. -/
namespace Lw
open PySem MP L2
abbrev CS := List (Int × Int)
def KD (cs : CS) : List (Key × W) := cs.map fun c => (.inl c.1, .dat (.int c.2))
def lk (cs : CS) (k : Int) : Option Int := (cs.find? fun c => decide (c.1 = k)).map (·.2)
def putI (cs : CS) (k v : Int) : CS := if (lk cs k).isSome = true then cs.map (fun c => if c.1 = k then (c.1, v) else c) else cs ++ [(k, v)]
def dropI (cs : CS) (k : Int) : CS := cs.filter fun c => decide (c.1 ≠ k)
def keysI (cs : CS) : List Int := cs.map (·.1)
def ordI (cs : CS) : CS := (sortI (keysI cs)).map fun k => (k, (lk cs k).getD 0)
@[simp] theorem lk_nil {k : Int} : lk [] k = none := rfl
theorem lk_cons {k : Int} {c : Int × Int} {cs : CS} : lk (c :: cs) k = if c.1 = k then some c.2 else lk cs k := by
  unfold lk
  rw [List.find?_cons]
  by_cases e : c.1 = k <;> simp [e]
theorem val_KD {k : Int} : ∀ {cs : CS}, valW (KD cs) (.inl k) = (lk cs k).map fun v => .dat (.int v)
  | [] => rfl
  | c :: cs => by
    show valW ((.inl c.1, .dat (.int c.2)) :: KD cs) (.inl k) = _
    rw [valW_cons, lk_cons, val_KD (cs := cs)]
    by_cases e : c.1 = k <;> simp [e]
theorem put_KD {cs : CS} {k v : Int} : putW (KD cs) (.inl k) (.dat (.int v)) = KD (putI cs k v) := by
  unfold putW putI
  rw [valW_any, val_KD, Option.isSome_map]
  split
  · unfold KD
    rw [List.map_map, List.map_map]
    refine List.map_congr_left fun c _ => ?_
    by_cases e : c.1 = k <;> simp [e]
  · simp [KD]
theorem drop_KD {cs : CS} {k : Int} : dropW (KD cs) (.inl k) = KD (dropI cs k) := by
  unfold dropW dropI KD
  rw [List.filter_map]
  congr 1
  refine List.filter_congr fun c _ => ?_
  simp
theorem pairs_KD : ∀ {cs : CS}, pairsK (cs.map dPair) = some (KD cs)
  | [] => rfl
  | c :: cs => by
    show (match keyD (.int c.1), pairsK (cs.map dPair) with | some k, some kvs => some ((k, W.dat (.int c.2)) :: kvs) | _, _ => none) = _
    rw [pairs_KD (cs := cs)]
    rfl
theorem lk_mem {k v : Int} : ∀ {cs : CS}, lk cs k = some v → (k, v) ∈ cs
  | [], h => by cases h
  | c :: cs, h => by
    rw [lk_cons] at h
    split at h
    · rename_i e
      cases h
      subst e
      exact List.mem_cons_self
    · exact List.mem_cons_of_mem _ (lk_mem h)
theorem lk_none {k : Int} : ∀ {cs : CS}, lk cs k = none ↔ k ∉ keysI cs
  | [] => by simp [keysI]
  | c :: cs => by
    rw [lk_cons]
    show _ ↔ k ∉ c.1 :: keysI cs
    by_cases e : c.1 = k
    · simp [e]
    · have e2 : ¬ k = c.1 := fun z => e z.symm
      simp [e, e2, lk_none (cs := cs)]
theorem lk_isSome {cs : CS} {k : Int} : (lk cs k).isSome = decide (k ∈ keysI cs) := by
  cases h : lk cs k with
  | none => simp [lk_none.mp h]
  | some v =>
    have : k ∈ keysI cs := List.mem_map_of_mem (f := (·.1)) (lk_mem h)
    simp [this]
theorem lk_of_mem {k v : Int} : ∀ {cs : CS}, (keysI cs).Nodup → (k, v) ∈ cs → lk cs k = some v
  | c :: cs, nd, h => by
    rw [lk_cons]
    have nd : (c.1 :: keysI cs).Nodup := nd
    rcases List.mem_cons.mp h with rfl | h
    · simp
    · have : k ∈ keysI cs := List.mem_map_of_mem (f := (·.1)) h
      have ne : ¬ c.1 = k := fun e => by subst e; exact (List.nodup_cons.mp nd).1 this
      rw [if_neg ne]
      exact lk_of_mem (List.nodup_cons.mp nd).2 h
theorem lk_iff {cs : CS} {k v : Int} (nd : (keysI cs).Nodup) : lk cs k = some v ↔ (k, v) ∈ cs := ⟨lk_mem, lk_of_mem nd⟩
theorem lk_app {k : Int} {b : CS} : ∀ {a : CS}, lk (a ++ b) k = (lk a k).or (lk b k)
  | [] => by simp
  | c :: a => by
    rw [List.cons_append, lk_cons, lk_cons, lk_app]
    by_cases e : c.1 = k <;> simp [e]
theorem lk_put {cs : CS} {k v j : Int} : lk (putI cs k v) j = if k = j then some v else lk cs j := by
  have h := congrArg (fun z => valW z (.inl j)) (put_KD (cs := cs) (k := k) (v := v))
  simp only [val_KD, valW_put] at h
  have inj : ∀ a b : Option Int, (a.map fun v => W.dat (.int v)) = (b.map fun v => W.dat (.int v)) → a = b := fun a b h => by
    cases a <;> cases b <;> simp at h ⊢
    exact h
  refine inj _ _ (h.symm.trans ?_)
  by_cases e : k = j <;> simp [e]
theorem lk_drop {cs : CS} {k j : Int} : lk (dropI cs k) j = if k = j then none else lk cs j := by
  have h := congrArg (fun z => valW z (.inl j)) (drop_KD (cs := cs) (k := k))
  simp only [val_KD, valW_drop] at h
  have inj : ∀ a b : Option Int, (a.map fun v => W.dat (.int v)) = (b.map fun v => W.dat (.int v)) → a = b := fun a b h => by
    cases a <;> cases b <;> simp at h ⊢
    exact h
  refine inj _ _ (h.symm.trans ?_)
  by_cases e : k = j <;> simp [e]
theorem put_keys {cs : CS} {k v : Int} : keysI (putI cs k v) = if k ∈ keysI cs then keysI cs else keysI cs ++ [k] := by
  unfold putI
  rw [lk_isSome]
  by_cases h : k ∈ keysI cs
  · rw [if_pos (decide_eq_true h), if_pos h]
    unfold keysI
    rw [List.map_map]
    refine List.map_congr_left fun c _ => ?_
    show (if c.1 = k then (c.1, v) else c).1 = c.1
    split <;> rfl
  · rw [if_neg (by simpa using h), if_neg h]
    simp [keysI]
theorem put_nd {cs : CS} {k v : Int} (nd : (keysI cs).Nodup) : (keysI (putI cs k v)).Nodup := by
  rw [put_keys]
  split
  · exact nd
  · rename_i h
    rw [List.nodup_append]
    exact ⟨nd, by simp, fun a ha b hb => by simp at hb; subst hb; exact fun e => h (e ▸ ha)⟩
theorem drop_nd {cs : CS} {k : Int} (nd : (keysI cs).Nodup) : (keysI (dropI cs k)).Nodup := nd.sublist (List.Sublist.map _ List.filter_sublist)
theorem merge_go : ∀ {a b : CS}, (keysI (a ++ b)).Nodup → mergeW (KD a) (KD b) = KD (a ++ b)
  | a, [], _ => by simp [mergeW, KD]
  | a, c :: b, nd => by
    have hn : c.1 ∉ keysI a := by
      unfold keysI at nd
      rw [List.map_append, List.nodup_append] at nd
      intro h
      exact nd.2.2 _ h _ (by simp) rfl
    show mergeW (putW (KD a) (.inl c.1) (.dat (.int c.2))) (KD b) = _
    rw [put_KD]
    have e : putI a c.1 c.2 = a ++ [c] := by
      unfold putI
      rw [lk_isSome, if_neg (by simpa using hn)]
    rw [e, merge_go (a := a ++ [c]) (by simpa using nd)]
    simp
theorem merge_KD {cs : CS} (nd : (keysI cs).Nodup) : mergeW [] (KD cs) = KD cs := merge_go (a := []) nd
theorem keys_KD {cs : CS} : ((KD cs).map fun kv => dKey kv.1) = (keysI cs).map PyData.int := by
  simp [KD, keysI, dKey]
theorem sort_mem {l : List Int} {x : Int} : x ∈ sortI l ↔ x ∈ l := (sortI_perm l).mem_iff
theorem ord_keys {cs : CS} : keysI (ordI cs) = sortI (keysI cs) := by
  unfold ordI
  generalize sortI (keysI cs) = l
  unfold keysI
  rw [List.map_map]
  show l.map (fun k => k) = l
  simp
theorem ord_nd {cs : CS} (nd : (keysI cs).Nodup) : (keysI (ordI cs)).Nodup := by
  rw [ord_keys]; exact (sortI_perm _).nodup_iff.mpr nd
theorem lk_ord {cs : CS} (nd : (keysI cs).Nodup) {j : Int} : lk (ordI cs) j = lk cs j := by
  cases h : lk cs j with
  | none =>
    rw [lk_none, ord_keys, sort_mem]
    exact lk_none.mp h
  | some v =>
    rw [lk_iff (ord_nd nd)]
    refine List.mem_map.mpr ⟨j, sort_mem.mpr ?_, by rw [h]; rfl⟩
    exact List.mem_map_of_mem (f := (·.1)) (lk_mem h)
theorem ord_srt {cs : CS} (nd : (keysI cs).Nodup) : (ordI cs).Pairwise fun a b => a.1 < b.1 := by
  unfold ordI
  rw [List.pairwise_map]
  have h1 := sortI_sorted (keysI cs)
  have h2 : (sortI (keysI cs)).Nodup := (sortI_perm _).nodup_iff.mpr nd
  rw [List.nodup_iff_pairwise_ne] at h2
  exact (h1.and h2).imp fun {a b} ⟨x, y⟩ => by
    show a < b
    omega
theorem srt_nd {cs : CS} (h : cs.Pairwise fun a b => a.1 < b.1) : (keysI cs).Nodup := by
  unfold keysI
  rw [List.nodup_iff_pairwise_ne, List.pairwise_map]
  exact h.imp fun {a b} z => by omega
theorem put_len' {cs : CS} {k v : Int} : (putI cs k v).length ≤ cs.length + 1 := by
  unfold putI
  split <;> simp
theorem drop_len {cs : CS} {k : Int} : (dropI cs k).length ≤ cs.length := List.length_filter_le _ _
theorem ord_len {cs : CS} : (ordI cs).length = cs.length := by
  unfold ordI
  rw [List.length_map, (sortI_perm _).length_eq]
  simp [keysI]
theorem KD_len {cs : CS} : (KD cs).length = cs.length := by simp [KD]
theorem cl_KD {cs : CS} {n : Nat} : obBelow n (.dic (KD cs)) = true := by
  show ((KD cs).all fun kv => below n kv.2) = true
  unfold KD
  rw [List.all_map]
  exact List.all_eq_true.mpr fun c _ => rfl
theorem cl_KDl {cs : CS} {n : Nat} : obBelow n (.lck (KD cs)) = true := cl_KD (cs := cs)
/-! dict comprehensions -/
section
variable {G : Nat → Option W} {F : Fun'} {vs : List Nat} {kx vx tg : E} {l : MP.Loc} {p : Nat} {d : MP.D} {S : Sto} {Q : Unit → Sto → Prop}
theorem dcp_ap : Holds (dcpB G F vs kx vx tg .nil l p d S) Q ↔ wpG G F tg (.dat d) (wipeL l vs) S fun l2 S3 => wpE G F kx l2 S3 fun y S5 => wpE G F vx l2 S5 fun z S6 => Holds (dputW p y z S6) Q := by
  unfold dcpB
  rw [holds_bind]
  refine Iff.of_eq (congrArg _ ?_)
  funext l2 S3
  show Holds (Rs.bind (.ok true S3) _) Q = _
  rw [Rs.bind_ok, if_pos rfl]
  refine propext ?_
  rw [holds_bind]
  refine Iff.of_eq (congrArg _ ?_)
  funext y S5
  exact propext holds_bind
end
theorem forD_fold {α σ : Type} {body : MP.D → Sto → Rs Unit} {Q : Unit → Sto → Prop} (f : α → MP.D) (step : σ → α → σ) (R : σ → Sto → Prop) : ∀ {xs : List α} {s : σ} {S : Sto}, R s S →
    (∀ x, x ∈ xs → ∀ s S, R s S → Holds (body (f x) S) fun _ S' => R (step s x) S') → (∀ S, R (xs.foldl step s) S → Q () S) → Holds (forD body (xs.map f) S) Q
  | [], s, S, h, _, e => holds_ok.mpr (e S h)
  | x :: xs, s, S, h, st, e => by
    show Holds ((body (f x) S).bind fun _ S1 => forD body (xs.map f) S1) Q
    rw [holds_bind]
    refine (st x List.mem_cons_self s S h).imp fun _ S1 q => ?_
    exact forD_fold f step R q (fun y hy => st y (List.mem_cons_of_mem _ hy)) e
theorem forD_idx {α : Type} {body : MP.D → Sto → Rs Unit} {Q : Unit → Sto → Prop} (f : α → MP.D) (P : Nat → Sto → Prop) : ∀ {xs : List α} {j : Nat} {S : Sto}, P j S →
    (∀ i x, xs[i]? = some x → ∀ S, P (j + i) S → Holds (body (f x) S) fun _ S' => P (j + i + 1) S') → (∀ S, P (j + xs.length) S → Q () S) → Holds (forD body (xs.map f) S) Q
  | [], j, S, h, _, e => holds_ok.mpr (e S h)
  | x :: xs, j, S, h, st, e => by
    show Holds ((body (f x) S).bind fun _ S1 => forD body (xs.map f) S1) Q
    rw [holds_bind]
    refine (st 0 x rfl S h).imp fun _ S1 q => ?_
    refine forD_idx f P (j := j + 1) q (fun i y hy S2 h2 => ?_) fun S2 h2 => e S2 ?_
    · have := st (i + 1) y (by simpa using hy) S2 (by rw [show j + (i + 1) = j + 1 + i by omega]; exact h2)
      rw [show j + (i + 1) + 1 = j + 1 + i + 1 by omega] at this
      exact this
    · rw [List.length_cons, show j + (xs.length + 1) = j + 1 + xs.length by omega]
      exact h2
theorem put_new {a : CS} {c : Int × Int} (hn : c.1 ∉ keysI a) : putI a c.1 c.2 = a ++ [c] := by
  unfold putI
  rw [lk_isSome, if_neg (by simpa using hn)]
theorem put_take {cs : CS} {i : Nat} {c : Int × Int} (nd : (keysI cs).Nodup) (h : cs[i]? = some c) : putI (cs.take i) c.1 c.2 = cs.take (i + 1) := by
  rw [List.take_add_one, h]
  refine put_new fun hm => ?_
  obtain ⟨hi, e⟩ := List.getElem?_eq_some_iff.mp h
  obtain ⟨c2, hc2, e2⟩ := List.mem_map.mp hm
  obtain ⟨j, hj, e3⟩ := List.mem_iff_getElem.mp hc2
  rw [List.getElem_take] at e3
  rw [List.length_take] at hj
  have hj2 : j < cs.length := by omega
  have := (List.nodup_iff_pairwise_ne.mp nd)
  rw [List.pairwise_iff_getElem] at this
  have h2 := this j i (by simp [keysI]; omega) (by simpa [keysI] using hi) (by omega)
  simp [keysI] at h2
  rw [e3, e] at h2
  exact h2 e2
theorem put_fold : ∀ {b a : CS}, (keysI (a ++ b)).Nodup → b.foldl (fun s c => putI s c.1 c.2) a = a ++ b
  | [], a, _ => by simp
  | c :: b, a, nd => by
    have hn : c.1 ∉ keysI a := by
      unfold keysI at nd
      rw [List.map_append, List.nodup_append] at nd
      intro h
      exact nd.2.2 _ h _ (by simp) rfl
    have e : putI a c.1 c.2 = a ++ [c] := by
      unfold putI
      rw [lk_isSome, if_neg (by simpa using hn)]
    rw [List.foldl_cons, e, put_fold (a := a ++ [c]) (by simpa using nd)]
    simp
theorem put_foldl {S : Sto} {p : Nat} {cs : CS} {k v : Int} (h : S[p]? = some (.dic (KD cs))) (hl : cs.length ≤ 100000) : dputW p (.dat (.int k)) (.dat (.int v)) S = .ok () (S.set p (.dic (KD (putI cs k v)))) := by
  rw [put_d h (by rw [KD_len]; exact small_lt (by omega)) keyW_i, put_KD]
theorem set_KD {S : Sto} {p : Nat} {cs : CS} {k v : Int} (h : S[p]? = some (.dic (KD cs))) (hl : cs.length ≤ 100000) : setW S (.obj p) (.dat (.int k)) (.dat (.int v)) = .ok () (S.set p (.dic (KD (putI cs k v)))) := by
  rw [set_d h (by rw [KD_len]; exact small_lt (by omega)) keyW_i, put_KD]
theorem dict_KD {S : Sto} {cs : CS} (nd : (keysI cs).Nodup) (hl : cs.length ≤ 1000) : biW S .dict false [.dat (.tuple (cs.map dPair))] = .ok (.obj S.length) (S ++ [.dic (KD cs)]) := by
  rw [dict_tup pairs_KD (small_len' (by simp; omega)), merge_KD nd]
theorem idx_KD {S : Sto} {p : Nat} {cs : CS} {k v : Int} (h : DicAt S p (KD cs)) (hv : lk cs k = some v) : idxW S (.obj p) (.dat (.int k)) = .ok (.dat (.int v)) S := by
  rw [idx_dI h, val_KD, hv]; rfl
theorem in_KD {S : Sto} {p : Nat} {cs : CS} {k : Int} (h : DicAt S p (KD cs)) : cmpW S .isin (.dat (.int k)) (.obj p) = .ok (.dat (.bool (lk cs k).isSome)) S := by
  rw [in_dI h, val_KD, Option.isSome_map]
theorem nin_KD {S : Sto} {p : Nat} {cs : CS} {k : Int} (h : DicAt S p (KD cs)) : cmpW S .notin (.dat (.int k)) (.obj p) = .ok (.dat (.bool (!(lk cs k).isSome))) S := by
  rw [nin_dI h, val_KD, Option.isSome_map]
theorem len_KD {S : Sto} {p : Nat} {cs : CS} (h : DicAt S p (KD cs)) : biW S .len false [.obj p] = .ok (.dat (.int cs.length)) S := by
  rw [len_d h, KD_len]
theorem list_KD {S : Sto} {p : Nat} {cs : CS} (h : DicAt S p (KD cs)) : biW S .list false [.obj p] = .ok (.dat (.list ((keysI cs).map .int))) S := by
  rw [list_d h, keys_KD]; rfl
theorem pop_KD {S : Sto} {p : Nat} {cs : CS} {k v : Int} (h : S[p]? = some (.dic (KD cs))) (hv : lk cs k = some v) : dpopW S (.obj p) (.dat (.int k)) none = .ok (.dat (.int v)) (S.set p (.dic (KD (dropI cs k)))) := by
  rw [pop_d h keyW_i (by rw [val_KD, hv]; rfl), drop_KD]
theorem lck_KD {S : Sto} {p : Nat} {cs : CS} (h : S[p]? = some (.dic (KD cs))) : lckP p S = .ok p (S.set p (.lck (KD cs))) := lck_d h
theorem keys_KDl {S : Sto} {p : Nat} {cs : CS} (h : S[p]? = some (.lck (KD cs))) : keysP p S = .ok ((keysI cs).map .int) S := by rw [keys_d h, keys_KD]
end Lw
set_option Elab.async false
set_option linter.all false
set_option maxRecDepth 100000
set_option maxHeartbeats 4000000
namespace Lw
open PySem MP
def d_Ldraw_b1 : St' := (St'.cons (St'.set (E.tnm 1) (E.bin .mod (E.bi .int false (E.cons (E.bin .add (E.bin .add (E.bin .mul (E.var 1) (E.int 48271)) (E.bin .mod (E.bi .abs false (E.cons (E.bi .int false (E.cons (E.var 2) E.nil)) E.nil)) (E.int 65521))) (E.int 1)) E.nil)) (E.int 2147483647)))
  St'.nil)
/-- slots: 0:_law_script 1:_law_seed 2:_law_cell -/
def d_Ldraw : Fn := ⟨1, 3, (St'.cons (St'.set (E.tnm 1) (E.int 7))
  (St'.cons (St'.for (E.tnm 2) (E.isq (E.var 0)) d_Ldraw_b1)
  (St'.cons (St'.ret (E.lst true (E.cons (E.comp false [2] (E.bi .abs false (E.cons (E.bi .int false (E.cons (E.var 2) E.nil)) E.nil)) (E.tnm 2) (E.isq (E.var 0)) E.nil) (E.cons (E.neg (E.int 1)) (E.cons (E.int 0) (E.cons (E.var 1) E.nil))))))
  St'.nil)))⟩
/-- slots: 0:_law_draw_here 1:_law_many 2:_law_found -/
def d_Ltake : Fn := ⟨2, 3, (St'.cons (St'.cond (E.tcmp .eq (E.idx (E.var 0) (E.int 2)) (E.int 0))
  (St'.cons (St'.set (E.tsub (E.var 0) (E.int 1)) (E.bin .add (E.idx (E.var 0) (E.int 1)) (E.int 1)))
  (St'.cons (St'.cond (E.tcmp .lt (E.idx (E.var 0) (E.int 1)) (E.bi .len false (E.cons (E.idx (E.var 0) (E.int 0)) E.nil)))
  (St'.cons (St'.set (E.tsub (E.var 0) (E.int 2)) (E.idx (E.idx (E.var 0) (E.int 0)) (E.idx (E.var 0) (E.int 1))))
  St'.nil)
  St'.nil)
  (St'.cons (St'.cond (E.tcmp .eq (E.idx (E.var 0) (E.int 2)) (E.int 0))
  (St'.cons (St'.set (E.tsub (E.var 0) (E.int 3)) (E.bin .mod (E.bi .int false (E.cons (E.bin .add (E.bin .mul (E.idx (E.var 0) (E.int 3)) (E.int 48271)) (E.int 11)) E.nil)) (E.int 2147483647)))
  (St'.cons (St'.set (E.tsub (E.var 0) (E.int 2)) (E.idx (E.var 0) (E.int 3)))
  St'.nil))
  St'.nil)
  St'.nil)))
  St'.nil)
  (St'.cons (St'.set (E.tnm 2) (E.bin .mod (E.bi .int false (E.cons (E.idx (E.var 0) (E.int 2)) E.nil)) (E.var 1)))
  (St'.cons (St'.set (E.tsub (E.var 0) (E.int 2)) (E.bin .fdiv (E.idx (E.var 0) (E.int 2)) (E.var 1)))
  (St'.cons (St'.ret (E.var 2))
  St'.nil))))⟩
def d_law_b1 : St' := (St'.cons (St'.set (E.tsub (E.var 14) (E.idx (E.var 6) (E.var 7))) (E.idx (E.var 13) (E.var 7)))
  St'.nil)
def d_law_b2 : St' := (St'.cons (St'.set (E.tsub (E.var 14) (E.idx (E.var 6) (E.var 7))) (E.idx (E.var 12) (E.var 7)))
  St'.nil)
def d_law_b3 : St' := (St'.cons (St'.set (E.tnm 12) (E.bi .tuple false (E.cons (E.comp false [7] (E.call 1 (E.cons (E.var 1) (E.cons (E.int 2) E.nil))) (E.tnm 7) (E.irg1 (E.var 2)) E.nil) E.nil)))
  (St'.cons (St'.set (E.tnm 13) (E.call 13 (E.cons (E.idx (E.var 3) (E.int 1)) (E.cons (E.var 12) E.nil))))
  (St'.cons (St'.cond (E.tor (E.tcmp .ne (E.call 4 (E.cons (E.var 3) (E.cons (E.var 12) E.nil))) (E.var 13)) (E.one (E.tcmp .ne (E.call 4 (E.cons (E.call 3 (E.cons (E.var 3) E.nil)) (E.cons (E.var 13) E.nil))) (E.var 12))))
  (St'.cons (St'.ret (E.bl false))
  St'.nil)
  St'.nil)
  (St'.cons (St'.set (E.tnm 14) (E.comp true [7] (E.call 1 (E.cons (E.var 1) (E.cons (E.int 2) E.nil))) (E.tnm 7) (E.irg1 (E.bin .add (E.var 2) (E.int 3))) E.nil))
  (St'.cons (St'.for (E.tnm 7) (E.irg1 (E.var 2)) d_law_b2)
  (St'.cons (St'.set (E.tnm 15) (E.call 4 (E.cons (E.var 8) (E.cons (E.bi .tuple false (E.cons (E.var 14) E.nil)) E.nil))))
  (St'.cons (St'.for (E.tnm 7) (E.irg1 (E.var 2)) d_law_b1)
  (St'.cons (St'.cond (E.tcmp .ne (E.var 15) (E.bi .tuple false (E.cons (E.var 14) E.nil)))
  (St'.cons (St'.ret (E.bl false))
  St'.nil)
  St'.nil)
  St'.nil))))))))
def d_law_t1 : E := (E.tcmp .isin (E.var 11) (E.var 6))
def d_law_b4 : St' := (St'.cons (St'.set (E.tnm 11) (E.bin .mod (E.bi .int false (E.cons (E.bin .add (E.var 11) (E.int 1)) E.nil)) (E.bin .add (E.var 2) (E.int 3))))
  St'.nil)
def d_law_b5 : St' := (St'.cons (St'.set (E.tnm 11) (E.call 1 (E.cons (E.var 1) (E.cons (E.bin .add (E.var 2) (E.int 3)) E.nil))))
  (St'.cons (St'.whl d_law_t1 d_law_b4)
  (St'.cons (St'.expr (E.mth .append (E.var 6) (E.cons (E.var 11) E.nil)))
  St'.nil)))
/-- slots: 0:_law_script 1:_law_draw_here 2:_law_wires 3:_law_circuit_here 4:_law_other 5:_law_before 6:_law_places 7:_law_k 8:_law_moved 9:_law_turn 10:_law_sizes 11:_law_place 12:_law_bits_here 13:_law_due 14:_law_wide 15:_law_told 16:_law_target 17:_law_controls 18:_law_size 19:_law_gate_here -/
def d_law : Fn := ⟨1, 20, (St'.cons (St'.set (E.tnm 1) (E.call 0 (E.cons (E.var 0) E.nil)))
  (St'.cons (St'.cond (E.tnot (E.tv (E.call 15 (E.cons (E.var 1) E.nil))))
  (St'.cons (St'.ret (E.bl false))
  St'.nil)
  St'.nil)
  (St'.cons (St'.set (E.tnm 2) (E.bin .add (E.int 1) (E.call 1 (E.cons (E.var 1) (E.cons (E.int 7) E.nil)))))
  (St'.cons (St'.set (E.tnm 3) (E.call 19 (E.cons (E.var 1) (E.cons (E.var 2) (E.cons (E.int 15) E.nil)))))
  (St'.cons (St'.set (E.tnm 4) (E.call 19 (E.cons (E.var 1) (E.cons (E.var 2) (E.cons (E.int 6) E.nil)))))
  (St'.cons (St'.set (E.tnm 5) (E.bi .repr false (E.cons (E.var 3) E.nil)))
  (St'.cons (St'.cond (E.tor (E.tcmp .ne (E.call 10 (E.cons (E.var 3) E.nil)) (E.lst false E.nil)) (E.one (E.tcmp .ne (E.call 3 (E.cons (E.var 3) E.nil)) (E.tup (E.cons (E.var 2) (E.cons (E.trev (E.idx (E.var 3) (E.int 1))) E.nil))))))
  (St'.cons (St'.ret (E.bl false))
  St'.nil)
  St'.nil)
  (St'.cons (St'.cond (E.tcmp .ne (E.call 14 (E.cons (E.var 3) (E.cons (E.var 4) E.nil))) (E.tup (E.cons (E.var 2) (E.cons (E.bin .add (E.idx (E.var 3) (E.int 1)) (E.idx (E.var 4) (E.int 1))) E.nil))))
  (St'.cons (St'.ret (E.bl false))
  St'.nil)
  St'.nil)
  (St'.cons (St'.set (E.tnm 6) (E.lst true E.nil))
  (St'.cons (St'.for (E.tnm 7) (E.irg1 (E.var 2)) d_law_b5)
  (St'.cons (St'.set (E.tnm 8) (E.call 18 (E.cons (E.var 3) (E.cons (E.bin .add (E.var 2) (E.int 3)) (E.cons (E.bi .tuple false (E.cons (E.var 6) E.nil)) E.nil)))))
  (St'.cons (St'.cond (E.tor (E.tcmp .ne (E.idx (E.var 8) (E.int 0)) (E.bin .add (E.var 2) (E.int 3))) (E.tor (E.tcmp .ne (E.call 10 (E.cons (E.var 8) E.nil)) (E.lst false E.nil)) (E.one (E.tcmp .ne (E.bi .len false (E.cons (E.idx (E.var 8) (E.int 1)) E.nil)) (E.bi .len false (E.cons (E.idx (E.var 3) (E.int 1)) E.nil))))))
  (St'.cons (St'.ret (E.bl false))
  St'.nil)
  St'.nil)
  (St'.cons (St'.for (E.tnm 9) (E.irg1 (E.int 4)) d_law_b3)
  (St'.cons (St'.set (E.tnm 10) (E.comp false [16, 17] (E.bi .len false (E.cons (E.var 17) E.nil)) (E.ttup (E.cons (E.tnm 16) (E.cons (E.tnm 17) E.nil))) (E.isq (E.idx (E.var 3) (E.int 1))) E.nil))
  (St'.cons (St'.cond (E.tor (E.tcmp .ne (E.call 9 (E.cons (E.var 3) E.nil)) (E.comp false [18] (E.tup (E.cons (E.var 18) (E.cons (E.mth .count (E.var 10) (E.cons (E.var 18) E.nil)) E.nil))) (E.tnm 18) (E.isq (E.sset (E.var 10))) E.nil)) (E.one (E.tcmp .ne (E.call 7 (E.cons (E.var 3) E.nil)) (E.call 6 (E.cons (E.var 3) E.nil)))))
  (St'.cons (St'.ret (E.bl false))
  St'.nil)
  St'.nil)
  (St'.cons (St'.ret (E.and (E.cmp .eq (E.call 5 (E.cons (E.var 3) E.nil)) (E.bi .tuple false (E.cons (E.sset (E.comp false [19] (E.idx (E.var 19) (E.int 0)) (E.tnm 19) (E.isq (E.idx (E.var 3) (E.int 1))) E.nil)) E.nil))) (E.one (E.cmp .eq (E.bi .repr false (E.cons (E.var 3) E.nil)) (E.var 5)))))
  St'.nil))))))))))))))))⟩
/-- slots: 0:circuit -/
def d_inverse_circuit : Fn := ⟨1, 1, (St'.cons (St'.ret (E.tup (E.cons (E.idx (E.var 0) (E.int 0)) (E.cons (E.trev (E.idx (E.var 0) (E.int 1))) E.nil))))
  St'.nil)⟩
def d_run_circuit_b1 : St' := (St'.cons (St'.cond (E.tv (E.bi .all false (E.cons (E.comp false [5, 6] (E.cmp .eq (E.idx (E.var 2) (E.var 5)) (E.var 6)) (E.ttup (E.cons (E.tnm 5) (E.cons (E.tnm 6) E.nil))) (E.isq (E.var 4)) E.nil) E.nil)))
  (St'.cons (St'.set (E.tsub (E.var 2) (E.var 3)) (E.bin .sub (E.int 1) (E.idx (E.var 2) (E.var 3))))
  St'.nil)
  St'.nil)
  St'.nil)
/-- slots: 0:circuit 1:bits 2:found 3:target 4:controls 5:wire 6:value -/
def d_run_circuit : Fn := ⟨2, 7, (St'.cons (St'.set (E.tnm 2) (E.bi .list true (E.cons (E.var 1) E.nil)))
  (St'.cons (St'.for (E.ttup (E.cons (E.tnm 3) (E.cons (E.tnm 4) E.nil))) (E.isq (E.idx (E.var 0) (E.int 1))) d_run_circuit_b1)
  (St'.cons (St'.ret (E.bi .tuple false (E.cons (E.var 2) E.nil)))
  St'.nil)))⟩
/-- slots: 0:circuit 1:gate -/
def d_touched : Fn := ⟨1, 2, (St'.cons (St'.ret (E.bi .tuple false (E.cons (E.sset (E.comp false [1] (E.idx (E.var 1) (E.int 0)) (E.tnm 1) (E.isq (E.idx (E.var 0) (E.int 1))) E.nil)) E.nil)))
  St'.nil)⟩
def d_Llayers_t1 : E := (E.tand (E.tcmp .gt (E.var 5) (E.int 0)) (E.one (E.tcmp .eq (E.comp false [6] (E.var 6) (E.tnm 6) (E.isq (E.var 4)) (E.cons (E.tcmp .isin (E.var 6) (E.idx (E.var 1) (E.bin .sub (E.var 5) (E.int 1)))) E.nil)) (E.lst false E.nil))))
def d_Llayers_b1 : St' := (St'.cons (St'.set (E.tnm 5) (E.bin .sub (E.var 5) (E.int 1)))
  St'.nil)
def d_Llayers_b2 : St' := (St'.cons (St'.set (E.tnm 4) (E.bin .add (E.lst false (E.cons (E.var 2) E.nil)) (E.comp false [6, 7] (E.var 6) (E.ttup (E.cons (E.tnm 6) (E.cons (E.tnm 7) E.nil))) (E.isq (E.var 3)) E.nil)))
  (St'.cons (St'.set (E.tnm 5) (E.bi .len false (E.cons (E.var 1) E.nil)))
  (St'.cons (St'.whl d_Llayers_t1 d_Llayers_b1)
  (St'.cons (St'.cond (E.tcmp .eq (E.var 5) (E.bi .len false (E.cons (E.var 1) E.nil)))
  (St'.cons (St'.expr (E.mth .append (E.var 1) (E.cons (E.lst false E.nil) E.nil)))
  St'.nil)
  St'.nil)
  (St'.cons (St'.set (E.tsub (E.var 1) (E.var 5)) (E.bin .add (E.idx (E.var 1) (E.var 5)) (E.var 4)))
  St'.nil)))))
/-- slots: 0:_law_circuit_here 1:_law_layers_here 2:_law_target 3:_law_controls 4:_law_own 5:_law_at 6:_law_wire 7:_law_value_here -/
def d_Llayers : Fn := ⟨1, 8, (St'.cons (St'.set (E.tnm 1) (E.lst true E.nil))
  (St'.cons (St'.for (E.ttup (E.cons (E.tnm 2) (E.cons (E.tnm 3) E.nil))) (E.isq (E.idx (E.var 0) (E.int 1))) d_Llayers_b2)
  (St'.cons (St'.ret (E.bi .len false (E.cons (E.var 1) E.nil)))
  St'.nil)))⟩
def d_depth_b1 : St' := (St'.cons (St'.set (E.tsub (E.var 1) (E.var 4)) (E.var 3))
  St'.nil)
def d_depth_b2 : St' := (St'.cons (St'.set (E.tnm 3) (E.bin .add (E.int 1) (E.bi .max false (E.cons (E.comp false [4] (E.idx (E.var 1) (E.var 4)) (E.tnm 4) (E.isq (E.call 8 (E.cons (E.var 2) E.nil))) E.nil) E.nil))))
  (St'.cons (St'.for (E.tnm 4) (E.isq (E.call 8 (E.cons (E.var 2) E.nil))) d_depth_b1)
  St'.nil))
/-- slots: 0:circuit 1:last 2:gate 3:layer 4:wire -/
def d_depth : Fn := ⟨1, 5, (St'.cons (St'.set (E.tnm 1) (E.rpl (E.lst false (E.cons (E.int 0) E.nil)) (E.idx (E.var 0) (E.int 0))))
  (St'.cons (St'.for (E.tnm 2) (E.isq (E.idx (E.var 0) (E.int 1))) d_depth_b2)
  (St'.cons (St'.ret (E.bi .max false (E.cons (E.bin .add (E.lst false (E.cons (E.int 0) E.nil)) (E.var 1)) E.nil)))
  St'.nil)))⟩
/-- slots: 0:gate 1:wire 2:value -/
def d_wires_of : Fn := ⟨1, 3, (St'.cons (St'.ret (E.bin .add (E.lst false (E.cons (E.idx (E.var 0) (E.int 0)) E.nil)) (E.comp false [1, 2] (E.var 1) (E.ttup (E.cons (E.tnm 1) (E.cons (E.tnm 2) E.nil))) (E.isq (E.idx (E.var 0) (E.int 1))) E.nil)))
  St'.nil)⟩
def d_counts_b1 : St' := (St'.cons (St'.set (E.tsub (E.var 1) (E.bi .len false (E.cons (E.var 3) E.nil))) (E.bin .add (E.dm2 .get (E.var 1) (E.bi .len false (E.cons (E.var 3) E.nil)) (E.int 0)) (E.int 1)))
  St'.nil)
/-- slots: 0:circuit 1:found 2:target 3:controls 4:number -/
def d_counts : Fn := ⟨1, 5, (St'.cons (St'.set (E.tnm 1) (E.dct E.nil))
  (St'.cons (St'.for (E.ttup (E.cons (E.tnm 2) (E.cons (E.tnm 3) E.nil))) (E.isq (E.idx (E.var 0) (E.int 1))) d_counts_b1)
  (St'.cons (St'.ret (E.comp false [4] (E.tup (E.cons (E.var 4) (E.cons (E.idx (E.var 1) (E.var 4)) E.nil))) (E.tnm 4) (E.isq (E.bi .sorted false (E.cons (E.bi .list false (E.cons (E.var 1) E.nil)) E.nil))) E.nil))
  St'.nil)))⟩
def d_circuit_faults_b1 : St' := (St'.cons (St'.cond (E.tnot (E.tv (E.call 11 (E.cons (E.idx (E.idx (E.var 0) (E.int 1)) (E.var 2)) E.nil))))
  (St'.cons (St'.expr (E.mth .append (E.var 1) (E.cons (E.tup (E.cons (E.var 2) (E.cons (E.str "gate") E.nil))) E.nil)))
  St'.nil)
  (St'.cons (St'.cond (E.tcmp .ge (E.bi .max false (E.cons (E.call 8 (E.cons (E.idx (E.idx (E.var 0) (E.int 1)) (E.var 2)) E.nil)) E.nil)) (E.idx (E.var 0) (E.int 0)))
  (St'.cons (St'.expr (E.mth .append (E.var 1) (E.cons (E.tup (E.cons (E.var 2) (E.cons (E.str "wire") E.nil))) E.nil)))
  St'.nil)
  St'.nil)
  St'.nil))
  St'.nil)
/-- slots: 0:value 1:found 2:k -/
def d_circuit_faults : Fn := ⟨1, 3, (St'.cons (St'.cond (E.tor (E.tnot (E.tv (E.isi .tuple (E.var 0)))) (E.tor (E.tcmp .ne (E.bi .len false (E.cons (E.var 0) E.nil)) (E.int 2)) (E.tor (E.tnot (E.tv (E.call 12 (E.cons (E.idx (E.var 0) (E.int 0)) E.nil)))) (E.one (E.tnot (E.tv (E.isi .tuple (E.idx (E.var 0) (E.int 1)))))))))
  (St'.cons (St'.ret (E.lst false (E.cons (E.tup (E.cons (E.neg (E.int 1)) (E.cons (E.str "form") E.nil))) E.nil)))
  St'.nil)
  St'.nil)
  (St'.cons (St'.set (E.tnm 1) (E.lst true E.nil))
  (St'.cons (St'.for (E.tnm 2) (E.irg1 (E.bi .len false (E.cons (E.idx (E.var 0) (E.int 1)) E.nil))) d_circuit_faults_b1)
  (St'.cons (St'.frz 1) (St'.cons (St'.ret (E.var 1)) St'.nil)))))⟩
def d_is_gate_b1 : St' := (St'.cons (St'.cond (E.tor (E.tnot (E.tv (E.isi .tuple (E.var 2)))) (E.one (E.tcmp .ne (E.bi .len false (E.cons (E.var 2) E.nil)) (E.int 2))))
  (St'.cons (St'.ret (E.bl false))
  St'.nil)
  St'.nil)
  (St'.cons (St'.cond (E.tor (E.tnot (E.tv (E.call 12 (E.cons (E.idx (E.var 2) (E.int 0)) E.nil)))) (E.one (E.tnot (E.tv (E.call 12 (E.cons (E.idx (E.var 2) (E.int 1)) E.nil))))))
  (St'.cons (St'.ret (E.bl false))
  St'.nil)
  St'.nil)
  (St'.cons (St'.cond (E.tor (E.tcmp .gt (E.idx (E.var 2) (E.int 1)) (E.int 1)) (E.tor (E.tcmp .le (E.idx (E.var 2) (E.int 0)) (E.var 1)) (E.one (E.tcmp .eq (E.idx (E.var 2) (E.int 0)) (E.idx (E.var 0) (E.int 0))))))
  (St'.cons (St'.ret (E.bl false))
  St'.nil)
  St'.nil)
  (St'.cons (St'.set (E.tnm 1) (E.idx (E.var 2) (E.int 0)))
  St'.nil))))
/-- slots: 0:value 1:before 2:control -/
def d_is_gate : Fn := ⟨1, 3, (St'.cons (St'.cond (E.tor (E.tnot (E.tv (E.isi .tuple (E.var 0)))) (E.tor (E.tcmp .ne (E.bi .len false (E.cons (E.var 0) E.nil)) (E.int 2)) (E.tor (E.tnot (E.tv (E.call 12 (E.cons (E.idx (E.var 0) (E.int 0)) E.nil)))) (E.one (E.tnot (E.tv (E.isi .tuple (E.idx (E.var 0) (E.int 1)))))))))
  (St'.cons (St'.ret (E.bl false))
  St'.nil)
  St'.nil)
  (St'.cons (St'.set (E.tnm 1) (E.neg (E.int 1)))
  (St'.cons (St'.for (E.tnm 2) (E.isq (E.idx (E.var 0) (E.int 1))) d_is_gate_b1)
  (St'.cons (St'.ret (E.bl true))
  St'.nil))))⟩
/-- slots: 0:value -/
def d_is_number : Fn := ⟨1, 1, (St'.cons (St'.ret (E.and (E.isi .int (E.var 0)) (E.and (E.not (E.isi .bool (E.var 0))) (E.one (E.cmp .ge (E.var 0) (E.int 0))))))
  St'.nil)⟩
def d_Lturned_b1 : St' := (St'.cons (St'.cond (E.tcmp .eq (E.comp false [4, 5] (E.var 4) (E.ttup (E.cons (E.tnm 4) (E.cons (E.tnm 5) E.nil))) (E.isq (E.var 3)) (E.cons (E.tcmp .ne (E.idx (E.var 1) (E.var 4)) (E.var 5)) E.nil)) (E.lst false E.nil))
  (St'.cons (St'.set (E.tsub (E.var 1) (E.var 2)) (E.bin .sub (E.int 1) (E.idx (E.var 1) (E.var 2))))
  St'.nil)
  St'.nil)
  St'.nil)
/-- slots: 0:_law_gates 1:_law_bits_here 2:_law_target 3:_law_controls 4:_law_wire 5:_law_value_here -/
def d_Lturned : Fn := ⟨2, 6, (St'.cons (St'.set (E.tnm 1) (E.bi .list true (E.cons (E.var 1) E.nil)))
  (St'.cons (St'.for (E.ttup (E.cons (E.tnm 2) (E.cons (E.tnm 3) E.nil))) (E.isq (E.var 0)) d_Lturned_b1)
  (St'.cons (St'.ret (E.bi .tuple false (E.cons (E.var 1) E.nil)))
  St'.nil)))⟩
/-- slots: 0:first 1:second -/
def d_then : Fn := ⟨2, 2, (St'.cons (St'.ret (E.tup (E.cons (E.idx (E.var 0) (E.int 0)) (E.cons (E.bin .add (E.idx (E.var 0) (E.int 1)) (E.idx (E.var 1) (E.int 1))) E.nil))))
  St'.nil)⟩
def d_Lfaults_right_b1 : St' := (St'.cons (St'.cond (E.tcmp .ne (E.call 10 (E.cons (E.var 4) E.nil)) (E.lst false (E.cons (E.tup (E.cons (E.neg (E.int 1)) (E.cons (E.str "form") E.nil))) E.nil)))
  (St'.cons (St'.ret (E.bl false))
  St'.nil)
  St'.nil)
  St'.nil)
def d_Lfaults_right_b2 : St' := (St'.cons (St'.set (E.tnm 5) (E.call 17 (E.cons (E.var 0) (E.cons (E.int 4) (E.cons (E.int 3) E.nil)))))
  (St'.cons (St'.cond (E.tcmp .eq (E.call 1 (E.cons (E.var 0) (E.cons (E.int 2) E.nil))) (E.int 0))
  (St'.cons (St'.set (E.ttup (E.cons (E.tnm 5) (E.cons (E.tnm 6) E.nil))) (E.call 16 (E.cons (E.var 0) E.nil)))
  (St'.cons (St'.expr (E.mth .append (E.var 2) (E.cons (E.tup (E.cons (E.var 3) (E.cons (E.var 6) E.nil))) E.nil)))
  St'.nil))
  St'.nil)
  (St'.cons (St'.expr (E.mth .append (E.var 1) (E.cons (E.var 5) E.nil)))
  St'.nil)))
/-- slots: 0:_law_draw_here 1:_law_gates 2:_law_due 3:_law_k 4:_law_value_here 5:_law_gate_here 6:_law_code -/
def d_Lfaults_right : Fn := ⟨1, 7, (St'.cons (St'.set (E.tnm 1) (E.lst true E.nil))
  (St'.cons (St'.set (E.tnm 2) (E.lst true E.nil))
  (St'.cons (St'.for (E.tnm 3) (E.irg1 (E.call 1 (E.cons (E.var 0) (E.cons (E.int 6) E.nil)))) d_Lfaults_right_b2)
  (St'.cons (St'.for (E.tnm 4) (E.isq (E.lst false (E.cons E.non (E.cons (E.int 4) (E.cons (E.tup E.nil) (E.cons (E.tup (E.cons (E.int 4) E.nil)) (E.cons (E.tup (E.cons (E.neg (E.int 1)) (E.cons (E.tup E.nil) E.nil))) (E.cons (E.tup (E.cons (E.bl true) (E.cons (E.tup E.nil) E.nil))) (E.cons (E.tup (E.cons (E.str "4") (E.cons (E.tup E.nil) E.nil))) (E.cons (E.tup (E.cons (E.int 4) (E.cons E.non E.nil))) (E.cons (E.tup (E.cons (E.int 4) (E.cons (E.tup E.nil) (E.cons (E.tup E.nil) E.nil)))) E.nil))))))))))) d_Lfaults_right_b1)
  (St'.cons (St'.ret (E.cmp .eq (E.call 10 (E.cons (E.tup (E.cons (E.int 4) (E.cons (E.bi .tuple false (E.cons (E.var 1) E.nil)) E.nil))) E.nil)) (E.var 2)))
  St'.nil)))))⟩
/-- slots: 0:_law_draw_here 1:_law_rows -/
def d_Lgate_wrong : Fn := ⟨1, 2, (St'.cons (St'.set (E.tnm 1) (E.lst false (E.cons (E.tup (E.cons (E.tup (E.cons (E.int 4) (E.cons (E.tup E.nil) E.nil))) (E.cons (E.str "wire") E.nil))) (E.cons (E.tup (E.cons (E.tup (E.cons (E.int 0) (E.cons (E.tup (E.cons (E.tup (E.cons (E.int 4) (E.cons (E.int 1) E.nil))) E.nil)) E.nil))) (E.cons (E.str "wire") E.nil))) (E.cons (E.tup (E.cons (E.tup (E.cons (E.int 0) (E.cons (E.tup (E.cons (E.tup (E.cons (E.int 0) (E.cons (E.int 1) E.nil))) E.nil)) E.nil))) (E.cons (E.str "gate") E.nil))) (E.cons (E.tup (E.cons (E.tup (E.cons (E.int 0) (E.cons (E.tup (E.cons (E.tup (E.cons (E.int 1) (E.cons (E.int 2) E.nil))) E.nil)) E.nil))) (E.cons (E.str "gate") E.nil))) (E.cons (E.tup (E.cons (E.tup (E.cons (E.int 0) (E.cons (E.tup (E.cons (E.tup (E.cons (E.int 2) (E.cons (E.int 1) E.nil))) (E.cons (E.tup (E.cons (E.int 1) (E.cons (E.int 0) E.nil))) E.nil))) E.nil))) (E.cons (E.str "gate") E.nil))) E.nil)))))))
  (St'.cons (St'.set (E.tnm 1) (E.bin .add (E.var 1) (E.lst false (E.cons (E.tup (E.cons (E.tup (E.cons (E.int 0) (E.cons (E.tup (E.cons (E.tup (E.cons (E.int 1) (E.cons (E.int 0) E.nil))) (E.cons (E.tup (E.cons (E.int 1) (E.cons (E.int 1) E.nil))) E.nil))) E.nil))) (E.cons (E.str "gate") E.nil))) (E.cons (E.tup (E.cons (E.tup (E.cons (E.int 0) (E.cons (E.tup (E.cons (E.tup (E.cons (E.int 1) (E.cons (E.int 0) (E.cons (E.int 1) E.nil)))) E.nil)) E.nil))) (E.cons (E.str "gate") E.nil))) (E.cons (E.tup (E.cons (E.tup (E.cons (E.int 0) E.nil)) (E.cons (E.str "gate") E.nil))) (E.cons (E.tup (E.cons E.non (E.cons (E.str "gate") E.nil))) (E.cons (E.tup (E.cons (E.tup (E.cons (E.bl true) (E.cons (E.tup E.nil) E.nil))) (E.cons (E.str "gate") E.nil))) E.nil))))))))
  (St'.cons (St'.set (E.tnm 1) (E.bin .add (E.var 1) (E.lst false (E.cons (E.tup (E.cons (E.tup (E.cons (E.int 0) (E.cons (E.tup (E.cons (E.tup (E.cons (E.int 1) (E.cons (E.bl true) E.nil))) E.nil)) E.nil))) (E.cons (E.str "gate") E.nil))) (E.cons (E.tup (E.cons (E.tup (E.cons (E.int 0) (E.cons (E.tup (E.cons (E.tup (E.cons (E.int 1) E.nil)) E.nil)) E.nil))) (E.cons (E.str "gate") E.nil))) (E.cons (E.tup (E.cons (E.tup (E.cons (E.int 0) (E.cons (E.int 5) E.nil))) (E.cons (E.str "gate") E.nil))) (E.cons (E.tup (E.cons (E.tup (E.cons (E.str "0") (E.cons (E.tup E.nil) E.nil))) (E.cons (E.str "gate") E.nil))) E.nil)))))))
  (St'.cons (St'.ret (E.idx (E.var 1) (E.call 1 (E.cons (E.var 0) (E.cons (E.bi .len false (E.cons (E.var 1) E.nil)) E.nil)))))
  St'.nil))))⟩
def d_Lgate_b1 : St' := (St'.cons (St'.cond (E.tand (E.tcmp .ne (E.var 5) (E.var 3)) (E.tand (E.tcmp .lt (E.bi .len false (E.cons (E.var 4) E.nil)) (E.var 2)) (E.one (E.tcmp .eq (E.call 1 (E.cons (E.var 0) (E.cons (E.int 2) E.nil))) (E.int 0)))))
  (St'.cons (St'.expr (E.mth .append (E.var 4) (E.cons (E.tup (E.cons (E.var 5) (E.cons (E.call 1 (E.cons (E.var 0) (E.cons (E.int 2) E.nil))) E.nil))) E.nil)))
  St'.nil)
  St'.nil)
  St'.nil)
/-- slots: 0:_law_draw_here 1:_law_wires 2:_law_most 3:_law_target 4:_law_controls 5:_law_wire -/
def d_Lgate : Fn := ⟨3, 6, (St'.cons (St'.set (E.tnm 3) (E.call 1 (E.cons (E.var 0) (E.cons (E.var 1) E.nil))))
  (St'.cons (St'.set (E.tnm 4) (E.lst true E.nil))
  (St'.cons (St'.for (E.tnm 5) (E.irg1 (E.var 1)) d_Lgate_b1)
  (St'.cons (St'.ret (E.tup (E.cons (E.var 3) (E.cons (E.bi .tuple false (E.cons (E.var 4) E.nil)) E.nil))))
  St'.nil))))⟩
def d_on_wires_b1 : St' := (St'.cons (St'.set (E.tnm 6) (E.bi .sorted false (E.cons (E.comp false [7, 8] (E.tup (E.cons (E.idx (E.var 2) (E.var 7)) (E.cons (E.var 8) E.nil))) (E.ttup (E.cons (E.tnm 7) (E.cons (E.tnm 8) E.nil))) (E.isq (E.var 5)) E.nil) E.nil)))
  (St'.cons (St'.expr (E.mth .append (E.var 3) (E.cons (E.tup (E.cons (E.idx (E.var 2) (E.var 4)) (E.cons (E.bi .tuple false (E.cons (E.var 6) E.nil)) E.nil))) E.nil)))
  St'.nil))
/-- slots: 0:circuit 1:wires 2:places 3:gates 4:target 5:controls 6:moved 7:wire 8:value -/
def d_on_wires : Fn := ⟨3, 9, (St'.cons (St'.set (E.tnm 3) (E.lst true E.nil))
  (St'.cons (St'.for (E.ttup (E.cons (E.tnm 4) (E.cons (E.tnm 5) E.nil))) (E.isq (E.idx (E.var 0) (E.int 1))) d_on_wires_b1)
  (St'.cons (St'.ret (E.tup (E.cons (E.var 1) (E.cons (E.bi .tuple false (E.cons (E.var 3) E.nil)) E.nil))))
  St'.nil)))⟩
/-- slots: 0:_law_draw_here 1:_law_wires 2:_law_many 3:_law_k -/
def d_Lcircuit : Fn := ⟨3, 4, (St'.cons (St'.ret (E.tup (E.cons (E.var 1) (E.cons (E.bi .tuple false (E.cons (E.comp false [3] (E.call 17 (E.cons (E.var 0) (E.cons (E.var 1) (E.cons (E.idx (E.lst false (E.cons (E.int 3) (E.cons (E.int 1) (E.cons (E.int 9) E.nil)))) (E.call 1 (E.cons (E.var 0) (E.cons (E.int 3) E.nil)))) E.nil)))) (E.tnm 3) (E.irg1 (E.call 1 (E.cons (E.var 0) (E.cons (E.bin .add (E.var 2) (E.int 1)) E.nil)))) E.nil) E.nil)) E.nil))))
  St'.nil)⟩
def ft (i : Nat) : Option Fn := ([d_Ldraw, d_Ltake, d_law, d_inverse_circuit, d_run_circuit, d_touched, d_Llayers, d_depth, d_wires_of, d_counts, d_circuit_faults, d_is_gate, d_is_number, d_Lturned, d_then, d_Lfaults_right, d_Lgate_wrong, d_Lgate, d_on_wires, d_Lcircuit] : List Fn)[i]?
abbrev i_Ldraw : Nat := 0
@[simp] theorem ft_Ldraw : ft 0 = some d_Ldraw := rfl
abbrev i_Ltake : Nat := 1
@[simp] theorem ft_Ltake : ft 1 = some d_Ltake := rfl
abbrev i_law : Nat := 2
@[simp] theorem ft_law : ft 2 = some d_law := rfl
abbrev i_inverse_circuit : Nat := 3
@[simp] theorem ft_inverse_circuit : ft 3 = some d_inverse_circuit := rfl
abbrev i_run_circuit : Nat := 4
@[simp] theorem ft_run_circuit : ft 4 = some d_run_circuit := rfl
abbrev i_touched : Nat := 5
@[simp] theorem ft_touched : ft 5 = some d_touched := rfl
abbrev i_Llayers : Nat := 6
@[simp] theorem ft_Llayers : ft 6 = some d_Llayers := rfl
abbrev i_depth : Nat := 7
@[simp] theorem ft_depth : ft 7 = some d_depth := rfl
abbrev i_wires_of : Nat := 8
@[simp] theorem ft_wires_of : ft 8 = some d_wires_of := rfl
abbrev i_counts : Nat := 9
@[simp] theorem ft_counts : ft 9 = some d_counts := rfl
abbrev i_circuit_faults : Nat := 10
@[simp] theorem ft_circuit_faults : ft 10 = some d_circuit_faults := rfl
abbrev i_is_gate : Nat := 11
@[simp] theorem ft_is_gate : ft 11 = some d_is_gate := rfl
abbrev i_is_number : Nat := 12
@[simp] theorem ft_is_number : ft 12 = some d_is_number := rfl
abbrev i_Lturned : Nat := 13
@[simp] theorem ft_Lturned : ft 13 = some d_Lturned := rfl
abbrev i_then : Nat := 14
@[simp] theorem ft_then : ft 14 = some d_then := rfl
abbrev i_Lfaults_right : Nat := 15
@[simp] theorem ft_Lfaults_right : ft 15 = some d_Lfaults_right := rfl
abbrev i_Lgate_wrong : Nat := 16
@[simp] theorem ft_Lgate_wrong : ft 16 = some d_Lgate_wrong := rfl
abbrev i_Lgate : Nat := 17
@[simp] theorem ft_Lgate : ft 17 = some d_Lgate := rfl
abbrev i_on_wires : Nat := 18
@[simp] theorem ft_on_wires : ft 18 = some d_on_wires := rfl
abbrev i_Lcircuit : Nat := 19
@[simp] theorem ft_Lcircuit : ft 19 = some d_Lcircuit := rfl
def fnNames : List (Option Str) := [some (Str.ofString "_law_draw"), some (Str.ofString "_law_take"), some (Str.ofString "law"), some (Str.ofString "inverse_circuit"), some (Str.ofString "run_circuit"), some (Str.ofString "touched"), some (Str.ofString "_law_layers"), some (Str.ofString "depth"), some (Str.ofString "wires_of"), some (Str.ofString "counts"), some (Str.ofString "circuit_faults"), some (Str.ofString "is_gate"), some (Str.ofString "is_number"), some (Str.ofString "_law_turned"), some (Str.ofString "then"), some (Str.ofString "_law_faults_right"), some (Str.ofString "_law_gate_wrong"), some (Str.ofString "_law_gate"), some (Str.ofString "on_wires"), some (Str.ofString "_law_circuit")]
def Gc (i : Nat) : Option W := if i < fnAt then ([] : List W)[i]? else ((fnNames[i - fnAt]?).bind id).map fun x => .dat (.str x)
end Lw
set_option Elab.async false
set_option linter.all false
set_option maxRecDepth 100000
set_option maxHeartbeats 4000000
/-! The draws. -/
namespace Lw
open PySem MP L2
/-- the draw list -/
def dr (cs : List Int) (p c s : Int) : Ob := .lst [.list (cs.map .int), .int p, .int c, .int s]
structure DrI (cs : List Int) (p c s : Int) : Prop where
  cs : ∀ x, x ∈ cs → 0 ≤ x
  p : -1 ≤ p
  c : 0 ≤ c
  s0 : 0 ≤ s
  s1 : s < 2147483647
def Dw (o : Ob) : Prop := ∃ cs p c s, o = dr cs p c s ∧ DrI cs p c s
def TakeQ (R : Sto) (m : Int) : W → Sto → Prop := fun w S => ∃ v o', w = .dat (.int v) ∧ 0 ≤ v ∧ v < m ∧ Dw o' ∧ S = o' :: R
def TakeM (R : Sto) (m : Int) (cs : List Int) : Fl × MP.Loc → Sto → Prop := fun y S => ∃ p c s, DrI cs p c s ∧ y = (.nx, [some (.obj 0), some (.dat (.int m)), none]) ∧ S = dr cs p c s :: R
theorem take_ok {n : Nat} {o : Ob} {R : Sto} {m : Int} (ho : Dw o) (hm : 0 < m) (hl : m.natAbs < 2 ^ 64) (hR : Cl R) : Holds (callM Gc ft (n + 1) 1 [.obj 0, .dat (.int m)] (o :: R)) (TakeQ R m) := by
  obtain ⟨cs, p, c, s, rfl, i⟩ := ho
  refine call_def ft_Ltake rfl ?_
  simp [d_Ltake, start', dr]
  refine kifs_cut (TakeM R m cs) ?_ ?_
  · refine kifs_b (fun h => ?_) fun h => ?_
    · simp
      refine kifs_cut (fun y S => ∃ c, 0 ≤ c ∧ y = (.nx, [some (.obj 0), some (.dat (.int m)), none]) ∧ S = dr cs (p + 1) c s :: R) ?_ ?_
      · refine kifs_b (fun h => ?_) fun h => ?_
        · have h := of_decide_eq_true h
          obtain ⟨d, hd, e⟩ := at_in (xs := cs.map .int) (i := p + 1) (by have := i.p; omega) (by simpa using h)
          obtain ⟨x, hx, rfl⟩ := List.mem_map.mp hd
          simp [e]
          exact ⟨x, i.cs x hx, rfl⟩
        · simp
          exact ⟨c, i.c, rfl⟩
      · rintro y S ⟨c, hc, rfl, rfl⟩
        simp [dr]
        refine kifs_b (fun h => ?_) fun h => ?_
        · have := i.s0
          have := i.s1
          have hk : mulOk s 48271 := mulOk_s (by omega) (by decide)
          simp [hk]
          exact ⟨p + 1, _, _, ⟨i.cs, by have := i.p; omega, by omega, by omega, by omega⟩, rfl, rfl⟩
        · simp
          exact ⟨p + 1, c, s, ⟨i.cs, by have := i.p; omega, hc, i.s0, i.s1⟩, rfl, rfl⟩
    · simp
      exact ⟨p, c, s, i, rfl, rfl⟩
  · rintro y S ⟨p, c, s, i, rfl, rfl⟩
    have hd := divOk_s hm hl
    simp [dr, hm, hd, leave_0 rfl hR]
    exact ⟨_, _, rfl, Int.emod_nonneg _ (by omega), Int.emod_lt_of_pos _ hm, ⟨cs, p, c / m, s, rfl, i.cs, i.p, Int.ediv_nonneg i.c (by omega), i.s0, i.s1⟩, rfl⟩
def DrawQ : W → Sto → Prop := fun w S => ∃ o, w = .obj 0 ∧ Dw o ∧ S = [o]
theorem draw_ok {n : Nat} {ns : List Int} (hl : ns.length ≤ 63) : Holds (callM Gc ft (n + 1) 0 [.scr (ns.map .int)] []) DrawQ := by
  refine call_def ft_Ldraw rfl ?_
  simp [d_Ldraw, start']
  refine forL_inv (fun l S => S = [] ∧ ∃ s x, 0 ≤ s ∧ s < 2147483647 ∧ l = [some (.scr (ns.map .int)), some (.dat (.int s)), x]) ⟨rfl, 7, none, by decide, by decide, rfl⟩ ?_ ?_
  · rintro d hd l S ⟨rfl, s, x, h0, h1, rfl⟩
    obtain ⟨i, hi, rfl⟩ := List.mem_map.mp hd
    rw [forB_ap]
    have hk : mulOk s 48271 := mulOk_s (by omega) (by decide)
    simp [d_Ldraw_b1, hk]
    omega
  · rintro l S ⟨rfl, s, x, h0, h1, rfl⟩
    simp
    refine forC_all (fun d => ∃ x, d = .int x ∧ 0 ≤ x) (by simp; exact Nat.le_trans hl (by decide)) ?_ ?_
    · intro d hd
      obtain ⟨i, hi, rfl⟩ := List.mem_map.mp hd
      rw [comp_ap]
      simp [wipeL]
      split <;> omega
    · intro ys h2 h3
      obtain ⟨xs, rfl, hx⟩ := ints_of h3
      simp [leave, keepN, obBelow]
      exact ⟨_, rfl, ⟨xs, -1, 0, s, rfl, hx, by decide, by decide, h0, h1⟩, rfl⟩
end Lw
set_option Elab.async false
set_option linter.all false
set_option maxRecDepth 100000
set_option maxHeartbeats 4000000
/-! Gates, circuits: what the defs about them compute. -/
namespace Lw
open PySem MP L2
abbrev Gate := Int × List (Int × Int)
def dGate (g : Gate) : MP.D := .tuple [.int g.1, .tuple (g.2.map dPair)]
def dGates (gs : List Gate) : MP.D := .tuple (gs.map dGate)
def heldL (cs : List (Int × Int)) (bs : List Int) : Bool := cs.all fun c => decide (getI bs c.1 = c.2)
def turnL (bs : List Int) (g : Gate) : List Int := if heldL g.2 bs = true then bs.set g.1.toNat (1 - getI bs g.1) else bs
def runL (gs : List Gate) (bs : List Int) : List Int := gs.foldl turnL bs
/-- all its wires lie below n, not too many -/
structure InG (n : Int) (g : Gate) : Prop where
  t0 : 0 ≤ g.1
  t1 : g.1 < n
  c0 : ∀ c, c ∈ g.2 → 0 ≤ c.1
  c1 : ∀ c, c ∈ g.2 → c.1 < n
  len : g.2.length ≤ 1000
/-- a right gate -/
structure GoodG (n : Int) (g : Gate) : Prop extends InG n g where
  v : ∀ c, c ∈ g.2 → c.2 = 0 ∨ c.2 = 1
  ne : ∀ c, c ∈ g.2 → c.1 ≠ g.1
  srt : g.2.Pairwise fun a b => a.1 < b.1
theorem turnL_len (bs : List Int) (g : Gate) : (turnL bs g).length = bs.length := by
  unfold turnL; split <;> simp
theorem runL_len (gs : List Gate) : ∀ bs : List Int, (runL gs bs).length = bs.length := by
  induction gs with
  | nil => intro bs; rfl
  | cons g gs ih => intro bs; show (runL gs (turnL bs g)).length = _; rw [ih, turnL_len]
theorem sh_pair {p : Int × Int} : Sh 1 (dPair p) := sh_tuple (k := 0) fun x hx => by
  simp at hx
  rcases hx with rfl | rfl <;> exact sh_int
theorem sh_gate {g : Gate} : Sh 3 (dGate g) := sh_tuple (k := 2) fun x hx => by
  simp at hx
  rcases hx with rfl | rfl
  · exact sh_int
  · exact sh_tuple fun x hx => by
      obtain ⟨p, _, rfl⟩ := List.mem_map.mp hx
      exact sh_pair
theorem sh_gates {gs : List Gate} : Sh 4 (dGates gs) := sh_tuple fun x hx => by
  obtain ⟨p, _, rfl⟩ := List.mem_map.mp hx
  exact sh_gate
theorem lturned_eq {n : Nat} {gs : List Gate} {bs : List Int} {w : W} {S : Sto} (hg : ∀ g, g ∈ gs → InG bs.length g) (hw : biW S .list true [w] = .ok (.obj S.length) (S ++ [.lst (bs.map .int)])) (hS : ClS S) :
    callM Gc ft (n + 1) 13 [.dat (dGates gs), w] S = .ok (.dat (.tuple ((runL gs bs).map .int))) S := by
  refine is_eq (call_def ft_Lturned rfl ?_)
  simp [d_Lturned, start', hw, dGates]
  refine forL_idx (fun i l S' => ∃ a b c d, S' = S ++ [.lst ((runL (gs.take i) bs).map .int)] ∧ l = [some (.dat (dGates gs)), some (.obj S.length), a, b, c, d]) ⟨none, none, none, none, rfl, rfl⟩ ?_ ?_
  · rintro i d hd l S' ⟨a, b, c, e, rfl, rfl⟩
    rw [List.getElem?_map] at hd
    obtain ⟨g, hgi, rfl⟩ := Option.map_eq_some_iff.mp hd
    have hin := hg g (List.mem_of_getElem? hgi)
    have hr : runL (gs.take (i + 1)) bs = turnL (runL (gs.take i) bs) g := by
      rw [List.take_add_one, hgi]; simp [runL]
    have hlen := runL_len (gs.take i) bs
    rw [hr, forB_ap, dGate, wg_tup]
    refine ⟨rfl, ?_⟩
    simp [d_Lturned_b1]
    refine forC_filtM dPair (fun p => !decide (getI (runL (gs.take i) bs) p.1 = p.2)) (fun p => .int p.1) (small_len hin.len) ?_ ?_
    · intro p hp
      rw [comp_ap, dPair, wg_tup]
      refine ⟨rfl, ?_⟩
      simp [wipeL, idx_ob last_get, at_getI (hin.c0 p hp) (by rw [hlen]; exact hin.c1 p hp)]
      by_cases h : getI (runL (gs.take i) bs) p.1 = p.2 <;> simp [h]
    · simp
      rw [cmp_eq_nil (k := 1) (sh_list fun x hx => by
        obtain ⟨p, _, rfl⟩ := List.mem_map.mp hx
        exact sh_int)]
      simp
      refine kifs_b (fun h => ?_) fun h => ?_
      · have hh : heldL g.2 (runL (gs.take i) bs) = true := by
          simp at h
          simp only [heldL, List.all_eq_true, decide_eq_true_eq]
          exact fun c hc => h c.1 c.2 hc
        simp [idx_ob last_get, at_getI hin.t0 (by rw [hlen]; exact hin.t1), set_ob last_get (ix_nn (n := ((runL (gs.take i) bs).map PyData.int).length) hin.t0 (by rw [List.length_map, hlen]; exact hin.t1))]
        simp [turnL, hh]
      · have hh : heldL g.2 (runL (gs.take i) bs) = false := by
          cases e : heldL g.2 (runL (gs.take i) bs) with
          | false => rfl
          | true =>
            simp only [heldL, List.all_eq_true, decide_eq_true_eq] at e
            simp at h
            obtain ⟨x, y, hx, hne⟩ := h
            exact absurd (e _ hx) hne
        simp [turnL, hh]
  · rintro l S' ⟨a, b, c, d, rfl, rfl⟩
    simp [bi_ob last_get]
    rw [leave_more (by simp) hS]
    simp
end Lw
set_option Elab.async false
set_option linter.all false
set_option maxRecDepth 100000
set_option maxHeartbeats 4000000
/-! Drawn gates, drawn circuits. -/
namespace Lw
open PySem MP L2
theorem dw_cls {o : Ob} {R : Sto} (ho : Dw o) (h : Cl R) : ClS (o :: R) := by
  obtain ⟨cs, p, c, s, rfl, _⟩ := ho
  exact cls_cons h
def GateQ (R : Sto) (w : Int) : W → Sto → Prop := fun x S => ∃ (g : Gate) (o : Ob), x = .dat (dGate g) ∧ GoodG w g ∧ Dw o ∧ S = o :: R
theorem gate_ok {n : Nat} {o : Ob} {R : Sto} {w : Nat} {m : Int} (ho : Dw o) (h0 : 0 < w) (hw : w ≤ 1000) (hR : Cl R) :
    Holds (callM Gc ft (n + 2) 17 [.obj 0, .dat (.int w), .dat (.int m)] (o :: R)) (GateQ R w) := by
  refine call_def ft_Lgate rfl ?_
  refine Holds.hide fun Q hQ => ?_
  show wpS _ _ _ _ _ _
  simp [d_Lgate, start']
  refine (take_ok (n := n) (m := w) ho (by omega) (by omega) hR).imp ?_
  rintro _ _ ⟨t, o, rfl, ht0, ht1, ho, rfl⟩
  simp [small_i (i := (w : Int)) (by omega) (by omega)]
  refine forL_idx (fun i l S => ∃ (cs : List (Int × Int)) (o : Ob) (x : Option W), Dw o ∧ S = o :: (R ++ [.lst (cs.map dPair)]) ∧ cs.length ≤ i ∧ (∀ c, c ∈ cs → 0 ≤ c.1 ∧ c.1 < i ∧ c.1 < w ∧ (c.2 = 0 ∨ c.2 = 1) ∧ c.1 ≠ t) ∧ cs.Pairwise (fun a b => a.1 < b.1) ∧
    l = [some (.obj 0), some (.dat (.int w)), some (.dat (.int m)), some (.dat (.int t)), some (.obj (R.length + 1)), x]) ?_ ?_ ?_
  · exact ⟨[], o, none, ho, rfl, by simp, by simp, List.Pairwise.nil, rfl⟩
  · rintro i d hd l S ⟨cs, o, x, ho, rfl, hl, hc, hp, rfl⟩
    obtain ⟨hi, rfl⟩ := rngH_get hd
    refine Holds.hide fun Q hQ => ?_
    rw [forB_ap]
    simp [d_Lgate_b1]
    have hno : ∀ o, Dw o → Q (.nx, [some (.obj 0), some (.dat (.int w)), some (.dat (.int m)), some (.dat (.int t)), some (.obj (R.length + 1)), some (.dat (.int (i : Int)))]) (o :: (R ++ [.lst (cs.map dPair)])) := fun o ho => by
      rw [hQ]
      exact ⟨cs, o, _, ho, rfl, by omega, fun c h => by have := hc c h; omega, hp, rfl⟩
    refine kand_b (fun h1 => ?_) fun h1 => ?_
    · simp at h1
      simp [bi_ob snoc_get]
      refine kand_b (fun h2 => ?_) fun h2 => ?_
      · simp
        refine (take_ok (n := n) (m := 2) ho (by decide) (by decide) (cl_snoc hR)).imp ?_
        rintro _ _ ⟨v, o, rfl, hv0, hv1, ho, rfl⟩
        simp
        refine kifs_b (fun h3 => ?_) fun h3 => ?_
        · simp [recv_ob snoc_get]
          refine (take_ok (n := n) (m := 2) ho (by decide) (by decide) (cl_snoc hR)).imp ?_
          rintro _ _ ⟨u, o, rfl, hu0, hu1, ho, rfl⟩
          simp
          rw [app_ob snoc_get (small_lt (by simp; omega))]
          simp
          rw [hQ]
          refine ⟨cs ++ [((i : Int), u)], o, _, ho, by simp [dPair], by simp; omega, fun c h => ?_, ?_, rfl⟩
          · rcases List.mem_append.mp h with h | h
            · have := hc c h; omega
            · rw [List.mem_singleton.mp h]
              refine ⟨by show (0 : Int) ≤ i; omega, by show (i : Int) < (i + 1 : Nat); omega, by show (i : Int) < w; omega, by show u = 0 ∨ u = 1; omega, h1⟩
          · rw [List.pairwise_append]
            refine ⟨hp, List.pairwise_singleton _ _, fun a ha b hb => ?_⟩
            rw [List.mem_singleton.mp hb]
            exact (hc a ha).2.1
        · simp
          exact hno o ho
      · simp
        exact hno o ho
    · simp
      exact hno o ho
  · rintro l S ⟨cs, o, x, ho, rfl, hl, hc, hp, rfl⟩
    rw [rngH_len] at hl
    simp [bi_ob snoc_get]
    rw [hQ, kdone_ret, leave_o (by simp) (dw_cls ho hR)]
    simp
    exact ⟨(t, cs), o, rfl, ⟨⟨ht0, ht1, fun c h => (hc c h).1, fun c h => (hc c h).2.2.1, by show cs.length ≤ 1000; omega⟩, fun c h => (hc c h).2.2.2.1, fun c h => (hc c h).2.2.2.2, hp⟩, ho, rfl⟩
def CircQ (R : Sto) (w : Int) (m : Nat) : W → Sto → Prop := fun x S => ∃ (gs : List Gate) (o : Ob), x = .dat (.tuple [.int w, dGates gs]) ∧ gs.length ≤ m ∧ (∀ g, g ∈ gs → GoodG w g) ∧ Dw o ∧ S = o :: R
theorem circuit_ok {n : Nat} {o : Ob} {R : Sto} {w m : Nat} (ho : Dw o) (h0 : 0 < w) (hw : w ≤ 1000) (hm : m ≤ 1000) (hR : Cl R) :
    Holds (callM Gc ft (n + 3) 19 [.obj 0, .dat (.int w), .dat (.int m)] (o :: R)) (CircQ R w m) := by
  refine call_def ft_Lcircuit rfl ?_
  refine Holds.hide fun Q hQ => ?_
  show wpS _ _ _ _ _ _
  simp [d_Lcircuit, start']
  refine (take_ok (n := n + 1) (m := (m : Int) + 1) ho (by omega) (by omega) hR).imp ?_
  rintro _ _ ⟨v, o, rfl, hv0, hv1, ho, rfl⟩
  obtain ⟨v, rfl⟩ := nat_of hv0
  simp [small_i (i := (v : Int)) (by omega) (by omega)]
  refine forC_idx (fun i acc S => ∃ (gs : List Gate) (o : Ob), acc = gs.map dGate ∧ gs.length = i ∧ i ≤ v ∧ (∀ g, g ∈ gs → GoodG w g) ∧ Dw o ∧ S = o :: R) ?_ ?_ ?_
  · exact ⟨[], o, rfl, rfl, by omega, by simp, ho, rfl⟩
  · rintro i d hd acc S ⟨gs, o, rfl, hi, hv, hg, ho, rfl⟩
    obtain ⟨hlt, _⟩ := rngH_get hd
    refine Holds.hide fun Q hQ => ?_
    rw [comp_ap]
    simp [wipeL]
    refine (take_ok (n := n + 1) (m := 3) ho (by decide) (by decide) hR).imp ?_
    rintro _ _ ⟨x, o, rfl, hx0, hx1, ho, rfl⟩
    simp
    refine holds_at (fun d => ∃ z : Int, d = .int z) hx0 (by simpa using hx1) (by simp) ?_
    rintro _ ⟨z, rfl⟩
    simp
    refine (gate_ok (n := n) (m := z) ho h0 hw hR).imp ?_
    rintro _ _ ⟨g, o, rfl, hgg, ho, rfl⟩
    simp
    rw [hQ]
    refine ⟨by simp; exact small_lt (by omega), gs ++ [g], o, by simp, by simp [hi], by omega, fun x hx => ?_, ho, rfl⟩
    rcases List.mem_append.mp hx with hx | hx
    · exact hg x hx
    · rw [List.mem_singleton.mp hx]; exact hgg
  · rintro acc S ⟨gs, o, rfl, hi, hv, hg, ho, rfl⟩
    simp
    rw [hQ, kdone_ret, leave_same (by simp) (dw_cls ho hR)]
    simp
    exact ⟨gs, o, rfl, by omega, hg, ho, rfl⟩
end Lw
set_option Elab.async false
set_option linter.all false
set_option maxRecDepth 100000
set_option maxHeartbeats 4000000
/-! What a right gate is; circuit_faults. -/
namespace Lw
open PySem MP L2
/-! ### what a gate is -/
def PairN (c : Int × Int) : Prop := 0 ≤ c.1 ∧ 0 ≤ c.2
theorem is_number_eq {n : Nat} {i : Int} {S : Sto} (h : 0 ≤ i) (hS : ClS S) : callM Gc ft (n + 1) 12 [.dat (.int i)] S = .ok (.dat (.bool true)) S := by
  refine is_eq (call_def ft_is_number rfl ?_)
  simp [d_is_number, start', h, leave_same rfl hS]
theorem is_gate_eq {n : Nat} {m : Int} {g : Gate} {S : Sto} (h : GoodG m g) (hS : ClS S) : callM Gc ft (n + 2) 11 [.dat (dGate g)] S = .ok (.dat (.bool true)) S := by
  refine is_eq (call_def ft_is_gate rfl ?_)
  simp [d_is_gate, start', dGate, is_number_eq h.t0 hS]
  refine forL_idx (fun i l S' => S' = S ∧ ∃ b c, (∀ x, x ∈ g.2.drop i → b < x.1) ∧ l = [some (.dat (dGate g)), some (.dat (.int b)), c]) ⟨rfl, -1, none, fun x hx => by have := h.c0 x (by simpa using hx); omega, rfl⟩ ?_ ?_
  · rintro i d hd l S' ⟨rfl, b, c, hb, rfl⟩
    rw [List.getElem?_map] at hd
    obtain ⟨p, hp, rfl⟩ := Option.map_eq_some_iff.mp hd
    have hm := List.mem_of_getElem? hp
    have hlt := (List.getElem?_eq_some_iff.mp hp).1
    have hdr : g.2.drop i = p :: g.2.drop (i + 1) := by
      rw [List.drop_eq_getElem_cons hlt]
      rw [List.getElem?_eq_getElem hlt] at hp
      cases hp; rfl
    have h1 := hb p (by rw [hdr]; exact List.mem_cons_self)
    have h2 := h.v p hm
    have h3 := h.ne p hm
    have hs : ∀ x, x ∈ g.2.drop (i + 1) → p.1 < x.1 := by
      have := h.srt.sublist (List.drop_sublist i g.2)
      rw [hdr] at this
      exact (List.pairwise_cons.mp this).1
    rw [forB_ap]
    have v1 : ¬ 1 < p.2 := by omega
    have v2 : ¬ p.1 ≤ b := by omega
    simp [d_is_gate_b1, dPair, is_number_eq (h.c0 p hm) hS, is_number_eq (show 0 ≤ p.2 by omega) hS, v1, v2, h3, dGate]
    exact fun a b hx => hs (a, b) hx
  · rintro l S' ⟨rfl, b, c, hb, rfl⟩
    simp [leave_same rfl hS]
theorem wires_of_eq {n : Nat} {g : Gate} {S : Sto} (hl : g.2.length ≤ 1000) (hS : ClS S) : callM Gc ft (n + 1) 8 [.dat (dGate g)] S = .ok (.dat (.list ((g.1 :: g.2.map (·.1)).map .int))) S := by
  refine is_eq (call_def ft_wires_of rfl ?_)
  simp [d_wires_of, start', dGate]
  refine forC_mapM dPair (fun p => .int p.1) (small_len hl) ?_ ?_
  · intro p hp
    rw [comp_ap, dPair, wg_tup]
    refine ⟨rfl, ?_⟩
    simp [wipeL]
  · have : 1 + g.2.length ≤ sizeLine := small_len' (by omega)
    simp [this, leave_same rfl hS]
theorem maxI_lt : ∀ {ns : List Int} {m : Int}, ns ≠ [] → (∀ x, x ∈ ns → x < m) → ∃ M, maxI ns = some M ∧ M < m
  | [], _, h, _ => absurd rfl h
  | [x], m, _, h => ⟨x, rfl, h x (by simp)⟩
  | x :: y :: r, m, _, h => by
    obtain ⟨M, e, hM⟩ := maxI_lt (ns := y :: r) (m := m) (by simp) fun z hz => h z (List.mem_cons_of_mem _ hz)
    refine ⟨if x ≤ M then M else x, ?_, ?_⟩
    · show (maxI (y :: r)).map (fun m => if x ≤ m then m else x) = _
      rw [e]; rfl
    · split
      · exact hM
      · exact h x (by simp)
theorem faults_eq {n : Nat} {m : Int} {gs : List Gate} {S : Sto} (h0 : 0 ≤ m) (hl : gs.length ≤ 1000000) (h : ∀ g, g ∈ gs → GoodG m g) (hS : ClS S) :
    callM Gc ft (n + 3) 10 [.dat (.tuple [.int m, dGates gs])] S = .ok (.dat (.list [])) S := by
  refine is_eq (call_def ft_circuit_faults rfl ?_)
  have hS1 : ClS (S ++ [.lst []]) := fun k hk => by
    have := hS k (by simp at hk; omega)
    simp [this, obBelow]
  simp [d_circuit_faults, start', dGates, is_number_eq h0 hS, small_i (i := (gs.length : Int)) (by omega) (by omega)]
  refine forL_idx (fun i l S' => S' = S ++ [.lst []] ∧ ∃ b, l = [some (.dat (.tuple [.int m, dGates gs])), some (.obj S.length), b]) ⟨rfl, none, rfl⟩ ?_ ?_
  · rintro i d hd l S' ⟨rfl, b, rfl⟩
    obtain ⟨hi, rfl⟩ := rngH_get hd
    have hg := h gs[i] (List.getElem_mem hi)
    have ha : atI (gs.map dGate) (i : Int) = some (dGate gs[i]) := atI_nat (by rw [List.getElem?_map, List.getElem?_eq_getElem hi]; rfl)
    obtain ⟨M, eM, hM⟩ := maxI_lt (ns := gs[i].1 :: gs[i].2.map (·.1)) (m := m) (by simp) (by
      intro x hx
      rcases List.mem_cons.mp hx with rfl | hx
      · exact hg.t1
      · obtain ⟨p, hp, rfl⟩ := List.mem_map.mp hx
        exact hg.c1 p hp)
    have e2 : biW (S ++ [.lst []]) .max false [.dat (.list ((gs[i].1 :: gs[i].2.map (·.1)).map .int))] = .ok (.dat (.int M)) (S ++ [.lst []]) := bi_maxI eM
    simp only [List.map_cons, List.map_map] at e2
    rw [forB_ap]
    simp [d_circuit_faults_b1, dGates, ha, is_gate_eq hg hS1, wires_of_eq (n := n + 1) hg.len hS1, e2, show ¬ m ≤ M by omega]
  · rintro l S' ⟨rfl, b, rfl⟩
    simp [frz_ob last_get]
    rw [leave_more (by simp) hS]
    simp
end Lw
set_option Elab.async false
set_option linter.all false
set_option maxRecDepth 100000
set_option maxHeartbeats 4000000
/-! Wrong gates, their faults. -/
namespace Lw
open PySem MP L2
abbrev ds (s : String) : MP.D := .str (Str.ofString s)
def numD : MP.D → Bool
  | .int i => decide (0 ≤ i)
  | _ => false
theorem isnum {n : Nat} {S : Sto} (hS : ClS S) : ∀ d : MP.D, callM Gc ft (n + 1) 12 [.dat d] S = .ok (.dat (.bool (numD d))) S := by
  intro d
  refine is_eq (call_def ft_is_number rfl ?_)
  cases d
  case int i =>
    by_cases h : 0 ≤ i <;> simp [d_is_number, start', h, leave_same rfl hS, numD, isiD]
  all_goals simp [d_is_number, start', leave_same rfl hS, numD, isiD]
/-- what circuit_faults finds at an item -/
inductive Item (m : Int) (d : MP.D) : Option String → Prop
  | bad (h : ∀ (n : Nat) (S : Sto), ClS S → callM Gc ft (n + 2) 11 [.dat d] S = .ok (.dat (.bool false)) S) : Item m d (some "gate")
  | wide (M : Int) (ns : List Int) (h : ∀ (n : Nat) (S : Sto), ClS S → callM Gc ft (n + 2) 11 [.dat d] S = .ok (.dat (.bool true)) S) (w : ∀ (n : Nat) (S : Sto), ClS S → callM Gc ft (n + 1) 8 [.dat d] S = .ok (.dat (.list (ns.map .int))) S) (e : maxI ns = some M) (l : m ≤ M) : Item m d (some "wire")
  | fine (M : Int) (ns : List Int) (h : ∀ (n : Nat) (S : Sto), ClS S → callM Gc ft (n + 2) 11 [.dat d] S = .ok (.dat (.bool true)) S) (w : ∀ (n : Nat) (S : Sto), ClS S → callM Gc ft (n + 1) 8 [.dat d] S = .ok (.dat (.list (ns.map .int))) S) (e : maxI ns = some M) (l : M < m) : Item m d none
theorem item_good {m : Int} {g : Gate} (hg : GoodG m g) : Item m (dGate g) none := by
  obtain ⟨M, eM, hM⟩ := maxI_lt (ns := g.1 :: g.2.map (·.1)) (m := m) (by simp) (by
    intro x hx
    rcases List.mem_cons.mp hx with rfl | hx
    · exact hg.t1
    · obtain ⟨p, hp, rfl⟩ := List.mem_map.mp hx
      exact hg.c1 p hp)
  exact .fine M _ (fun n S hS => is_gate_eq hg hS) (fun n S hS => wires_of_eq hg.len hS) eM hM
theorem fl_cons {body : MP.D → MP.Loc → Sto → Rs (Fl × MP.Loc)} {d : MP.D} {r : List MP.D} {l : MP.Loc} {S : Sto} {Q : Fl × MP.Loc → Sto → Prop} : Holds (forL body (d :: r) l S) Q ↔ Holds (body d l S) fun x S1 => Holds (loopR (forL body r) x S1) Q := holds_bind
theorem fl_nil {body : MP.D → MP.Loc → Sto → Rs (Fl × MP.Loc)} {l : MP.Loc} {S : Sto} : forL body [] l S = .ok (.nx, l) S := rfl
theorem lr_nx {f : MP.Loc → Sto → Rs (Fl × MP.Loc)} {l : MP.Loc} {S : Sto} : loopR f (.nx, l) S = f l S := rfl
theorem lr_ret {f : MP.Loc → Sto → Rs (Fl × MP.Loc)} {l : MP.Loc} {S : Sto} {w : W} : loopR f (.ret w, l) S = .ok (.ret w, l) S := rfl
/-- the wrong gates -/
def wrongL : List (MP.D × String) := [
  (.tuple [.int 4, .tuple []], "wire"), (.tuple [.int 0, .tuple [.tuple [.int 4, .int 1]]], "wire"), (.tuple [.int 0, .tuple [.tuple [.int 0, .int 1]]], "gate"), (.tuple [.int 0, .tuple [.tuple [.int 1, .int 2]]], "gate"),
  (.tuple [.int 0, .tuple [.tuple [.int 2, .int 1], .tuple [.int 1, .int 0]]], "gate"), (.tuple [.int 0, .tuple [.tuple [.int 1, .int 0], .tuple [.int 1, .int 1]]], "gate"), (.tuple [.int 0, .tuple [.tuple [.int 1, .int 0, .int 1]]], "gate"),
  (.tuple [.int 0], "gate"), (.none, "gate"), (.tuple [.bool true, .tuple []], "gate"), (.tuple [.int 0, .tuple [.tuple [.int 1, .bool true]]], "gate"), (.tuple [.int 0, .tuple [.tuple [.int 1]]], "gate"), (.tuple [.int 0, .int 5], "gate"), (.tuple [ds "0", .tuple []], "gate")]
theorem wrong_item : ∀ p, p ∈ wrongL → Item 4 p.1 (some p.2) := by
  have gw : ∀ {g : Gate} {M : Int}, GoodG 5 g → maxI (g.1 :: g.2.map (·.1)) = some M → 4 ≤ M → Item 4 (dGate g) (some "wire") := fun hg e l => .wide _ _ (fun n S hS => is_gate_eq hg hS) (fun n S hS => wires_of_eq hg.len hS) e l
  intro p hp
  simp only [wrongL, List.mem_cons, List.not_mem_nil, or_false] at hp
  rcases hp with rfl | rfl | rfl | rfl | rfl | rfl | rfl | rfl | rfl | rfl | rfl | rfl | rfl | rfl
  · exact gw (g := (4, [])) (M := 4) ⟨⟨by decide, by decide, by simp, by simp, by simp⟩, by simp, by simp, by simp⟩ rfl (by decide)
  · exact gw (g := (0, [(4, 1)])) (M := 4) ⟨⟨by decide, by decide, by simp, by simp, by simp⟩, by simp, by simp, by simp⟩ rfl (by decide)
  all_goals refine .bad fun n S hS => is_eq (call_def ft_is_gate rfl ?_)
  all_goals simp [d_is_gate, d_is_gate_b1, start', isnum hS, numD, leave_same rfl hS, fl_cons, fl_nil, lr_nx, lr_ret, forB_ap, isiD]
end Lw
set_option Elab.async false
set_option linter.all false
set_option maxRecDepth 100000
set_option maxHeartbeats 4000000
/-! circuit_faults at any items; the law's own look. -/
namespace Lw
open PySem MP L2
abbrev It := MP.D × Option String
def faultsL : Nat → List It → List (Nat × String)
  | _, [] => []
  | k, (_, none) :: r => faultsL (k + 1) r
  | k, (_, some c) :: r => (k, c) :: faultsL (k + 1) r
def foundAt (k : Nat) : Option String → List (Nat × String)
  | none => []
  | some c => [(k, c)]
theorem faults_snoc {p : It} : ∀ {xs : List It} {k : Nat}, faultsL k (xs ++ [p]) = faultsL k xs ++ foundAt (k + xs.length) p.2
  | [], k => by
    obtain ⟨d, c⟩ := p
    cases c <;> rfl
  | (d, none) :: r, k => by
    show faultsL (k + 1) (r ++ [p]) = faultsL (k + 1) r ++ _
    rw [faults_snoc, List.length_cons, show k + 1 + r.length = k + (r.length + 1) by omega]
  | (d, some c) :: r, k => by
    show (k, c) :: faultsL (k + 1) (r ++ [p]) = (k, c) :: faultsL (k + 1) r ++ _
    rw [faults_snoc, List.length_cons, show k + 1 + r.length = k + (r.length + 1) by omega]
    rfl
theorem faults_len : ∀ {xs : List It} {k : Nat}, (faultsL k xs).length ≤ xs.length
  | [], _ => Nat.le_refl _
  | (_, none) :: r, k => Nat.le_succ_of_le (faults_len (xs := r))
  | (_, some c) :: r, k => Nat.succ_le_succ (faults_len (xs := r))
def dF (p : Nat × String) : MP.D := .tuple [.int p.1, ds p.2]
theorem mixed_eq {n : Nat} {m : Int} {its : List It} {S : Sto} (h0 : 0 ≤ m) (hl : its.length ≤ 1000) (h : ∀ p, p ∈ its → Item m p.1 p.2) (hS : ClS S) :
    callM Gc ft (n + 3) 10 [.dat (.tuple [.int m, .tuple (its.map (·.1))])] S = .ok (.dat (.list ((faultsL 0 its).map dF))) S := by
  refine is_eq (call_def ft_circuit_faults rfl ?_)
  have hS1 : ∀ vs : List MP.D, ClS (S ++ [.lst vs]) := fun vs k hk => by
    have := hS k (by simp at hk; omega)
    simp [this, obBelow]
  simp [d_circuit_faults, start', is_number_eq h0 hS, small_i (i := (its.length : Int)) (by omega) (by omega), isiD]
  refine forL_idx (fun i l S' => S' = S ++ [.lst ((faultsL 0 (its.take i)).map dF)] ∧ ∃ b, l = [some (.dat (.tuple [.int m, .tuple (its.map (·.1))])), some (.obj S.length), b]) ⟨rfl, none, rfl⟩ ?_ ?_
  · rintro i d hd l S' ⟨rfl, b, rfl⟩
    obtain ⟨hi, rfl⟩ := rngH_get hd
    have hg := h its[i] (List.getElem_mem hi)
    have ha : atI (its.map (·.1)) (i : Int) = some its[i].1 := atI_nat (by rw [List.getElem?_map, List.getElem?_eq_getElem hi]; rfl)
    have tk : its.take (i + 1) = its.take i ++ [its[i]] := by rw [List.take_add_one, List.getElem?_eq_getElem hi]; rfl
    have ln : (its.take i).length = i := by rw [List.length_take]; omega
    have ll : ((faultsL 0 (its.take i)).map dF).length < sizeLine := small_lt (by rw [List.length_map]; have := faults_len (xs := its.take i) (k := 0); omega)
    rw [tk, faults_snoc, ln, Nat.zero_add]
    generalize faultsL 0 (its.take i) = fs at ll
    generalize its[i] = p at *
    obtain ⟨d, c⟩ := p
    have hS2 := hS1 (fs.map dF)
    refine Holds.hide fun Q hQ => ?_
    rw [forB_ap]
    cases hg with
    | bad hb =>
      simp [d_circuit_faults_b1, ha, hb n _ hS2, recv_ob last_get]
      rw [app_ob last_get ll]
      simp
      rw [hQ]
      exact ⟨by simp [foundAt, dF], _, rfl⟩
    | wide M ns hb hw e hm =>
      have e2 : biW (S ++ [.lst (fs.map dF)]) .max false [.dat (.list (ns.map .int))] = .ok (.dat (.int M)) (S ++ [.lst (fs.map dF)]) := bi_maxI e
      simp [d_circuit_faults_b1, ha, hb n _ hS2, hw (n + 1) _ hS2, e2, hm, recv_ob last_get]
      rw [app_ob last_get ll]
      simp
      rw [hQ]
      exact ⟨by simp [foundAt, dF], _, rfl⟩
    | fine M ns hb hw e hm =>
      have e2 : biW (S ++ [.lst (fs.map dF)]) .max false [.dat (.list (ns.map .int))] = .ok (.dat (.int M)) (S ++ [.lst (fs.map dF)]) := bi_maxI e
      simp [d_circuit_faults_b1, ha, hb n _ hS2, hw (n + 1) _ hS2, e2, show ¬ m ≤ M by omega]
      rw [hQ]
      exact ⟨by simp [foundAt], _, rfl⟩
  · rintro l S' ⟨rfl, b, rfl⟩
    rw [rngH_len, List.take_of_length_le (Nat.le_refl _)]
    simp [frz_ob last_get]
    rw [leave_more (by simp) hS]
    simp
/-- values that are no circuits -/
def formsL : List MP.D := [.none, .int 4, .tuple [], .tuple [.int 4], .tuple [.int (-1), .tuple []], .tuple [.bool true, .tuple []], .tuple [ds "4", .tuple []], .tuple [.int 4, .none], .tuple [.int 4, .tuple [], .tuple []]]
theorem form_eq {n : Nat} {S : Sto} (hS : ClS S) : ∀ d, d ∈ formsL → callM Gc ft (n + 3) 10 [.dat d] S = .ok (.dat (.list [.tuple [.int (-1), ds "form"]])) S := by
  intro d hd
  simp only [formsL, List.mem_cons, List.not_mem_nil, or_false] at hd
  rcases hd with rfl | rfl | rfl | rfl | rfl | rfl | rfl | rfl | rfl
  all_goals refine is_eq (call_def ft_circuit_faults rfl ?_)
  all_goals simp [d_circuit_faults, start', isnum hS, numD, leave_same rfl hS, isiD]
def WrQ (R : Sto) : W → Sto → Prop := fun x S => ∃ p o, p ∈ wrongL ∧ x = .dat (.tuple [p.1, ds p.2]) ∧ Dw o ∧ S = o :: R
theorem wrong_ok {n : Nat} {o : Ob} {R : Sto} (ho : Dw o) (hR : Cl R) : Holds (callM Gc ft (n + 2) 16 [.obj 0] (o :: R)) (WrQ R) := by
  refine call_def ft_Lgate_wrong rfl ?_
  refine Holds.hide fun Q hQ => ?_
  show wpS _ _ _ _ _ _
  have s14 : 10 ≤ sizeLine := small_len' (by decide)
  have s15 : 14 ≤ sizeLine := small_len' (by decide)
  simp [d_Lgate_wrong, start', s14, s15]
  refine (take_ok (n := n) (m := 14) ho (by decide) (by decide) hR).imp ?_
  rintro _ _ ⟨t, o, rfl, ht0, ht1, ho, rfl⟩
  simp
  refine holds_at (fun d => ∃ p, p ∈ wrongL ∧ d = .tuple [p.1, ds p.2]) ht0 (by simpa using ht1) (fun d hd => ?_) ?_
  · have e : ∀ d, d ∈ wrongL.map (fun p => PyData.tuple [p.1, ds p.2]) → ∃ p, p ∈ wrongL ∧ d = .tuple [p.1, ds p.2] := fun d hd => by
      obtain ⟨p, hp, rfl⟩ := List.mem_map.mp hd
      exact ⟨p, hp, rfl⟩
    exact e d hd
  rintro _ ⟨p, hp, rfl⟩
  simp
  rw [hQ, kdone_ret, leave_same (by simp) (dw_cls ho hR), holds_ok]
  exact ⟨p, o, hp, rfl, ho, rfl⟩
end Lw
set_option Elab.async false
set_option linter.all false
set_option maxRecDepth 100000
set_option maxHeartbeats 4000000
/-! The law's look at circuit_faults. -/
namespace Lw
open PySem MP L2
theorem canlay_c : ∀ q : String, q ∈ ["gate", "wire", "form"] → (ds q).canLay0 = true := by decide +kernel
theorem sh_str {s : String} {k : Nat} (h : (PyData.str (Str.ofString s)).canLay0 = true) : Sh k (ds s) := ⟨h, Nat.zero_le _⟩
theorem sh_dF {p : Nat × String} (h : p.2 ∈ ["gate", "wire", "form"]) : Sh 1 (dF p) := by
  refine sh_tuple (k := 0) fun x hx => ?_
  simp at hx
  rcases hx with rfl | rfl
  · exact sh_int
  · exact sh_str (canlay_c _ h)
theorem item_code {m : Int} {d : MP.D} {c : String} (h : Item m d (some c)) : c ∈ ["gate", "wire", "form"] := by
  cases h <;> decide
theorem faults_code {m : Int} : ∀ {xs : List It} {k : Nat}, (∀ p, p ∈ xs → Item m p.1 p.2) → ∀ q, q ∈ faultsL k xs → q.2 ∈ ["gate", "wire", "form"]
  | [], _, _, q, hq => by simp [faultsL] at hq
  | (d, none) :: r, k, h, q, hq => faults_code (xs := r) (k := k + 1) (fun p hp => h p (List.mem_cons_of_mem _ hp)) q hq
  | (d, some c) :: r, k, h, q, hq => by
    rcases List.mem_cons.mp hq with rfl | hq
    · exact item_code (h (d, some c) List.mem_cons_self)
    · exact faults_code (xs := r) (k := k + 1) (fun p hp => h p (List.mem_cons_of_mem _ hp)) q hq
theorem cmp_obr {op : CO} {S : Sto} {p : Nat} {ys : List MP.D} {d : MP.D} (h : S[p]? = some (.lst ys)) (h1 : op ≠ .isin) (h2 : op ≠ .notin) : cmpW S op (.dat d) (.obj p) = cmpW S op (.dat d) (.dat (.list ys)) := by
  have e : cmpW0 S op (.dat d) (.obj p) = cmpW0 S op (.dat d) (.dat (.list ys)) := by
    unfold cmpW0
    rw [rdC_obj, h]
    rfl
  cases op <;> first | exact e | exact absurd rfl h1 | exact absurd rfl h2
theorem wrong_mem {p : MP.D × String} (h : p ∈ wrongL) : Item 4 p.1 (some p.2) := wrong_item p h
def RigQ : W → Sto → Prop := fun x S => ∃ o, x = .dat (.bool true) ∧ Dw o ∧ S = [o]
theorem right_ok {n : Nat} {o : Ob} (ho : Dw o) : Holds (callM Gc ft (n + 4) 15 [.obj 0] [o]) RigQ := by
  refine call_def ft_Lfaults_right rfl ?_
  refine Holds.hide fun Q hQ => ?_
  show wpS _ _ _ _ _ _
  have c0 : ∀ a b : List MP.D, Cl [.lst a, .lst b] := fun a b => cl_snoc2 (R := []) cl_nil
  simp [d_Lfaults_right, start']
  refine (take_ok (n := n + 2) (m := 6) ho (by decide) (by decide) (c0 _ _)).imp ?_
  rintro _ _ ⟨t, o, rfl, ht0, ht1, ho, rfl⟩
  obtain ⟨t, rfl⟩ := nat_of ht0
  have hsm : smallI (t : Int) = true := small_i (by omega) (by omega)
  simp [hsm]
  refine forL_idx (fun i l S => ∃ (o : Ob) (its : List It) (x3 x5 x6 : Option W), Dw o ∧ its.length = i ∧ (∀ p, p ∈ its → Item 4 p.1 p.2) ∧ S = [o, .lst (its.map (·.1)), .lst ((faultsL 0 its).map dF)] ∧ l = [some (.obj 0), some (.obj 1), some (.obj 2), x3, none, x5, x6]) ⟨o, [], none, none, none, ho, rfl, by simp, rfl, rfl⟩ ?_ ?_
  · rintro i d hd l S ⟨o, its, x3, x5, x6, ho, hil, hit, rfl, rfl⟩
    obtain ⟨hi, rfl⟩ := rngH_get hd
    have hi : i < t := by simpa using hi
    refine Holds.hide fun Q hQ => ?_
    rw [forB_ap]
    simp [d_Lfaults_right_b2]
    refine (gate_ok (n := n + 1) (w := 4) (m := 3) ho (by decide) (by decide) (c0 _ _)).imp ?_
    rintro _ _ ⟨g, o, rfl, hg, ho, rfl⟩
    simp
    refine (take_ok (n := n + 2) (m := 2) ho (by decide) (by decide) (c0 _ _)).imp ?_
    rintro _ _ ⟨v, o, rfl, hv0, hv1, ho, rfl⟩
    simp
    refine kifs_cut (fun y S => ∃ (o : Ob) (p : It) (x6 : Option W), Dw o ∧ Item 4 p.1 p.2 ∧ S = [o, .lst (its.map (·.1)), .lst ((faultsL 0 its).map dF ++ (foundAt i p.2).map dF)] ∧ y = (.nx, [some (.obj 0), some (.obj 1), some (.obj 2), some (.dat (.int i)), none, some (.dat p.1), x6])) ?_ ?_
    · refine kifs_b (fun h => ?_) fun h => ?_
      · simp
        refine (wrong_ok (n := n + 1) ho (c0 _ _)).imp ?_
        rintro _ _ ⟨p, o, hp, rfl, ho, rfl⟩
        simp [wg_tup, elen, recv_ob (S := [o, Ob.lst (its.map (·.1)), Ob.lst ((faultsL 0 its).map dF)]) (p := 2) rfl]
        rw [app_ob (S := [o, Ob.lst (its.map (·.1)), Ob.lst ((faultsL 0 its).map dF)]) (p := 2) rfl (small_lt (by rw [List.length_map]; have := faults_len (xs := its) (k := 0); omega))]
        simp
        exact ⟨o, ho, p.1, some p.2, wrong_mem hp, ⟨rfl, by simp [foundAt, dF]⟩, rfl⟩
      · simp
        exact ⟨o, ho, dGate g, none, item_good hg, ⟨rfl, by simp [foundAt]⟩, rfl⟩
    rintro y S ⟨o, p, x6, ho, hp, rfl, rfl⟩
    rw [kseq_nx]
    simp [recv_ob (S := [o, Ob.lst (its.map (·.1)), Ob.lst ((faultsL 0 its).map dF ++ (foundAt i p.2).map dF)]) (p := 1) rfl]
    rw [app_ob (S := [o, Ob.lst (its.map (·.1)), Ob.lst ((faultsL 0 its).map dF ++ (foundAt i p.2).map dF)]) (p := 1) rfl (small_lt (by rw [List.length_map]; omega))]
    simp
    rw [hQ]
    refine ⟨o, its ++ [p], _, _, _, ho, by simp [hil], fun q hq => ?_, ?_, rfl⟩
    · rcases List.mem_append.mp hq with hq | hq
      · exact hit q hq
      · rw [List.mem_singleton.mp hq]; exact hp
    · rw [faults_snoc, Nat.zero_add, hil]
      simp
  rintro l S ⟨o, its, x3, x5, x6, ho, hil, hit, rfl, rfl⟩
  rw [rngH_len] at hil
  have cS : ClS [o, .lst (its.map (·.1)), .lst ((faultsL 0 its).map dF)] := dw_cls ho (c0 _ _)
  have s9 : 9 ≤ sizeLine := small_len' (by decide)
  simp
  rw [lst_w rfl (small_len (by simp))]
  simp
  refine forL_inv (fun l S => S = [o, .lst (its.map (·.1)), .lst ((faultsL 0 its).map dF)] ∧ ∃ y, l = [some (.obj 0), some (.obj 1), some (.obj 2), x3, y, x5, x6]) ⟨rfl, none, rfl⟩ ?_ ?_
  · rintro d hd l S ⟨rfl, y, rfl⟩
    have hb := form_eq (n := n) cS d hd
    refine Holds.hide fun Q hQ => ?_
    rw [forB_ap]
    simp [d_Lfaults_right_b1, hb]
    rw [cmp_ne_self (k := 2) (sh_list (k := 1) fun x hx => by
      simp at hx
      subst hx
      refine sh_tuple (k := 0) fun x hx => ?_
      simp at hx
      rcases hx with rfl | rfl
      · exact sh_int
      · exact sh_str (canlay_c _ (by decide)))]
    simp
    rw [hQ]
    exact ⟨rfl, _, rfl⟩
  rintro l S ⟨rfl, y, rfl⟩
  have m1 := mixed_eq (n := n) (m := 4) (its := its) (by decide) (by omega) hit cS
  simp [bi_ob (S := [o, Ob.lst (its.map (·.1)), Ob.lst ((faultsL 0 its).map dF)]) (p := 1) rfl, m1]
  rw [cmp_obr (S := [o, Ob.lst (its.map (·.1)), Ob.lst ((faultsL 0 its).map dF)]) (p := 2) rfl (by decide) (by decide)]
  rw [cmp_eq_self (k := 2) (sh_list (k := 1) fun x hx => by
    obtain ⟨q, hq, rfl⟩ := List.mem_map.mp hx
    exact sh_dF (faults_code hit q hq))]
  simp
  rw [hQ, kdone_ret]
  have lv : ∀ d : MP.D, leave 1 (.dat d) [o, .lst (its.map (·.1)), .lst ((faultsL 0 its).map dF)] = .ok (.dat d) [o] := fun d => leave_more (S := [o]) (T := [.lst (its.map (·.1)), .lst ((faultsL 0 its).map dF)]) rfl (dw_cls ho cl_nil)
  rw [show ∀ a : Ob, ([a] : Sto).length = 1 from fun _ => rfl, lv, holds_ok]
  exact ⟨o, rfl, ho, rfl⟩
end Lw
set_option Elab.async false
set_option linter.all false
set_option maxRecDepth 100000
set_option maxHeartbeats 4000000
/-! Circuits laid on other wires. -/
namespace Lw
open PySem MP L2
theorem insP_perm (x : Int × Int) : ∀ l : List (Int × Int), (insP x l).Perm (x :: l)
  | [] => .refl _
  | y :: r => by
    show (if leP x y = true then x :: y :: r else y :: insP x r).Perm (x :: y :: r)
    split
    · exact .refl _
    · exact ((insP_perm x r).cons y).trans (.swap x y r)
theorem sortP_perm : ∀ l : List (Int × Int), (sortP l).Perm l
  | [] => .refl _
  | x :: l => (insP_perm x _).trans ((sortP_perm l).cons x)
theorem insP_strict {x : Int × Int} : ∀ {l : List (Int × Int)}, l.Pairwise (fun a b => a.1 < b.1) → (∀ y, y ∈ l → y.1 ≠ x.1) → (insP x l).Pairwise fun a b => a.1 < b.1
  | [], _, _ => by simp [insP]
  | y :: r, h, hx => by
    obtain ⟨h1, h2⟩ := List.pairwise_cons.mp h
    have hy := hx y List.mem_cons_self
    show (if leP x y = true then x :: y :: r else y :: insP x r).Pairwise _
    split
    · rename_i hl
      have hlt : x.1 < y.1 := by
        simp [leP] at hl
        omega
      refine List.pairwise_cons.mpr ⟨fun z hz => ?_, h⟩
      rcases List.mem_cons.mp hz with rfl | hz
      · exact hlt
      · exact Int.lt_trans hlt (h1 z hz)
    · rename_i hl
      have hlt : y.1 < x.1 := by
        simp [leP] at hl
        omega
      refine List.pairwise_cons.mpr ⟨fun z hz => ?_, insP_strict h2 fun z hz => hx z (List.mem_cons_of_mem _ hz)⟩
      rcases List.mem_cons.mp ((insP_perm x r).mem_iff.mp hz) with rfl | hz
      · exact hlt
      · exact h1 z hz
theorem sortP_strict : ∀ {l : List (Int × Int)}, (l.map (·.1)).Nodup → (sortP l).Pairwise fun a b => a.1 < b.1
  | [], _ => by simp [sortP]
  | x :: l, h => by
    obtain ⟨h1, h2⟩ := List.nodup_cons.mp (by simpa using h : (x.1 :: l.map (·.1)).Nodup)
    refine insP_strict (sortP_strict h2) fun y hy z => h1 ?_
    exact List.mem_map.mpr ⟨y, (sortP_perm l).mem_iff.mp hy, z⟩
theorem getI_set_self {bs : List Int} {i x : Int} (h0 : 0 ≤ i) (h1 : i < bs.length) : getI (bs.set i.toNat x) i = x := by
  unfold getI
  have : i.toNat < bs.length := by omega
  simp [List.getD, this]
theorem getI_set_ne {bs : List Int} {i j x : Int} (h : i ≠ j) (h0 : 0 ≤ i) (h1 : 0 ≤ j) : getI (bs.set i.toNat x) j = getI bs j := by
  unfold getI
  have : i.toNat ≠ j.toNat := by omega
  simp [List.getD, List.getElem?_set_ne this]
theorem held_set {n : Int} {g : Gate} {bs : List Int} {x : Int} (hg : GoodG n g) : heldL g.2 (bs.set g.1.toNat x) = heldL g.2 bs := by
  unfold heldL
  rw [Bool.eq_iff_iff, List.all_eq_true, List.all_eq_true]
  refine forall_congr' fun c => forall_congr' fun hc => ?_
  rw [getI_set_ne (fun z => hg.ne c hc z.symm) hg.t0 (hg.c0 c hc)]
theorem turn_turn {g : Gate} {bs : List Int} (hg : GoodG bs.length g) : turnL (turnL bs g) g = bs := by
  unfold turnL
  by_cases h : heldL g.2 bs = true
  · rw [if_pos h, if_pos (by rw [held_set hg]; exact h), getI_set_self hg.t0 hg.t1, List.set_set]
    have e : 1 - (1 - getI bs g.1) = getI bs g.1 := by omega
    have hlt : g.1.toNat < bs.length := by have := hg.t0; have := hg.t1; omega
    rw [e]
    unfold getI
    simp [List.getD, hlt]
  · rw [if_neg h, if_neg h]

theorem run_back : ∀ {gs : List Gate} {bs : List Int}, (∀ g, g ∈ gs → GoodG bs.length g) → runL gs.reverse (runL gs bs) = bs
  | [], bs, _ => rfl
  | g :: gs, bs, h => by
    have hg := h g List.mem_cons_self
    have ih := run_back (gs := gs) (bs := turnL bs g) fun x hx => by rw [turnL_len]; exact h x (List.mem_cons_of_mem _ hx)
    rw [List.reverse_cons]
    show runL (gs.reverse ++ [g]) (runL gs (turnL bs g)) = bs
    unfold runL at ih ⊢
    rw [List.foldl_append, ih]
    exact turn_turn hg
structure PlOk (ps : List Int) (w W : Nat) : Prop where
  len : ps.length = w
  nd : ps.Nodup
  lt : ∀ p, p ∈ ps → 0 ≤ p ∧ p < W
def mv (ps : List Int) (g : Gate) : Gate := (getI ps g.1, sortP (g.2.map fun c => (getI ps c.1, c.2)))
def lay : List Int → List Int → List Int → List Int
  | p :: ps, b :: bs, wd => lay ps bs (wd.set p.toNat b)
  | _, _, wd => wd
theorem lay_len : ∀ {ps bs wd : List Int}, (lay ps bs wd).length = wd.length
  | [], bs, wd => by cases bs <;> rfl
  | p :: ps, [], wd => rfl
  | p :: ps, b :: bs, wd => by
    show (lay ps bs (wd.set p.toNat b)).length = _
    rw [lay_len, List.length_set]
theorem lay_out {j : Nat} : ∀ {ps bs wd : List Int}, (∀ p, p ∈ ps → p.toNat ≠ j) → (lay ps bs wd)[j]? = wd[j]?
  | [], bs, wd, _ => by cases bs <;> rfl
  | p :: ps, [], wd, _ => rfl
  | p :: ps, b :: bs, wd, h => by
    show (lay ps bs (wd.set p.toNat b))[j]? = _
    rw [lay_out fun q hq => h q (List.mem_cons_of_mem _ hq), List.getElem?_set_ne (h p List.mem_cons_self)]
theorem lay_at : ∀ {ps bs wd : List Int} {k : Nat}, ps.Nodup → (∀ p, p ∈ ps → 0 ≤ p ∧ p < wd.length) → ps.length = bs.length → k < ps.length → (lay ps bs wd)[(ps.getD k 0).toNat]? = some (bs.getD k 0)
  | [], _, _, _, _, _, _, h => by simp at h
  | p :: ps, [], _, _, _, _, h, _ => by simp at h
  | p :: ps, b :: bs, wd, 0, nd, hr, hl, _ => by
    have ⟨n1, n2⟩ := List.nodup_cons.mp nd
    have h0 := hr p List.mem_cons_self
    show (lay ps bs (wd.set p.toNat b))[p.toNat]? = some b
    rw [lay_out fun q hq e => n1 (by
      have := hr q (List.mem_cons_of_mem _ hq)
      have e2 : q = p := by omega
      rw [← e2]; exact hq), List.getElem?_set_self (by omega)]
  | p :: ps, b :: bs, wd, k + 1, nd, hr, hl, hk => by
    have ⟨n1, n2⟩ := List.nodup_cons.mp nd
    have := lay_at (ps := ps) (bs := bs) (wd := wd.set p.toNat b) (k := k) n2 (fun q hq => by rw [List.length_set]; exact hr q (List.mem_cons_of_mem _ hq)) (by simpa using hl) (by simpa using hk)
    simpa [lay] using this
theorem lay_snoc {p b : Int} : ∀ {ps bs wd : List Int}, ps.length = bs.length → lay (ps ++ [p]) (bs ++ [b]) wd = (lay ps bs wd).set p.toNat b
  | [], [], _, _ => rfl
  | _ :: _, [], _, h => by simp at h
  | [], _ :: _, _, h => by simp at h
  | q :: ps, c :: bs, wd, h => by
    show lay (ps ++ [p]) (bs ++ [b]) (wd.set q.toNat c) = (lay ps bs (wd.set q.toNat c)).set p.toNat b
    exact lay_snoc (by simpa using h)
section
variable {ps bs cs wd : List Int} {w W : Nat} {g : Gate} {i j : Int}
theorem lay_ext {A B : List Int} (h1 : ∀ k, k < ps.length → A[(ps.getD k 0).toNat]? = B[(ps.getD k 0).toNat]?) (h2 : ∀ j, (∀ p, p ∈ ps → p.toNat ≠ j) → A[j]? = B[j]?) : A = B := by
  refine List.ext_getElem? fun j => ?_
  by_cases h : ∃ p, p ∈ ps ∧ p.toNat = j
  · obtain ⟨p, hp, rfl⟩ := h
    obtain ⟨k, hk, rfl⟩ := List.mem_iff_getElem.mp hp
    have := h1 k hk
    rwa [show ps.getD k 0 = ps[k] by simp [List.getD, hk]] at this
  · exact h2 j fun p hp e => h ⟨p, hp, e⟩
theorem pl_mem (h : PlOk ps w W) (h0 : 0 ≤ i) (h1 : i < w) : getI ps i ∈ ps := by
  unfold getI
  have hk : i.toNat < ps.length := by rw [h.len]; omega
  rw [show ps.getD i.toNat 0 = ps[i.toNat] by simp [List.getD, hk]]
  exact List.getElem_mem hk
theorem pl_inj (h : PlOk ps w W) (h0 : 0 ≤ i) (h1 : i < w) (k0 : 0 ≤ j) (k1 : j < w) (e : getI ps i = getI ps j) : i = j := by
  unfold getI at e
  have hi : i.toNat < ps.length := by rw [h.len]; omega
  have hj : j.toNat < ps.length := by rw [h.len]; omega
  rw [show ps.getD i.toNat 0 = ps[i.toNat] by simp [List.getD, hi], show ps.getD j.toNat 0 = ps[j.toNat] by simp [List.getD, hj]] at e
  have nd := List.pairwise_iff_getElem.mp h.nd
  rcases Nat.lt_trichotomy i.toNat j.toNat with q | q | q
  · exact absurd e (nd _ _ hi hj q)
  · omega
  · exact absurd e.symm (nd _ _ hj hi q)
theorem getI_lay (h : PlOk ps w W) (hb : bs.length = w) (hw : wd.length = W) (h0 : 0 ≤ i) (h1 : i < w) : getI (lay ps bs wd) (getI ps i) = getI bs i := by
  have := lay_at (wd := wd) (bs := bs) (k := i.toNat) h.nd (by rw [hw]; exact h.lt) (by rw [h.len, hb]) (by rw [h.len]; omega)
  unfold getI
  rw [List.getD_eq_getElem?_getD (l := lay ps bs wd), this]
  rfl
theorem mv_good (h : PlOk ps w W) (hg : GoodG w g) : GoodG W (mv ps g) := by
  have mem : ∀ c, c ∈ (mv ps g).2 → ∃ d, d ∈ g.2 ∧ c = (getI ps d.1, d.2) := fun c hc => by
    obtain ⟨d, hd, e⟩ := List.mem_map.mp ((sortP_perm _).mem_iff.mp hc)
    exact ⟨d, hd, e.symm⟩
  have ht := h.lt _ (pl_mem h hg.t0 hg.t1)
  refine ⟨⟨ht.1, ht.2, fun c hc => ?_, fun c hc => ?_, ?_⟩, fun c hc => ?_, fun c hc => ?_, ?_⟩
  · obtain ⟨d, hd, rfl⟩ := mem c hc
    exact (h.lt _ (pl_mem h (hg.c0 d hd) (hg.c1 d hd))).1
  · obtain ⟨d, hd, rfl⟩ := mem c hc
    exact (h.lt _ (pl_mem h (hg.c0 d hd) (hg.c1 d hd))).2
  · show (sortP _).length ≤ 1000
    rw [(sortP_perm _).length_eq, List.length_map]
    exact hg.len
  · obtain ⟨d, hd, rfl⟩ := mem c hc
    exact hg.v d hd
  · obtain ⟨d, hd, rfl⟩ := mem c hc
    intro e
    exact hg.ne d hd (pl_inj h (hg.c0 d hd) (hg.c1 d hd) hg.t0 hg.t1 e)
  · refine sortP_strict ?_
    rw [List.map_map]
    refine List.pairwise_map.mpr (hg.srt.imp_of_mem fun {a b} ha hb hlt e => ?_)
    have := pl_inj h (hg.c0 a ha) (hg.c1 a ha) (hg.c0 b hb) (hg.c1 b hb) e
    omega
theorem held_lay (h : PlOk ps w W) (hb : bs.length = w) (hw : wd.length = W) (hg : GoodG w g) : heldL (mv ps g).2 (lay ps bs wd) = heldL g.2 bs := by
  unfold heldL
  rw [Bool.eq_iff_iff, List.all_eq_true, List.all_eq_true]
  have e : ∀ d, d ∈ g.2 → getI (lay ps bs wd) (getI ps d.1) = getI bs d.1 := fun d hd => getI_lay h hb hw (hg.c0 d hd) (hg.c1 d hd)
  constructor
  · intro q d hd
    have := q (getI ps d.1, d.2) ((sortP_perm _).mem_iff.mpr (List.mem_map.mpr ⟨d, hd, rfl⟩))
    rw [← e d hd]
    exact this
  · intro q c hc
    obtain ⟨d, hd, rfl⟩ := List.mem_map.mp ((sortP_perm _).mem_iff.mp hc)
    have := q d hd
    rw [e d hd]
    exact this
theorem turn_lay (h : PlOk ps w W) (hb : bs.length = w) (hw : wd.length = W) (hg : GoodG w g) : turnL (lay ps bs wd) (mv ps g) = lay ps (turnL bs g) wd := by
  unfold turnL
  rw [held_lay h hb hw hg]
  split
  · show (lay ps bs wd).set (getI ps g.1).toNat (1 - getI (lay ps bs wd) (getI ps g.1)) = _
    rw [getI_lay h hb hw hg.t0 hg.t1]
    have ht := h.lt _ (pl_mem h hg.t0 hg.t1)
    have rng : ∀ p, p ∈ ps → 0 ≤ p ∧ p < wd.length := by rw [hw]; exact h.lt
    refine lay_ext (ps := ps) (fun k hk => ?_) fun j hj => ?_
    · have r2 := lay_at (wd := wd) (bs := bs.set g.1.toNat (1 - getI bs g.1)) (k := k) h.nd rng (by rw [List.length_set, h.len, hb]) hk
      rw [r2]
      have kk : getI ps (k : Int) = ps.getD k 0 := rfl
      by_cases e : (k : Int) = g.1
      · have e2 : k = g.1.toNat := by omega
        rw [← kk, e, List.getElem?_set_self (by rw [lay_len, hw]; omega)]
        have : g.1.toNat < bs.length := by rw [hb]; have := hg.t0; have := hg.t1; omega
        rw [e2]
        simp [List.getD, this]
      · have ne : (getI ps g.1).toNat ≠ (ps.getD k 0).toNat := fun q => by
          have hm := h.lt _ (pl_mem h (i := (k : Int)) (by omega) (by rw [h.len] at hk; omega))
          rw [← kk] at q
          have := pl_inj h hg.t0 hg.t1 (j := (k : Int)) (by omega) (by rw [h.len] at hk; omega) (by omega)
          exact e this.symm
        have ne2 : g.1.toNat ≠ k := fun q => e (by have := hg.t0; omega)
        rw [List.getElem?_set_ne ne, lay_at h.nd rng (by rw [h.len, hb]) hk]
        simp [List.getD, List.getElem?_set_ne ne2]
    · rw [List.getElem?_set_ne (hj _ (pl_mem h hg.t0 hg.t1)), lay_out hj, lay_out hj]
  · rfl
theorem run_lay (h : PlOk ps w W) (hw : wd.length = W) : ∀ {gs : List Gate} {bs : List Int}, bs.length = w → (∀ g, g ∈ gs → GoodG w g) → runL (gs.map (mv ps)) (lay ps bs wd) = lay ps (runL gs bs) wd
  | [], _, _, _ => rfl
  | g :: gs, bs, hb, hg => by
    show runL (gs.map (mv ps)) (turnL (lay ps bs wd) (mv ps g)) = lay ps (runL gs (turnL bs g)) wd
    rw [turn_lay h hb hw (hg g List.mem_cons_self)]
    exact run_lay h hw (by rw [turnL_len]; exact hb) fun x hx => hg x (List.mem_cons_of_mem _ hx)
theorem lay_lay (h : PlOk ps w W) (hb : bs.length = w) (hc : cs.length = w) (hw : wd.length = W) : lay ps bs (lay ps cs wd) = lay ps bs wd := by
  have rng : ∀ p, p ∈ ps → 0 ≤ p ∧ p < wd.length := by rw [hw]; exact h.lt
  refine lay_ext (ps := ps) (fun k hk => ?_) fun j hj => ?_
  · rw [lay_at h.nd (by rw [lay_len]; exact rng) (by rw [h.len, hb]) hk, lay_at h.nd rng (by rw [h.len, hb]) hk]
  · rw [lay_out hj, lay_out hj, lay_out hj]
end
end Lw
set_option Elab.async false
set_option linter.all false
set_option maxRecDepth 100000
set_option maxHeartbeats 4000000
/-! What the defs about circuits compute. -/
namespace Lw
open PySem MP L2
def dC (w : Int) (gs : List Gate) : MP.D := .tuple [.int w, dGates gs]
theorem run_circuit_eq {n : Nat} {w : Int} {gs : List Gate} {bs : List Int} {S : Sto} (hg : ∀ g, g ∈ gs → InG bs.length g) (hS : ClS S) :
    callM Gc ft (n + 1) 4 [.dat (.tuple [.int w, dGates gs]), .dat (.tuple (bs.map .int))] S = .ok (.dat (.tuple ((runL gs bs).map .int))) S := by
  refine is_eq (call_def ft_run_circuit rfl ?_)
  refine Holds.hide fun Q hQ => ?_
  show wpS _ _ _ _ _ _
  simp [d_run_circuit, start', dGates]
  refine forL_idx (fun i l S' => ∃ a b c d, S' = S ++ [.lst ((runL (gs.take i) bs).map .int)] ∧ l = [some (.dat (.tuple [.int w, dGates gs])), some (.dat (.tuple (bs.map .int))), some (.obj S.length), a, b, c, d]) ⟨none, none, none, none, rfl, rfl⟩ ?_ ?_
  · rintro i d hd l S' ⟨a, b, c, e, rfl, rfl⟩
    rw [List.getElem?_map] at hd
    obtain ⟨g, hgi, rfl⟩ := Option.map_eq_some_iff.mp hd
    have hin := hg g (List.mem_of_getElem? hgi)
    have hr : runL (gs.take (i + 1)) bs = turnL (runL (gs.take i) bs) g := by
      rw [List.take_add_one, hgi]; simp [runL]
    have hlen := runL_len (gs.take i) bs
    rw [hr]
    generalize runL (gs.take i) bs = L at hlen
    refine Holds.hide fun Q hQ => ?_
    rw [forB_ap, dGate, wg_tup]
    refine ⟨rfl, ?_⟩
    simp [d_run_circuit_b1]
    refine forC_mapM dPair (fun p => .bool (decide (getI L p.1 = p.2))) (small_len hin.len) ?_ ?_
    · intro p hp
      rw [comp_ap, dPair, wg_tup]
      refine ⟨rfl, ?_⟩
      simp [wipeL, idx_ob last_get, at_getI (hin.c0 p hp) (by rw [hlen]; exact hin.c1 p hp)]
    · simp [bi_all (fun p : Int × Int => decide (getI L p.1 = p.2))]
      have ha : (g.2.all fun p => decide (getI L p.1 = p.2)) = heldL g.2 L := rfl
      rw [ha]
      refine kifs_b (fun hh => ?_) fun hh => ?_
      · have hs := ix_nn (n := (L.map PyData.int).length) hin.t0 (by rw [List.length_map, hlen]; exact hin.t1)
        simp [idx_ob last_get, at_getI hin.t0 (by rw [hlen]; exact hin.t1), set_ob last_get hs]
        rw [hQ]
        refine ⟨_, _, _, _, ?_, rfl⟩
        simp [turnL, hh]
      · simp
        rw [hQ]
        refine ⟨_, _, _, _, ?_, rfl⟩
        simp [turnL, hh]
  · rintro l S' ⟨a, b, c, d, rfl, rfl⟩
    simp [bi_ob last_get]
    rw [hQ]
    simp
    rw [leave_more (by simp) hS]
    simp

section
variable {n : Nat} {w m : Int} {gs hs : List Gate} {S : Sto} {ps : List Int}
theorem inverse_eq (hS : ClS S) : callM Gc ft (n + 1) 3 [.dat (dC w gs)] S = .ok (.dat (dC w gs.reverse)) S := by
  refine is_eq (call_def ft_inverse_circuit rfl ?_)
  simp [d_inverse_circuit, start', dC, dGates, leave_same rfl hS]
theorem then_eq (hl : gs.length + hs.length ≤ 1000) (hS : ClS S) : callM Gc ft (n + 1) 14 [.dat (dC w gs), .dat (dC m hs)] S = .ok (.dat (dC w (gs ++ hs))) S := by
  refine is_eq (call_def ft_then rfl ?_)
  have : gs.length + hs.length ≤ sizeLine := small_len' (Nat.le_trans hl (by decide))
  simp [d_then, start', dC, dGates, leave_same rfl hS, this]
theorem targets {gs : List Gate} {S : Sto} (hl : gs.length ≤ 1000) {F : Fun'} {k : Nat} {l : MP.Loc} {Q : List MP.D → Sto → Prop} (hk : k < l.length) (q : Q ((gs.map (·.1)).map .int) S) : Holds (forC (compB Gc F [k] (E.idx (E.var k) (E.int 0)) (E.tnm k) E.nil l) (gs.map dGate) [] S) Q := by
  refine forC_mapM dGate (fun g => .int g.1) (small_len hl) ?_ (by have e : (gs.map (·.1)).map PyData.int = gs.map fun g => PyData.int g.1 := by simp
                                                                   rw [← e]; exact q)
  intro g hg
  rw [comp_ap, wg_nm]
  simp only [wipeL]
  have e : ∀ x : Option W, (l.set k x)[k]? = some x := fun x => List.getElem?_set_self hk
  simp [getV, e, dGate]
theorem sset_d {ns : List Int} (h : ns.length < 60) : ssetW (.dat (.list (ns.map .int))) S = .ok (.dat (.list ((sortU ns).map .int))) S := by
  have e : ∀ ns : List Int, intsD (ns.map PyData.int) = some ns := fun ns => by
    induction ns with
    | nil => rfl
    | cons x r ih => show (intsD (r.map PyData.int)).map (x :: ·) = _; rw [ih]; rfl
  unfold ssetW
  dsimp only
  rw [e]
  exact if_pos h
theorem touched_eq (hl : gs.length < 60) (hS : ClS S) : callM Gc ft (n + 1) 5 [.dat (dC w gs)] S = .ok (.dat (.tuple ((sortU (gs.map (·.1))).map .int))) S := by
  refine is_eq (call_def ft_touched rfl ?_)
  simp [d_touched, start', dC, dGates]
  refine targets (by omega) (by simp) ?_
  simp [sset_d (S := S) (ns := gs.map (·.1)) (by rw [List.length_map]; exact hl), -List.map_map]
  simp [leave_same rfl hS]
theorem onwires_eq {W : Int} {k : Nat} (hl : gs.length ≤ 1000) (hp : ps.length = k) (hg : ∀ g, g ∈ gs → GoodG k g) (hS : ClS S) : callM Gc ft (n + 1) 18 [.dat (dC w gs), .dat (.int W), .dat (.tuple (ps.map .int))] S = .ok (.dat (dC W (gs.map (mv ps)))) S := by
  refine is_eq (call_def ft_on_wires rfl ?_)
  refine Holds.hide fun Q hQ => ?_
  show wpS _ _ _ _ _ _
  simp [d_on_wires, start', dC, dGates]
  refine forL_idx (fun i l S' => ∃ a b c d e, S' = S ++ [.lst (((gs.take i).map (mv ps)).map dGate)] ∧ l = [some (.dat (dC w gs)), some (.dat (.int W)), some (.dat (.tuple (ps.map .int))), some (.obj S.length), a, b, c, d, e]) ⟨none, none, none, none, none, rfl, rfl⟩ ?_ ?_
  · rintro i d hd l S' ⟨a, b, c, e, f, rfl, rfl⟩
    rw [List.getElem?_map] at hd
    obtain ⟨g, hgi, rfl⟩ := Option.map_eq_some_iff.mp hd
    have hin := hg g (List.mem_of_getElem? hgi)
    have tk : gs.take (i + 1) = gs.take i ++ [g] := by rw [List.take_add_one, hgi]; rfl
    have ln : (((gs.take i).map (mv ps)).map dGate).length < sizeLine := small_lt (by simp; omega)
    rw [tk]
    generalize gs.take i = G at ln
    refine Holds.hide fun Q hQ => ?_
    rw [forB_ap, dGate, wg_tup]
    refine ⟨rfl, ?_⟩
    simp [d_on_wires_b1]
    refine forC_mapM dPair (fun p => dPair (getI ps p.1, p.2)) (small_len hin.len) ?_ ?_
    · intro p hp'
      rw [comp_ap, dPair, wg_tup]
      refine ⟨rfl, ?_⟩
      simp [wipeL, at_getI (hin.c0 p hp') (by rw [hp]; exact hin.c1 p hp'), dPair]
    · have hs : biW (S ++ [.lst ((G.map (mv ps)).map dGate)]) .sorted false [.dat (.list (g.2.map fun p => dPair (getI ps p.1, p.2)))] = .ok (.dat (.list ((sortP (g.2.map fun c => (getI ps c.1, c.2))).map dPair))) (S ++ [.lst ((G.map (mv ps)).map dGate)]) := by
        have := bi_sortP (ps := g.2.map fun c => (getI ps c.1, c.2)) (S := S ++ [.lst ((G.map (mv ps)).map dGate)]) (m := false)
        have e : (g.2.map fun c => (getI ps c.1, c.2)).map dPair = g.2.map fun p => dPair (getI ps p.1, p.2) := by rw [List.map_map]; rfl
        rw [e] at this
        exact this
      simp only [List.map_map] at hs ln
      simp [hs, recv_ob last_get, at_getI hin.t0 (by rw [hp]; exact hin.t1)]
      rw [app_ob last_get ln]
      simp
      rw [hQ]
      exact ⟨_, _, _, _, _, by simp [dGate, mv], rfl⟩
  · rintro l S' ⟨a, b, c, d, e, rfl, rfl⟩
    rw [List.length_map, List.take_of_length_le (Nat.le_refl _)]
    simp [bi_ob last_get]
    rw [hQ, kdone_ret, leave_more (by simp) hS, holds_ok]
    exact ⟨by simp [dC, dGates], rfl⟩
end
end Lw
set_option Elab.async false
set_option linter.all false
set_option maxRecDepth 100000
set_option maxHeartbeats 4000000
/-! Counts. -/
namespace Lw
open PySem MP L2
def szs (gs : List Gate) : List Int := gs.map fun g => (g.2.length : Int)
def cntD (ns : List Int) : MP.D := .list ((sortU ns).map fun k => dPair (k, (ns.count k : Nat)))
section
variable {n : Nat} {w : Int} {gs : List Gate} {S : Sto}
theorem cnt_d {ns : List Int} {k : Int} : mthW S .count (.dat (.list (ns.map .int))) [.dat (.int k)] = .ok (.dat (.int (ns.count k : Nat))) S := by
  have e : ∀ ns : List Int, intsD (ns.map PyData.int) = some ns := fun ns => by
    induction ns with
    | nil => rfl
    | cons x r ih => show (intsD (r.map PyData.int)).map (x :: ·) = _; rw [ih]; rfl
  show (match intsD (ns.map PyData.int) with | some ns => Rs.ok (MP.W.dat (.int (ns.count k : Nat))) S | none => .no) = _
  rw [e]
theorem counts_eq (hl : gs.length ≤ 1000) (hS : ClS S) : callM Gc ft (n + 1) 9 [.dat (dC w gs)] S = .ok (.dat (cntD (szs gs))) S := by
  refine is_eq (call_def ft_counts rfl ?_)
  refine Holds.hide fun Q hQ => ?_
  show wpS _ _ _ _ _ _
  simp [d_counts, start', dC, dGates]
  rw [dct_d last_get rfl (by simp)]
  simp [mergeW]
  refine forL_idx (fun i l S' => ∃ (cs : CS) (a b c : Option W), (keysI cs).Nodup ∧ cs.length ≤ i ∧ (∀ k, lk cs k = if ((szs gs).take i).count k = 0 then none else some (((szs gs).take i).count k : Nat)) ∧ S' = S ++ [.dic (KD cs)] ∧ l = [some (.dat (dC w gs)), some (.obj S.length), a, b, c]) ⟨[], none, none, none, List.nodup_nil, Nat.le_refl _, fun k => rfl, rfl, rfl⟩ ?_ ?_
  · rintro i d hd l S' ⟨cs, a, b, c, nd, hcl, hlk, rfl, rfl⟩
    rw [List.getElem?_map] at hd
    obtain ⟨g, hgi, rfl⟩ := Option.map_eq_some_iff.mp hd
    have hi := (List.getElem?_eq_some_iff.mp hgi).1
    have tk : (szs gs).take (i + 1) = (szs gs).take i ++ [(g.2.length : Int)] := by
      rw [List.take_add_one]
      unfold szs
      rw [List.getElem?_map, hgi]
      rfl
    have gt : dgetW (S ++ [.dic (KD cs)]) (.obj S.length) (.dat (.int g.2.length)) (.dat (.int 0)) = .ok (.dat (.int (((szs gs).take i).count (g.2.length : Int) : Nat))) (S ++ [.dic (KD cs)]) := by
      rw [get_d (.inl last_get) keyW_i, val_KD, hlk]
      split
      · rename_i h
        rw [h]; rfl
      · rfl
    refine Holds.hide fun Q hQ => ?_
    rw [forB_ap, dGate, wg_tup]
    refine ⟨rfl, ?_⟩
    simp [d_counts_b1]
    rw [isd_d (.inl last_get)]
    simp [gt]
    rw [set_KD last_get (by omega)]
    simp
    rw [hQ]
    refine ⟨putI cs g.2.length (((szs gs).take i).count (g.2.length : Int) + 1), _, _, _, put_nd nd, Nat.le_trans put_len' (by omega), fun k => ?_, rfl, rfl⟩
    rw [lk_put, hlk, tk, List.count_append]
    by_cases e : (g.2.length : Int) = k
    · subst e
      simp
    · have e2 : [(g.2.length : Int)].count k = 0 := by
        rw [List.count_eq_zero]
        simpa using fun h => e h.symm
      rw [if_neg e, e2, Nat.add_zero]
  · rintro l S' ⟨cs, a, b, c, nd, hcl, hlk, rfl, rfl⟩
    rw [List.length_map] at hcl hlk
    have tk : (szs gs).take gs.length = szs gs := List.take_of_length_le (by unfold szs; rw [List.length_map]; exact Nat.le_refl _)
    simp only [tk] at hlk
    have hk : sortI (keysI cs) = sortU (szs gs) := by
      refine up_one ?_ (sortU_up _) fun k => ?_
      · have h1 := ord_srt nd
        have h2 : (keysI (ordI cs)).Pairwise (· < ·) := List.pairwise_map.mpr h1
        rwa [ord_keys] at h2
      · rw [sort_mem, sortU_mem]
        have h1 := lk_none (k := k) (cs := cs)
        rw [hlk k] at h1
        constructor
        · intro q
          refine Decidable.byContradiction fun z => ?_
          rw [if_pos (List.count_eq_zero.mpr z)] at h1
          exact h1.mp rfl q
        · intro q
          refine Decidable.byContradiction fun z => ?_
          have h2 := h1.mpr z
          split at h2
          · rename_i h3
            exact List.count_eq_zero.mp h3 q
          · cases h2
    have dc : ∀ k, k ∈ sortU (szs gs) → lk cs k = some ((szs gs).count k : Nat) := fun k hk => by
      rw [hlk, if_neg (fun z => List.count_eq_zero.mp z (sortU_mem.mp hk))]
    have lenU : (sortU (szs gs)).length ≤ 1000 := by
      rw [← hk, (sortI_perm _).length_eq]
      unfold keysI
      rw [List.length_map]
      omega
    simp [list_KD (.inl last_get), bi_sortI]
    rw [hk]
    refine forC_mapM PyData.int (fun k => dPair (k, ((szs gs).count k : Nat))) (small_len lenU) ?_ ?_
    · intro k hk
      rw [comp_ap, wg_nm]
      simp [wipeL, idx_KD (.inl last_get) (dc k hk), dPair]
    · simp
      rw [hQ, kdone_ret, leave_more (by simp) hS, holds_ok]
      exact ⟨rfl, rfl⟩
end
end Lw
set_option Elab.async false
set_option linter.all false
set_option maxRecDepth 100000
set_option maxHeartbeats 4000000
/-! Depth and layers, in plain lists. -/
namespace Lw
open PySem MP L2
def own (g : Gate) : List Int := g.1 :: g.2.map (·.1)
theorem maxI_is : ∀ {ns : List Int} {M : Int}, M ∈ ns → (∀ x, x ∈ ns → x ≤ M) → maxI ns = some M
  | [], _, h, _ => by simp at h
  | [x], M, h, _ => by
    rw [List.mem_singleton.mp h]; rfl
  | x :: y :: r, M, h, k => by
    show (maxI (y :: r)).map (fun m => if x ≤ m then m else x) = some M
    rcases List.mem_cons.mp h with rfl | h
    · obtain ⟨m, e, hm⟩ := maxI_lt (ns := y :: r) (m := M + 1) (by simp) fun z hz => by have := k z (List.mem_cons_of_mem _ hz); omega
      rw [e]
      show some (if M ≤ m then m else M) = some M
      by_cases q : M ≤ m
      · rw [if_pos q, show m = M by omega]
      · rw [if_neg q]
    · rw [maxI_is h fun z hz => k z (List.mem_cons_of_mem _ hz)]
      show some (if x ≤ M then M else x) = some M
      rw [if_pos (k x List.mem_cons_self)]
theorem max_ex : ∀ {ns : List Int}, ns ≠ [] → ∃ M, M ∈ ns ∧ ∀ x, x ∈ ns → x ≤ M
  | [], h => absurd rfl h
  | [x], _ => ⟨x, List.mem_singleton_self x, fun y hy => by rw [List.mem_singleton.mp hy]; exact Int.le_refl _⟩
  | x :: y :: r, _ => by
    obtain ⟨M, h1, h2⟩ := max_ex (ns := y :: r) (by simp)
    by_cases q : x ≤ M
    · exact ⟨M, List.mem_cons_of_mem _ h1, fun z hz => by
        rcases List.mem_cons.mp hz with rfl | hz
        · exact q
        · exact h2 z hz⟩
    · exact ⟨x, List.mem_cons_self, fun z hz => by
        rcases List.mem_cons.mp hz with rfl | hz
        · exact Int.le_refl _
        · have := h2 z hz; omega⟩
/-- the wires of xs set to v -/
def setAll (v : Int) (xs : List Int) (last : List Int) : List Int := xs.foldl (fun l x => l.set x.toNat v) last
theorem setAll_len {v : Int} : ∀ {xs last : List Int}, (setAll v xs last).length = last.length
  | [], _ => rfl
  | x :: xs, last => by
    show (setAll v xs (last.set x.toNat v)).length = _
    rw [setAll_len, List.length_set]
theorem getI_setAll {v y : Int} (h0 : 0 ≤ y) : ∀ {xs last : List Int}, (∀ x, x ∈ xs → 0 ≤ x ∧ x < last.length) → getI (setAll v xs last) y = if y ∈ xs then v else getI last y
  | [], _, _ => by simp [setAll]
  | x :: xs, last, h => by
    have hx := h x List.mem_cons_self
    show getI (setAll v xs (last.set x.toNat v)) y = _
    rw [getI_setAll h0 fun z hz => by rw [List.length_set]; exact h z (List.mem_cons_of_mem _ hz)]
    by_cases e : y = x
    · subst e
      rw [getI_set_self hx.1 hx.2]
      simp
    · rw [getI_set_ne (fun z => e z.symm) hx.1 h0]
      simp [e]
structure Lv (w : Nat) (last : List Int) (lys : List (List Int)) : Prop where
  len : last.length = w
  up : ∀ x : Int, 0 ≤ x → x < w → ∀ (j : Nat) (ly : List Int), lys[j]? = some ly → x ∈ ly → (j : Int) + 1 ≤ getI last x
  at_ : ∀ x : Int, 0 ≤ x → x < w → 0 < getI last x → ∃ ly, lys[(getI last x).toNat - 1]? = some ly ∧ x ∈ ly
  lo : ∀ x : Int, 0 ≤ x → x < w → 0 ≤ getI last x ∧ getI last x ≤ lys.length
  top : lys = [] ∨ ∃ x : Int, 0 ≤ x ∧ x < w ∧ getI last x = lys.length
theorem lv_nil {w : Nat} : Lv w (List.replicate w 0) [] := by
  have z : ∀ x : Int, getI (List.replicate w 0) x = 0 := fun x => by
    unfold getI
    by_cases h : x.toNat < w
    · simp [List.getD, h]
    · simp [List.getD, List.getElem?_eq_none (show (List.replicate w (0 : Int)).length ≤ x.toNat by simp; omega)]
  exact ⟨by simp, fun x _ _ j ly h => by simp at h, fun x _ _ h => by rw [z] at h; omega, fun x _ _ => by rw [z]; simp, .inl rfl⟩
/-- the layers with the wires xs laid into layer k -/
def putLy (k : Nat) (xs : List Int) (lys : List (List Int)) : List (List Int) := (if k = lys.length then lys ++ [[]] else lys).modify k (· ++ xs)
theorem put_at {k : Nat} {xs : List Int} {lys : List (List Int)} (hk : k ≤ lys.length) (j : Nat) : (putLy k xs lys)[j]? = if j = k then some ((lys.getD k []) ++ xs) else lys[j]? := by
  unfold putLy
  by_cases e : k = lys.length
  · rw [if_pos e, List.getElem?_modify]
    subst e
    by_cases q : j = lys.length
    · subst q; simp [List.getD]
    · have e2 : (fun a : List Int => if lys.length = j then a ++ xs else a) = id := funext fun a => if_neg fun z => q z.symm
      rw [e2, id_map, if_neg q]
      rcases Nat.lt_or_ge j lys.length with z | z
      · rw [List.getElem?_append_left z]
      · rw [List.getElem?_eq_none (by simp; omega), List.getElem?_eq_none z]
  · rw [if_neg e, List.getElem?_modify]
    by_cases q : j = k
    · subst q
      have : j < lys.length := by omega
      simp [List.getD, this]
    · have e2 : (fun a : List Int => if k = j then a ++ xs else a) = id := funext fun a => if_neg fun z => q z.symm
      rw [e2, id_map, if_neg q]
theorem put_lys_len {k : Nat} {xs : List Int} {lys : List (List Int)} : (putLy k xs lys).length = if k = lys.length then lys.length + 1 else lys.length := by
  unfold putLy
  split <;> simp [*]
section
variable {w : Nat} {last : List Int} {lys : List (List Int)} {g : Gate} {L : Int}
/-- the last layer that a gate meets -/
def Meets (last : List Int) (g : Gate) (L : Int) : Prop := (∃ x, x ∈ own g ∧ getI last x = L) ∧ ∀ x, x ∈ own g → getI last x ≤ L
theorem own_in (hg : GoodG w g) : ∀ x, x ∈ own g → 0 ≤ x ∧ x < w := fun x hx => by
  rcases List.mem_cons.mp hx with rfl | hx
  · exact ⟨hg.t0, hg.t1⟩
  · obtain ⟨c, hc, rfl⟩ := List.mem_map.mp hx
    exact ⟨hg.c0 c hc, hg.c1 c hc⟩
theorem meets_ex : ∃ L, Meets last g L := by
  obtain ⟨M, h1, h2⟩ := max_ex (ns := (own g).map (getI last)) (by simp [own])
  obtain ⟨x, hx, e⟩ := List.mem_map.mp h1
  exact ⟨M, ⟨x, hx, e⟩, fun y hy => h2 _ (List.mem_map.mpr ⟨y, hy, rfl⟩)⟩
theorem meets_max (h : Meets last g L) : maxI ((own g).map (getI last)) = some L := by
  obtain ⟨⟨x, hx, e⟩, h2⟩ := h
  refine maxI_is (List.mem_map.mpr ⟨x, hx, e⟩) fun y hy => ?_
  obtain ⟨z, hz, rfl⟩ := List.mem_map.mp hy
  exact h2 z hz
theorem meets_lo (h : Lv w last lys) (hg : GoodG w g) (hm : Meets last g L) : 0 ≤ L ∧ L ≤ lys.length := by
  obtain ⟨⟨x, hx, e⟩, _⟩ := hm
  obtain ⟨h0, h1⟩ := own_in hg x hx
  rw [← e]
  exact h.lo x h0 h1
/-- above it stands no wire of the gate -/
theorem above (h : Lv w last lys) (hg : GoodG w g) (hm : Meets last g L) {j : Nat} {ly : List Int} (hj : L ≤ j) (e : lys[j]? = some ly) : ∀ x, x ∈ own g → x ∉ ly := fun x hx hl => by
  obtain ⟨h0, h1⟩ := own_in hg x hx
  have := h.up x h0 h1 j ly e hl
  have := hm.2 x hx
  omega
/-- at it one does -/
theorem meets_at (h : Lv w last lys) (hg : GoodG w g) (hm : Meets last g L) (h0 : 0 < L) : ∃ ly x, lys[L.toNat - 1]? = some ly ∧ x ∈ own g ∧ x ∈ ly := by
  obtain ⟨⟨x, hx, e⟩, _⟩ := hm
  obtain ⟨q0, q1⟩ := own_in hg x hx
  obtain ⟨ly, e1, e2⟩ := h.at_ x q0 q1 (by rw [e]; exact h0)
  rw [e] at e1
  exact ⟨ly, x, e1, hx, e2⟩
theorem lv_step (h : Lv w last lys) (hg : GoodG w g) (hm : Meets last g L) : Lv w (setAll (L + 1) (own g) last) (putLy L.toNat (own g) lys) := by
  have hin := own_in hg
  have hlo := meets_lo h hg hm
  have hk : L.toNat ≤ lys.length := by omega
  have hLn : (L.toNat : Int) = L := by omega
  have ge : ∀ y : Int, 0 ≤ y → getI (setAll (L + 1) (own g) last) y = if y ∈ own g then L + 1 else getI last y := fun y hy => getI_setAll hy fun x hx => by rw [h.len]; exact hin x hx
  have ln : (lys.length : Int) ≤ (putLy L.toNat (own g) lys).length := by rw [put_lys_len]; split <;> omega
  have ln2 : L + 1 ≤ ((putLy L.toNat (own g) lys).length : Int) := by rw [put_lys_len]; split <;> omega
  refine ⟨by rw [setAll_len]; exact h.len, fun x h0 h1 j ly e hx => ?_, fun x h0 h1 hp => ?_, fun x h0 h1 => ?_, .inr ?_⟩
  · rw [put_at hk] at e
    rw [ge x h0]
    by_cases q : j = L.toNat
    · rw [if_pos q] at e
      cases e
      rcases List.mem_append.mp hx with hx | hx
      · have hj : lys[j]? = some (lys.getD L.toNat []) := by
          subst q
          by_cases z : L.toNat < lys.length
          · simp [List.getD, z]
          · simp [List.getD, List.getElem?_eq_none (by omega : lys.length ≤ L.toNat)] at hx
        have := h.up x h0 h1 j _ hj hx
        split <;> omega
      · rw [if_pos hx]; omega
    · rw [if_neg q] at e
      have := h.up x h0 h1 j ly e hx
      split
      · rename_i z
        have := hm.2 x z
        omega
      · exact this
  · rw [ge x h0] at hp ⊢
    split
    · rename_i z
      have e : (L + 1).toNat - 1 = L.toNat := by omega
      rw [e, put_at hk, if_pos rfl]
      exact ⟨_, rfl, List.mem_append_right _ z⟩
    · rename_i z
      rw [if_neg z] at hp
      obtain ⟨ly, e1, e2⟩ := h.at_ x h0 h1 hp
      rw [put_at hk]
      split
      · rename_i q
        rw [q] at e1
        exact ⟨_, rfl, List.mem_append_left _ (by rw [List.getD_eq_getElem?_getD, e1]; exact e2)⟩
      · exact ⟨ly, e1, e2⟩
  · rw [ge x h0]
    have := h.lo x h0 h1
    split <;> omega
  · by_cases q : L.toNat = lys.length
    · refine ⟨g.1, hg.t0, hg.t1, ?_⟩
      rw [ge _ hg.t0, if_pos (show g.1 ∈ own g from List.mem_cons_self), put_lys_len, if_pos q]
      omega
    · rcases h.top with z | ⟨x, h0, h1, e⟩
      · subst z
        exact absurd (Nat.le_zero.mp hk) q
      · refine ⟨x, h0, h1, ?_⟩
        rw [ge x h0, put_lys_len, if_neg q, if_neg fun z => by
          have := hm.2 x z
          omega]
        exact e
theorem lv_max (h : Lv w last lys) : maxI (0 :: last) = some (lys.length : Int) := by
  have hg : ∀ x, x ∈ last → ∃ i : Int, 0 ≤ i ∧ i < w ∧ getI last i = x := fun x hx => by
    obtain ⟨k, hk, rfl⟩ := List.mem_iff_getElem.mp hx
    exact ⟨(k : Int), by omega, by rw [h.len] at hk; omega, by unfold getI; simp [List.getD, hk]⟩
  refine maxI_is ?_ fun x hx => ?_
  · rcases h.top with z | ⟨x, h0, h1, e⟩
    · subst z; exact List.mem_cons_self
    · refine List.mem_cons_of_mem _ ?_
      rw [← e]
      unfold getI
      have hk : x.toNat < last.length := by rw [h.len]; omega
      rw [show last.getD x.toNat 0 = last[x.toNat] by simp [List.getD, hk]]
      exact List.getElem_mem hk
  · rcases List.mem_cons.mp hx with rfl | hx
    · omega
    · obtain ⟨i, h0, h1, rfl⟩ := hg x hx
      exact (h.lo i h0 h1).2
end
end Lw
set_option Elab.async false
set_option linter.all false
set_option maxRecDepth 100000
set_option maxHeartbeats 4000000
/-! Depth and layers: the walk. -/
namespace Lw
open PySem MP L2
def Lof (last : List Int) (g : Gate) : Int := (maxI ((own g).map (getI last))).getD 0
def stepS (s : List Int × List (List Int)) (g : Gate) : List Int × List (List Int) := (setAll (Lof s.1 g + 1) (own g) s.1, putLy (Lof s.1 g).toNat (own g) s.2)
def runS (w : Nat) (gs : List Gate) : List Int × List (List Int) := gs.foldl stepS (List.replicate w 0, [])
theorem meets_of {last : List Int} {g : Gate} : Meets last g (Lof last g) := by
  obtain ⟨L, h⟩ := meets_ex (last := last) (g := g)
  have e := meets_max h
  unfold Lof
  rw [e]
  exact h
theorem runS_snoc {w : Nat} {gs : List Gate} {g : Gate} : runS w (gs ++ [g]) = stepS (runS w gs) g := by
  unfold runS
  rw [List.foldl_append]
  rfl
theorem runS_lv {w : Nat} {gs : List Gate} (hg : ∀ g, g ∈ gs → GoodG w g) : ∀ i, Lv w (runS w (gs.take i)).1 (runS w (gs.take i)).2
  | 0 => lv_nil
  | i + 1 => by
    have ih := runS_lv hg i
    rw [List.take_add_one]
    cases e : gs[i]? with
    | none => simpa using ih
    | some g =>
      show Lv w (runS w (gs.take i ++ [g])).1 (runS w (gs.take i ++ [g])).2
      rw [runS_snoc]
      exact lv_step ih (hg g (List.mem_of_getElem? e)) meets_of
section
variable {n w : Nat} {gs : List Gate} {S : Sto}
theorem cls_lst (hS : ClS S) (vs : List MP.D) : ClS (S ++ [.lst vs]) := fun k hk => by
  have := hS k (by simp at hk; omega)
  simp [this, obBelow]
theorem add_ob {p : Nat} {xs ys : List MP.D} (h : S[p]? = some (.lst ys)) (hl : xs.length + ys.length ≤ sizeLine) : binW S .add (.dat (.list xs)) (.obj p) = .ok (.dat (.list (xs ++ ys))) S := by
  unfold binW
  rw [rdD_dat, rdD_obj, h, obD_lst]
  show optD (if xs.length + ys.length ≤ sizeLine then some (PyData.list (xs ++ ys)) else none) S = _
  rw [if_pos hl]
  rfl
theorem depth_eq (hl : gs.length ≤ 1000) (hw : w ≤ 1000) (hg : ∀ g, g ∈ gs → GoodG w g) (hS : ClS S) : callM Gc ft (n + 2) 7 [.dat (dC w gs)] S = .ok (.dat (.int (runS w gs).2.length)) S := by
  refine is_eq (call_def ft_depth rfl ?_)
  refine Holds.hide fun Q hQ => ?_
  show wpS _ _ _ _ _ _
  have rp : rplW S (.dat (.list [.int 0])) (.dat (.int w)) = .ok (.obj S.length) (S ++ [.lst ((List.replicate w (0 : Int)).map .int)]) := by
    have r1 : repOk 1 (w : Int) := ⟨by omega, by omega, Nat.le_trans (by simp; exact hw) (show 1000 ≤ sizeLine by decide)⟩
    have e : (List.replicate (w : Int).toNat [PyData.int 0]).flatten = (List.replicate w (0 : Int)).map PyData.int := by
      rw [Int.toNat_natCast, List.map_replicate]
      clear hw r1 hg hQ
      induction w with
      | zero => rfl
      | succ w ih => rw [List.replicate_succ, List.flatten_cons, ih]; rfl
    unfold rplW
    dsimp only
    rw [show [PyData.int 0].length = 1 from rfl, if_pos r1, e]
    rfl
  simp [d_depth, start', dC, dGates]
  rw [rp]
  simp
  refine forL_idx (fun i l S' => ∃ a b c, S' = S ++ [.lst ((runS w (gs.take i)).1.map .int)] ∧ l = [some (.dat (dC w gs)), some (.obj S.length), a, b, c]) ⟨none, none, none, by simp [runS], rfl⟩ ?_ ?_
  · rintro i d hd l S' ⟨a, b, c, rfl, rfl⟩
    rw [List.getElem?_map] at hd
    obtain ⟨g, hgi, rfl⟩ := Option.map_eq_some_iff.mp hd
    have hin := hg g (List.mem_of_getElem? hgi)
    have lv := runS_lv hg i
    have tk : gs.take (i + 1) = gs.take i ++ [g] := by rw [List.take_add_one, hgi]; rfl
    rw [tk, runS_snoc]
    generalize runS w (gs.take i) = s at lv
    obtain ⟨last, lys⟩ := s
    dsimp only at lv
    have hm := meets_of (last := last) (g := g)
    have eM := meets_max hm
    have ww := wires_of_eq (n := n) hin.len (cls_lst hS (last.map .int))
    refine Holds.hide fun Q hQ => ?_
    rw [forB_ap, wg_nm]
    simp [d_depth_b2]
    simp at ww
    rw [ww]
    simp
    have eo : (PyData.int g.1 :: g.2.map (PyData.int ∘ fun x => x.1)) = (own g).map PyData.int := by simp [own]
    rw [eo]
    refine forC_mapM PyData.int (fun x => .int (getI last x)) (small_len' (by simp [own]; have := hin.len; omega)) ?_ ?_
    · intro x hx
      obtain ⟨h0, h1⟩ := own_in hin x hx
      rw [comp_ap, wg_nm]
      simp [wipeL, idx_ob last_get, at_getI h0 (by rw [lv.len]; exact h1)]
    have e2 : biW (S ++ [.lst (last.map .int)]) .max false [.dat (.list ((own g).map fun x => PyData.int (getI last x)))] = .ok (.dat (.int (Lof last g))) (S ++ [.lst (last.map .int)]) := by
      have := bi_maxI (S := S ++ [.lst (last.map .int)]) eM
      rw [List.map_map] at this
      exact this
    simp [e2]
    rw [ww]
    simp
    rw [eo]
    refine forL_foldI (fun x : Int => PyData.int x) (fun (l : List Int) x => l.set x.toNat (Lof last g + 1)) (fun i l' lc S' => l'.length = w ∧ S' = S ++ [.lst (l'.map .int)] ∧ ∃ c, lc = [some (.dat (dC w gs)), some (.obj S.length), some (.dat (dGate g)), some (.dat (.int (Lof last g + 1))), c]) ⟨lv.len, rfl, c, by rw [Int.add_comm]⟩ ?_ ?_
    · rintro i x hx l' lc S' ⟨hl', rfl, c, rfl⟩
      obtain ⟨h0, h1⟩ := own_in hin x (List.mem_of_getElem? hx)
      refine Holds.hide fun Q hQ => ?_
      rw [forB_ap, wg_nm]
      simp [d_depth_b1]
      rw [set_ob last_get (ix_nn h0 (by rw [List.length_map, hl']; exact h1))]
      simp
      rw [hQ]
      exact ⟨rfl, by rw [List.length_set]; exact hl', by simp [List.map_set], _, rfl⟩
    · rintro lc S' ⟨hl', rfl, c, rfl⟩
      simp
      rw [hQ]
      exact ⟨_, _, _, rfl, rfl⟩
  · rintro l S' ⟨a, b, c, rfl, rfl⟩
    rw [List.length_map]
    have lv := runS_lv hg gs.length
    rw [List.take_of_length_le (Nat.le_refl _)] at lv ⊢
    have hx := lv_max lv
    have sl : [PyData.int 0].length + ((runS w gs).1.map PyData.int).length ≤ sizeLine := by
      rw [List.length_map, lv.len]
      exact small_len' (by simp; omega)
    simp
    rw [add_ob last_get sl]
    have e2 : biW (S ++ [.lst ((runS w gs).1.map .int)]) .max false [.dat (.list ((0 :: (runS w gs).1).map .int))] = .ok (.dat (.int (runS w gs).2.length)) (S ++ [.lst ((runS w gs).1.map .int)]) := bi_maxI hx
    simp at e2
    simp [e2]
    rw [hQ, kdone_ret, leave_more (by simp) hS, holds_ok]
    exact ⟨rfl, rfl⟩
end
end Lw
set_option Elab.async false
set_option linter.all false
set_option maxRecDepth 100000
set_option maxHeartbeats 4000000
/-! Layers: the walk. -/
namespace Lw
open PySem MP L2
def dLy (lys : List (List Int)) : List MP.D := lys.map fun ly => .list (ly.map .int)
theorem any_ints {xs : List Int} {r : Int} : ((xs.map PyData.int).any fun y => PyData.eqv y (.int r)) = decide (r ∈ xs) := by
  rw [Bool.eq_iff_iff]
  simp [List.any_eq_true]
theorem dLy_put {k : Nat} {xs : List Int} {lys : List (List Int)} (hk : k ≤ lys.length) : dLy (putLy k xs lys) = (dLy (if k = lys.length then lys ++ [[]] else lys)).set k (.list ((lys.getD k [] ++ xs).map .int)) := by
  refine List.ext_getElem? fun j => ?_
  unfold dLy
  rw [List.getElem?_map, put_at hk]
  by_cases q : j = k
  · subst q
    have e : j < (List.map (fun ly => PyData.list (ly.map .int)) (if j = lys.length then lys ++ [[]] else lys)).length := by
      rw [List.length_map]
      split
      · rw [List.length_append]; simp; omega
      · omega
    rw [if_pos rfl, List.getElem?_set_self e]
    rfl
  · rw [if_neg q, List.getElem?_set_ne (fun z => q z.symm), List.getElem?_map]
    by_cases e : k = lys.length
    · rw [if_pos e]
      rcases Nat.lt_or_ge j lys.length with z | z
      · rw [List.getElem?_append_left z]
      · rw [List.getElem?_eq_none (l := lys ++ [[]]) (by simp; omega), List.getElem?_eq_none z]
    · rw [if_neg e]
theorem put_sz {k b m : Nat} {xs : List Int} {lys : List (List Int)} (hk : k ≤ lys.length) (hx : xs.length ≤ m) (h : ∀ ly, ly ∈ lys → ly.length ≤ b) : ∀ ly, ly ∈ putLy k xs lys → ly.length ≤ b + m := fun ly hly => by
  obtain ⟨j, hj, rfl⟩ := List.mem_iff_getElem.mp hly
  have e := put_at (xs := xs) hk j
  rw [List.getElem?_eq_getElem hj] at e
  split at e
  · have e := Option.some.inj e
    rw [e, List.length_append]
    have : (lys.getD k []).length ≤ b := by
      by_cases z : k < lys.length
      · rw [show lys.getD k [] = lys[k] by simp [List.getD, z]]
        exact h _ (List.getElem_mem z)
      · rw [show lys.getD k [] = [] by simp [List.getD, List.getElem?_eq_none (by omega : lys.length ≤ k)]]
        exact Nat.zero_le _
    omega
  · have := h _ (List.mem_of_getElem? e.symm)
    omega
section
variable {n w : Nat} {gs : List Gate} {S : Sto}
theorem layers_eq (hl : gs.length ≤ 100) (hg : ∀ g, g ∈ gs → GoodG w g) (hS : ClS S) : callM Gc ft (n + 1) 6 [.dat (dC w gs)] S = .ok (.dat (.int (runS w gs).2.length)) S := by
  refine is_eq (call_def ft_Llayers rfl ?_)
  refine Holds.hide fun Q hQ => ?_
  show wpS _ _ _ _ _ _
  simp [d_Llayers, start', dC, dGates]
  refine forL_idx (fun i l S' => ∃ a b c d e f, (∀ ly, ly ∈ (runS w (gs.take i)).2 → ly.length ≤ i * 1001) ∧ (runS w (gs.take i)).2.length ≤ i ∧ S' = S ++ [.lst (dLy (runS w (gs.take i)).2)] ∧ l = [some (.dat (dC w gs)), some (.obj S.length), a, b, c, d, e, f]) ⟨none, none, none, none, none, none, by simp [runS], by simp [runS], by simp [runS, dLy], rfl⟩ ?_ ?_
  · rintro i d hd l S' ⟨a, b, c, d', e, f, hsz, hln, rfl, rfl⟩
    rw [List.getElem?_map] at hd
    obtain ⟨g, hgi, rfl⟩ := Option.map_eq_some_iff.mp hd
    have hin := hg g (List.mem_of_getElem? hgi)
    have hi := (List.getElem?_eq_some_iff.mp hgi).1
    have lv := runS_lv hg i
    have tk : gs.take (i + 1) = gs.take i ++ [g] := by rw [List.take_add_one, hgi]; rfl
    rw [tk, runS_snoc]
    generalize runS w (gs.take i) = s at lv hsz hln
    obtain ⟨last, lys⟩ := s
    dsimp only at lv hsz hln
    have hm := meets_of (last := last) (g := g)
    have hlo := meets_lo lv hin hm
    show Holds _ _
    unfold stepS
    dsimp only
    generalize hL : Lof last g = L at hm hlo
    obtain ⟨L, rfl⟩ := nat_of hlo.1
    rw [Int.toNat_natCast]
    have hol : (own g).length ≤ 1001 := by simp [own]; exact hin.len
    have o1 : 1 + g.2.length ≤ sizeLine := small_len' (by have := hin.len; omega)
    have eo : (PyData.int g.1 :: g.2.map (PyData.int ∘ fun x => x.1)) = (own g).map PyData.int := by simp [own]
    have eo2 : (PyData.int g.1 :: g.2.map fun p => PyData.int p.1) = (own g).map PyData.int := by simp [own]
    have lgt : (dLy lys).length = lys.length := by simp [dLy]
    refine Holds.hide fun Q hQ => ?_
    rw [forB_ap, dGate, wg_tup]
    refine ⟨rfl, ?_⟩
    simp [d_Llayers_b2]
    refine forC_mapM dPair (fun p => .int p.1) (small_len hin.len) ?_ ?_
    · intro p hp
      rw [comp_ap, dPair, wg_tup]
      refine ⟨rfl, ?_⟩
      simp [wipeL]
    simp [o1, bi_ob last_get, eo2, lgt]
    refine whlL_inv (fun j l S' => ∃ (k : Nat) (x6 x7 : Option W), j = k ∧ L ≤ k ∧ k ≤ lys.length ∧ S' = S ++ [.lst (dLy lys)] ∧ l = [some (.dat (dC w gs)), some (.obj S.length), some (.dat (.int g.1)), some (.dat (.tuple (g.2.map dPair))), some (.dat (.list ((own g).map .int))), some (.dat (.int k)), x6, x7]) ?_ whlFuel lys.length _ _ (by unfold whlFuel; omega) ⟨lys.length, e, f, rfl, by omega, Nat.le_refl _, rfl, rfl⟩
    rintro k l S' ⟨_, x6, x7, rfl, hk1, hk2, rfl, rfl⟩
    refine Holds.hide fun Q2 hQ2 => ?_
    show wpE _ _ _ _ _ _
    simp [d_Llayers_t1]
    refine kand_val (v := decide (L < k)) (fun h Q' q' => ?_) ?_
    · have h : 0 < k := by have := of_decide_eq_true h; omega
      obtain ⟨k, rfl⟩ : ∃ k', k = k' + 1 := ⟨k - 1, by omega⟩
      have hkl : k < lys.length := by omega
      have hat : atI (dLy lys) (((k + 1 : Nat) : Int) - 1) = some (.list (lys[k].map .int)) := by
        rw [show (((k + 1 : Nat) : Int) - 1) = ((k : Nat) : Int) by omega]
        refine atI_nat ?_
        unfold dLy
        rw [List.getElem?_map, List.getElem?_eq_getElem hkl]
        rfl
      simp
      refine forC_filtM PyData.int (fun x => decide (x ∈ lys[k])) PyData.int (small_len' (by omega)) ?_ ?_
      · intro x hx
        rw [comp_ap, wg_nm]
        simp only [wipeL]
        simp
        rw [idx_ob last_get]
        have hat2 : atI (dLy lys) (k : Int) = some (.list (lys[k].map .int)) := by
          have := hat
          rwa [show (((k + 1 : Nat) : Int) - 1) = ((k : Nat) : Int) by omega] at this
        simp [hat2, any_ints, -List.any_map]
        by_cases z : x ∈ lys[k] <;> simp [z]
      · have em : (((own g).filter fun x => decide (x ∈ lys[k])).map PyData.int).isEmpty = decide (L < k + 1) := by
          rw [List.isEmpty_map]
          by_cases z : L < k + 1
          · rw [decide_eq_true z, List.isEmpty_iff, List.filter_eq_nil_iff]
            intro x hx
            have := above lv hin hm (j := k) (ly := lys[k]) (by omega) (List.getElem?_eq_getElem hkl) x hx
            simpa using this
          · rw [decide_eq_false z]
            have hLk : L = k + 1 := by omega
            obtain ⟨ly, x, e1, e2, e3⟩ := meets_at lv hin hm (by omega)
            have e4 : lys[k]? = some ly := by rw [← e1]; congr 1; omega
            rw [List.getElem?_eq_getElem hkl] at e4
            cases e4
            rw [List.isEmpty_eq_false_iff_exists_mem]
            exact ⟨x, List.mem_filter.mpr ⟨e2, decide_eq_true e3⟩⟩
        simp
        rw [cmp_eq_nil (k := 1) (sh_list sh_ints), em]
        simp
        exact q'
    rw [hQ2]
    refine ⟨_, rfl, fun h => ?_, fun h => ?_⟩
    · have h : 0 < k ∧ L < k := by simpa using h
      show wpS _ _ _ _ _ _
      simp [d_Llayers_b1]
      refine ⟨k - 1, by omega, by omega, by omega, ?_⟩
      omega
    · have hkL : k = L := by
        by_cases z : L < k
        · have : 0 < k := by omega
          simp [z, this] at h
        · omega
      subst hkL
      have hk : k ≤ lys.length := hk2
      have szs : ∀ ly, ly ∈ putLy k (own g) lys → ly.length ≤ (i + 1) * 1001 := fun ly hly => by
        have := put_sz hk hol hsz ly hly
        omega
      have lgs : (putLy k (own g) lys).length ≤ i + 1 := by rw [put_lys_len]; split <;> omega
      have gk : (lys.getD k []).length ≤ i * 1001 := by
        by_cases z : k < lys.length
        · rw [show lys.getD k [] = lys[k] by simp [List.getD, z]]
          exact hsz _ (List.getElem_mem z)
        · rw [show lys.getD k [] = [] by simp [List.getD, List.getElem?_eq_none (by omega : lys.length ≤ k)]]
          exact Nat.zero_le _
      have sl : ((lys.getD k []).map PyData.int).length + ((own g).map PyData.int).length ≤ sizeLine := by
        rw [List.length_map, List.length_map]
        exact small_len' (by omega)
      have put := dLy_put (xs := own g) hk
      rw [kseq_nx]
      simp [bi_ob last_get, lgt]
      refine kifs_cut (fun y S' => S' = S ++ [.lst (dLy (if k = lys.length then lys ++ [[]] else lys))] ∧ y = (.nx, [some (.dat (dC w gs)), some (.obj S.length), some (.dat (.int g.1)), some (.dat (.tuple (g.2.map dPair))), some (.dat (.list ((own g).map .int))), some (.dat (.int k)), x6, x7])) ?_ ?_
      · refine kifs_b (fun z => ?_) fun z => ?_
        · have z : k = lys.length := by have := of_decide_eq_true z; omega
          simp [recv_ob last_get]
          rw [app_ob last_get (small_lt (by rw [lgt]; omega))]
          simp
          rw [if_pos z]
          simp [dLy]
        · have z : ¬ k = lys.length := by have := of_decide_eq_false z; omega
          simp
          rw [if_neg z]
      · rintro y S' ⟨rfl, rfl⟩
        rw [kseq_nx]
        simp
        rw [idx_ob last_get]
        have hat : atI (dLy (if k = lys.length then lys ++ [[]] else lys)) (k : Int) = some (.list ((lys.getD k []).map .int)) := by
          refine atI_nat ?_
          unfold dLy
          rw [List.getElem?_map]
          by_cases z : k = lys.length
          · rw [if_pos z]
            subst z
            simp [List.getD]
          · rw [if_neg z]
            have : k < lys.length := by omega
            simp [List.getD, this]
        rw [hat]
        simp only [optD_some, holds_ok]
        simp only [List.length_map] at sl
        simp [sl, -List.getD_eq_getElem?_getD]
        have ix : ixN (dLy (if k = lys.length then lys ++ [[]] else lys)).length (k : Int) = some k := by
          have := ix_nn (n := (dLy (if k = lys.length then lys ++ [[]] else lys)).length) (i := (k : Int)) (by omega) (by
            unfold dLy
            rw [List.length_map]
            split
            · rw [List.length_append]; simp; omega
            · omega)
          simpa using this
        rw [set_ob last_get ix]
        simp [-List.getD_eq_getElem?_getD]
        rw [hQ]
        refine ⟨_, _, _, _, _, _, szs, lgs, ?_, rfl⟩
        rw [put, List.map_append]
  · rintro l S' ⟨a, b, c, d, e, f, hsz, hln, rfl, rfl⟩
    rw [List.length_map, List.take_of_length_le (Nat.le_refl _)]
    have lgt : (dLy (runS w gs).2).length = (runS w gs).2.length := by simp [dLy]
    simp [bi_ob last_get, lgt]
    rw [hQ, kdone_ret, leave_more (by simp) hS, holds_ok]
    exact ⟨rfl, rfl⟩
end
end Lw
set_option Elab.async false
set_option linter.all false
set_option maxRecDepth 100000
set_option maxHeartbeats 4000000
/-! Places, shapes, draws for the law. -/
namespace Lw
open PySem MP L2
theorem nd_le : ∀ {l m : List Int}, l.Nodup → (∀ x, x ∈ l → x ∈ m) → l.length ≤ m.length
  | [], _, _, _ => Nat.zero_le _
  | x :: l, m, nd, h => by
    have ⟨n1, n2⟩ := List.nodup_cons.mp nd
    have hx := h x List.mem_cons_self
    have := nd_le (l := l) (m := m.erase x) n2 fun y hy => (List.mem_erase_of_ne (fun e => n1 (by rw [← e]; exact hy))).mpr (h y (List.mem_cons_of_mem _ hy))
    rw [List.length_erase_of_mem hx] at this
    have : 0 < m.length := List.length_pos_of_mem hx
    simp only [List.length_cons]
    omega
theorem free_one {W : Nat} {xs : List Int} {r : Int} (hl : xs.length < W) : ∃ j : Nat, j < W ∧ ¬ (r + j) % W ∈ xs := by
  refine Decidable.byContradiction fun no => ?_
  have all : ∀ j : Nat, j < W → (r + j) % W ∈ xs := fun j hj => Decidable.byContradiction fun z => no ⟨j, hj, z⟩
  have nd : ((List.range W).map fun j : Nat => (r + j) % (W : Int)).Nodup := by
    refine List.pairwise_map.mpr (List.pairwise_lt_range.imp_of_mem fun {a b} ha hb hab e => ?_)
    have hb := List.mem_range.mp hb
    have e2 := Int.emod_eq_emod_iff_emod_sub_eq_zero.mp e.symm
    have e3 : (r + (b : Int) - (r + a)) = ((b - a : Nat) : Int) := by omega
    rw [e3, Int.emod_eq_of_lt (by omega) (by omega)] at e2
    omega
  have := nd_le nd fun x hx => by
    obtain ⟨j, hj, rfl⟩ := List.mem_map.mp hx
    exact all j (List.mem_range.mp hj)
  rw [List.length_map, List.length_range] at this
  omega
section
variable {w : Int} {gs : List Gate} {S : Sto}
theorem sh_C : Sh 5 (dC w gs) := sh_tuple (k := 4) fun x hx => by
  simp only [List.mem_cons, List.not_mem_nil, or_false] at hx
  rcases hx with rfl | rfl
  · exact sh_int
  · exact sh_gates
theorem sh_tup {xs : List Int} : Sh 1 (.tuple (xs.map PyData.int)) := sh_tuple (k := 0) sh_ints
theorem sh_cnt {ns : List Int} : Sh 2 (cntD ns) := sh_list (k := 1) fun x hx => by
  obtain ⟨k, _, rfl⟩ := List.mem_map.mp hx
  exact sh_pair
@[simp] theorem idx_C0 : idxW S (.dat (dC w gs)) (.dat (.int 0)) = .ok (.dat (.int w)) S := by
  show optD (atI [.int w, dGates gs] 0) S = _
  rw [at_0]
  rfl
@[simp] theorem idx_C1 : idxW S (.dat (dC w gs)) (.dat (.int 1)) = .ok (.dat (dGates gs)) S := by
  show optD (atI [.int w, dGates gs] 1) S = _
  rw [at_1]
  rfl
end
theorem rw_gate {w : Int} {g : Gate} (hw : w ≤ 100) (hg : GoodG w g) (hl : g.2.length ≤ 20) : Rw 3 6000 (dGate g) := by
  refine rw_tuple (k := 2) (m := 2700) (fun x hx => ?_) (by simp)
  simp only [List.mem_cons, List.not_mem_nil, or_false] at hx
  rcases hx with rfl | rfl
  · exact (rw_int (i := g.1) (by have := hg.t0; have := hg.t1; omega)).mono (by omega) (by omega)
  · refine rw_tuple (k := 1) (m := 130) (fun x hx => ?_) (by rw [List.length_map]; omega)
    obtain ⟨c, hc, rfl⟩ := List.mem_map.mp hx
    have := hg.c0 c hc
    have := hg.c1 c hc
    have := hg.v c hc
    refine rw_tuple (k := 0) (m := 64) (fun x hx => ?_) (by simp)
    simp only [List.mem_cons, List.not_mem_nil, or_false] at hx
    rcases hx with rfl | rfl
    · exact rw_int (by omega)
    · exact rw_int (by omega)
/-- controls stand in order below w: at most w -/
theorem ctl_len {w : Nat} {g : Gate} (hg : GoodG w g) : g.2.length ≤ w := by
  have nd : (g.2.map (·.1)).Nodup := List.pairwise_map.mpr (hg.srt.imp fun h e => by omega)
  have := nd_le nd (m := (List.range w).map fun k : Nat => (k : Int)) fun x hx => by
    obtain ⟨c, hc, rfl⟩ := List.mem_map.mp hx
    have := hg.c0 c hc
    have := hg.c1 c hc
    exact List.mem_map.mpr ⟨c.1.toNat, List.mem_range.mpr (by omega), by omega⟩
  simpa using this
theorem rw_C {w : Nat} {gs : List Gate} (hw : w ≤ 10) (hl : gs.length ≤ 20) (hg : ∀ g, g ∈ gs → GoodG w g) : Rw 5 300000 (dC w gs) := by
  refine rw_tuple (k := 4) (m := 130000) (fun x hx => ?_) (by simp)
  simp only [List.mem_cons, List.not_mem_nil, or_false] at hx
  rcases hx with rfl | rfl
  · exact (rw_int (i := (w : Int)) (by omega)).mono (by omega) (by omega)
  · refine rw_tuple (k := 3) (m := 6000) (fun x hx => ?_) (by rw [List.length_map]; omega)
    obtain ⟨g, hg', rfl⟩ := List.mem_map.mp hx
    exact rw_gate (by omega) (hg g hg') (Nat.le_trans (ctl_len (hg g hg')) (by omega))
theorem reprC {w : Nat} {gs : List Gate} {S : Sto} (hw : w ≤ 10) (hl : gs.length ≤ 20) (hg : ∀ g, g ∈ gs → GoodG w g) : biW S .repr false [.dat (dC w gs)] = .ok (.dat (.str (dC w gs).shown)) S := reprw_ok (rw_C hw hl hg) (by decide) (by decide)
/-- a store of lists alone -/
theorem cl_lsts : ∀ T : List (List MP.D), Cl (T.map Ob.lst) := fun T n _ => by
  rw [List.all_eq_true]
  intro x hx
  obtain ⟨y, _, rfl⟩ := List.mem_map.mp hx
  rfl
/-- bits drawn -/
theorem bits_ok {n m k v : Nat} {o : Ob} {R : Sto} {l : MP.Loc} {Q : List MP.D → Sto → Prop} (ho : Dw o) (hR : Cl R) (hl : ∃ r1 r2, l = r1 :: some (.obj 0) :: r2) (hk : 2 ≤ k) (hm : m ≤ 100)
    (q : ∀ (xs : List Int) (o : Ob), xs.length = m → Dw o → Q (xs.map .int) (o :: R)) :
    Holds (forC (compB Gc (callM Gc ft (n + 1)) [k] (E.call 1 (E.cons (E.var 1) (E.cons (E.int 2) E.nil))) (E.tnm k) E.nil l) (rng 0 1 m) [] (o :: R)) Q := by
  obtain ⟨r1, r2, rfl⟩ := hl
  obtain ⟨k, rfl⟩ : ∃ k', k = k' + 2 := ⟨k - 2, by omega⟩
  refine forC_idx (fun i acc S => ∃ (xs : List Int) (o : Ob), acc = xs.map .int ∧ xs.length = i ∧ Dw o ∧ S = o :: R) ⟨[], o, rfl, rfl, ho, rfl⟩ ?_ ?_
  · rintro i d hd acc S ⟨xs, o, rfl, hx, ho, rfl⟩
    obtain ⟨hi, rfl⟩ := rngH_get hd
    have hi : i < m := by simpa using hi
    rw [comp_ap, wg_nm]
    simp only [wipeL, List.set_cons_succ]
    simp
    refine (take_ok (n := n) (m := 2) ho (by decide) (by decide) hR).imp ?_
    rintro _ _ ⟨v, o, rfl, h0, h1, ho, rfl⟩
    simp
    exact ⟨small_lt (by omega), xs ++ [v], by simp, by simp [hx], ho⟩
  · rintro acc S ⟨xs, o, rfl, hx, ho, rfl⟩
    exact q xs o (by rw [hx, rngH_len]) ho
end Lw
set_option Elab.async false
set_option linter.all false
set_option maxRecDepth 100000
set_option maxHeartbeats 4000000
/-! The law. -/
namespace Lw
open PySem MP L2
/-- wires, circuit, other, repr, places, moved: what stands before the turns -/
def locB (ns : List Int) (w : Nat) (gs hs : List Gate) (ps : List Int) (x7 x9 x11 x12 x13 x14 x15 : Option W) : MP.Loc :=
  [some (.scr (ns.map .int)), some (.obj 0), some (.dat (.int w)), some (.dat (dC w gs)), some (.dat (dC w hs)), some (.dat (.str (dC w gs).shown)), some (.obj 1), x7, some (.dat (dC ((w : Int) + 3) (gs.map (mv ps)))), x9, none, x11, x12, x13, x14, x15, none, none, none, none]
theorem lturned_t {n : Nat} {gs : List Gate} {bs : List Int} {S : Sto} (hg : ∀ g, g ∈ gs → InG bs.length g) (hS : ClS S) : callM Gc ft (n + 1) 13 [.dat (dGates gs), .dat (.tuple (bs.map .int))] S = .ok (.dat (.tuple ((runL gs bs).map .int))) S := lturned_eq hg rfl hS
theorem turn_ok {n w : Nat} {ns ps : List Int} {gs hs : List Gate} {o : Ob} {T : List (List MP.D)} {x7 x9 x11 x12 x13 x14 x15 : Option W} {Q : Fl × MP.Loc → Sto → Prop} (hw : w ≤ 10) (hp : PlOk ps w (w + 3)) (hg : ∀ g, g ∈ gs → GoodG w g) (ho : Dw o)
    (hQ : ∀ (o : Ob) (T : List (List MP.D)) (x7 x12 x13 x14 x15 : Option W), Dw o → Q (.nx, locB ns w gs hs ps x7 x9 x11 x12 x13 x14 x15) (o :: Ob.lst (ps.map PyData.int) :: T.map Ob.lst)) :
    wpS Gc (callM Gc ft (n + 4)) d_law_b3 (locB ns w gs hs ps x7 x9 x11 x12 x13 x14 x15) (o :: Ob.lst (ps.map PyData.int) :: T.map Ob.lst) Q := by
  have hsw : smallI (w : Int) = true := small_i (by omega) (by omega)
  have hsw3 : smallI ((w : Int) + 3) = true := small_i (by omega) (by omega)
  have tn : ((w : Int) + 3).toNat = w + 3 := by omega
  have cR : ∀ T : List (List MP.D), Cl (.lst (ps.map .int) :: T.map Ob.lst) := fun T => cl_lsts (ps.map .int :: T)
  simp [d_law_b3, locB, hsw]
  refine bits_ok (n := n + 3) (v := 0) ho (cR T) ⟨_, _, rfl⟩ (by decide) (by omega) fun bs o hbl ho => ?_
  have hgb : ∀ g, g ∈ gs → GoodG bs.length g := fun g h => by rw [hbl]; exact hg g h
  have cS := dw_cls ho (cR T)
  have t1 := lturned_t (n := n + 3) (gs := gs) (bs := bs) (fun g h => (hgb g h).toInG) cS
  have t2 := run_circuit_eq (n := n + 3) (w := w) (gs := gs) (bs := bs) (fun g h => (hgb g h).toInG) cS
  have hdl : (runL gs bs).length = bs.length := runL_len gs bs
  have t3 := run_circuit_eq (n := n + 3) (w := w) (gs := gs.reverse) (bs := runL gs bs) (fun g h => by rw [hdl]; exact (hgb g (List.mem_reverse.mp h)).toInG) cS
  rw [run_back hgb] at t3
  have t4 := inverse_eq (n := n + 3) (w := w) (gs := gs) cS
  have d1 : ∀ a : Int, ∀ G : List Gate, PyData.tuple [.int a, dGates G] = dC a G := fun _ _ => rfl
  rw [d1] at t2 t3
  simp [t1, t2, t3, t4, cmp_ne_self sh_tup, hsw3, tn]
  refine bits_ok (n := n + 3) (v := 0) (m := w + 3) ho (cR T) ⟨_, _, rfl⟩ (by decide) (by omega) fun wd o hwl ho => ?_
  simp [hsw]
  have cS := dw_cls ho (cR T)
  have rng : ∀ k : Nat, k < w → 0 ≤ ps.getD k 0 ∧ ps.getD k 0 < (w + 3 : Nat) := fun k hk => by
    have hk2 : k < ps.length := by rw [hp.len]; exact hk
    rw [show ps.getD k 0 = ps[k] by simp [List.getD, hk2]]
    exact hp.lt _ (List.getElem_mem hk2)
  have getp : ∀ x : List MP.D, (o :: Ob.lst (ps.map PyData.int) :: (T.map Ob.lst ++ [.lst x]))[T.length + 1 + 1]? = some (.lst x) := fun x => by simp
  have setp : ∀ x y : List MP.D, (o :: Ob.lst (ps.map PyData.int) :: (T.map Ob.lst ++ [.lst x])).set (T.length + 1 + 1) (.lst y) = o :: Ob.lst (ps.map PyData.int) :: (T.map Ob.lst ++ [.lst y]) := fun x y => by simp
  have get1 : ∀ x : List MP.D, (o :: Ob.lst (ps.map PyData.int) :: (T.map Ob.lst ++ [.lst x]))[1]? = some (.lst (ps.map .int)) := fun _ => rfl
  have pi : ∀ k : Nat, k < w → atI (ps.map PyData.int) (k : Int) = some (.int (ps.getD k 0)) := fun k hk => atI_nat (by
    have hk2 : k < ps.length := by rw [hp.len]; exact hk
    rw [List.getElem?_map]
    simp [List.getD, hk2])
  have tks : ∀ (xs : List Int) (k : Nat), k < xs.length → xs.take (k + 1) = xs.take k ++ [xs.getD k 0] := fun xs k hk => by
    rw [List.take_add_one, List.getElem?_eq_getElem hk]
    simp [List.getD, hk]
  have lens : ∀ k (vs wd : List Int), (lay (ps.take k) (vs.take k) wd).length = wd.length := fun k vs wd => lay_len
  have laid : ∀ (vs wd : List Int) (k : Nat), vs.length = w → k < w → lay (ps.take (k + 1)) (vs.take (k + 1)) wd = (lay (ps.take k) (vs.take k) wd).set (ps.getD k 0).toNat (vs.getD k 0) := fun vs wd k hv hk => by
    rw [tks ps k (by rw [hp.len]; exact hk), tks vs k (by rw [hv]; exact hk), lay_snoc (by simp [hp.len, hv])]
  have vi : ∀ (vs : List Int) (k : Nat), vs.length = w → k < w → atI (vs.map PyData.int) (k : Int) = some (.int (vs.getD k 0)) := fun vs k hv hk => atI_nat (by
    have hk2 : k < vs.length := by rw [hv]; exact hk
    rw [List.getElem?_map]
    simp [List.getD, hk2])
  refine forL_idx (fun i l S' => ∃ x7, S' = o :: Ob.lst (ps.map PyData.int) :: (T.map Ob.lst ++ [.lst ((lay (ps.take i) (bs.take i) wd).map .int)]) ∧ l = [some (.scr (ns.map .int)), some (.obj 0), some (.dat (.int w)), some (.dat (dC w gs)), some (.dat (dC w hs)), some (.dat (.str (dC w gs).shown)), some (.obj 1), x7, some (.dat (dC ((w : Int) + 3) (gs.map (mv ps)))), x9, none, x11, some (.dat (.tuple (bs.map .int))), some (.dat (.tuple ((runL gs bs).map .int))), some (.obj (T.length + 1 + 1)), x15, none, none, none, none]) ⟨x7, rfl, rfl⟩ ?_ ?_
  · rintro i d hd l S' ⟨x7, rfl, rfl⟩
    obtain ⟨hi, rfl⟩ := rngH_get hd
    have hi : i < w := by simpa using hi
    obtain ⟨r0, r1⟩ := rng i hi
    refine Holds.hide fun Q hQ => ?_
    rw [forB_ap, wg_nm]
    simp [d_law_b2, vi bs i hbl hi, idx_ob (get1 _), pi i hi, -List.getD_eq_getElem?_getD]
    rw [set_ob (getp _) (ix_nn r0 (by rw [List.length_map, lens, hwl]; exact r1)), setp]
    simp [-List.getD_eq_getElem?_getD]
    rw [hQ]
    exact ⟨_, by rw [laid bs wd i hbl hi, List.map_set], rfl⟩
  rintro l S' ⟨x7, rfl, rfl⟩
  rw [rngH_len, List.take_of_length_le (by rw [hp.len]; exact Nat.le_refl _), List.take_of_length_le (by rw [hbl]; exact Nat.le_refl _)]
  have cS2 : ClS (o :: Ob.lst (ps.map PyData.int) :: (T.map Ob.lst ++ [.lst ((lay ps bs wd).map .int)])) := by
    have := cR (T ++ [(lay ps bs wd).map .int])
    rw [List.map_append] at this
    exact dw_cls ho this
  have hll : (lay ps bs wd).length = w + 3 := by rw [lay_len, hwl]
  have t5 := run_circuit_eq (n := n + 3) (w := (w : Int) + 3) (gs := gs.map (mv ps)) (bs := lay ps bs wd) (fun g h => by
    obtain ⟨g', hg', rfl⟩ := List.mem_map.mp h
    rw [hll]
    exact (mv_good hp (hg g' hg')).toInG) cS2
  rw [run_lay hp hwl hbl hg, d1] at t5
  simp [bi_ob (getp _), t5, hsw]
  refine forL_idx (fun i l S' => ∃ x7, S' = o :: Ob.lst (ps.map PyData.int) :: (T.map Ob.lst ++ [.lst ((lay (ps.take i) ((runL gs bs).take i) (lay ps bs wd)).map .int)]) ∧ l = [some (.scr (ns.map .int)), some (.obj 0), some (.dat (.int w)), some (.dat (dC w gs)), some (.dat (dC w hs)), some (.dat (.str (dC w gs).shown)), some (.obj 1), x7, some (.dat (dC ((w : Int) + 3) (gs.map (mv ps)))), x9, none, x11, some (.dat (.tuple (bs.map .int))), some (.dat (.tuple ((runL gs bs).map .int))), some (.obj (T.length + 1 + 1)), some (.dat (.tuple ((lay ps (runL gs bs) wd).map .int))), none, none, none, none]) ⟨x7, rfl, rfl⟩ ?_ ?_
  · rintro i d hd l S' ⟨x7, rfl, rfl⟩
    obtain ⟨hi, rfl⟩ := rngH_get hd
    have hi : i < w := by simpa using hi
    obtain ⟨r0, r1⟩ := rng i hi
    refine Holds.hide fun Q hQ => ?_
    rw [forB_ap, wg_nm]
    simp [d_law_b1, vi (runL gs bs) i (by rw [hdl, hbl]) hi, idx_ob (get1 _), pi i hi, -List.getD_eq_getElem?_getD]
    rw [set_ob (getp _) (ix_nn r0 (by rw [List.length_map, lens, hll]; exact r1)), setp]
    simp [-List.getD_eq_getElem?_getD]
    rw [hQ]
    exact ⟨_, by rw [laid (runL gs bs) (lay ps bs wd) i (by rw [hdl, hbl]) hi, List.map_set], rfl⟩
  rintro l S' ⟨x7, rfl, rfl⟩
  rw [rngH_len, List.take_of_length_le (by rw [hp.len]; exact Nat.le_refl _), List.take_of_length_le (by rw [hdl, hbl]; exact Nat.le_refl _), lay_lay hp (by rw [hdl, hbl]) hbl hwl]
  simp [bi_ob (getp _), cmp_ne_self sh_tup]
  have := hQ o (T ++ [(lay ps (runL gs bs) wd).map .int]) x7 (some (.dat (.tuple (bs.map .int)))) (some (.dat (.tuple ((runL gs bs).map .int)))) (some (.obj (T.length + 1 + 1))) (some (.dat (.tuple ((lay ps (runL gs bs) wd).map .int)))) ho
  rw [List.map_append] at this
  exact this
end Lw
set_option Elab.async false
set_option linter.all false
set_option maxRecDepth 100000
set_option maxHeartbeats 4000000
/-! The law, whole. -/
namespace Lw
open PySem MP L2
theorem in_ob {S : Sto} {p : Nat} {ys : List MP.D} {d : MP.D} (h : S[p]? = some (.lst ys)) : cmpW S .isin (.dat d) (.obj p) = cmpW S .isin (.dat d) (.dat (.list ys)) := by
  show (match rdK S (.obj p) with | some kvs => inW S false (.dat d) kvs | none => cmpW0 S .isin (.dat d) (.obj p)) = cmpW0 S .isin (.dat d) (.dat (.list ys))
  rw [rdK_ob h]
  unfold cmpW0
  rw [rdC_obj, h]
  rfl
theorem len_G {gs : List Gate} {S : Sto} : biW S .len false [.dat (dGates gs)] = .ok (.dat (.int gs.length)) S := by
  have : ((gs.map dGate).length : Int) = gs.length := by rw [List.length_map]
  rw [← this]
  exact bi_lent (m := false)
theorem law_true : ∀ ns : List Int, ns.length ≤ 63 → ∃ S, callM Gc ft 60 2 [.scr (ns.map .int)] [] = .ok (.dat (.bool true)) S := by
  intro ns hl
  refine holds_ex1 (call_def ft_law rfl ?_)
  refine Holds.hide fun Q hQ => ?_
  show wpS _ _ _ _ _ _
  simp [d_law, start']
  refine (draw_ok (n := 58) hl).imp ?_
  rintro _ _ ⟨o, rfl, ho, rfl⟩
  simp
  refine (right_ok (n := 55) ho).imp ?_
  rintro _ _ ⟨o, rfl, ho, rfl⟩
  simp
  refine (take_ok (n := 58) (m := 7) ho (by decide) (by decide) cl_nil).imp ?_
  rintro _ _ ⟨t, o, rfl, ht0, ht1, ho, rfl⟩
  obtain ⟨w, hw⟩ : ∃ w : Nat, (1 : Int) + t = w := ⟨(1 + t).toNat, by omega⟩
  have hw0 : 0 < w := by omega
  have hw7 : w ≤ 7 := by omega
  simp [hw]
  refine (circuit_ok (n := 56) (w := w) (m := 15) ho hw0 (by omega) (by decide) cl_nil).imp ?_
  rintro _ _ ⟨gs, o, rfl, hgl, hg, ho, rfl⟩
  simp
  refine (circuit_ok (n := 56) (w := w) (m := 6) ho hw0 (by omega) (by decide) cl_nil).imp ?_
  rintro _ _ ⟨hs, o, rfl, hhl, hh, ho, rfl⟩
  have d1 : ∀ (a : Int) (G : List Gate), PyData.tuple [.int a, dGates G] = dC a G := fun _ _ => rfl
  rw [d1, d1]
  have cS := dw_cls ho cl_nil
  have f1 := faults_eq (n := 56) (m := w) (gs := gs) (by omega) (by omega) hg cS
  rw [d1] at f1
  have f2 := inverse_eq (n := 58) (w := w) (gs := gs) cS
  have f3 := then_eq (n := 58) (w := w) (m := w) (gs := gs) (hs := hs) (by omega) cS
  have sl : gs.length + hs.length ≤ sizeLine := small_len' (by omega)
  have e1 : PyData.tuple [.int (w : Int), .tuple ((gs.map dGate).reverse)] = dC w gs.reverse := by simp [dC, dGates]
  have e2 : PyData.tuple [.int (w : Int), .tuple (gs.map dGate ++ hs.map dGate)] = dC w (gs ++ hs) := by simp [dC, dGates]
  have rp : ∀ S : Sto, biW S .repr false [.dat (dC w gs)] = .ok (.dat (.str (dC w gs).shown)) S := fun S => reprC (by omega) (by omega) hg
  simp [rp, f1, cmp_ne_self sh_nil, f2]
  simp only [dGates]
  simp
  rw [e1, cmp_ne_self sh_C]
  simp [f3]
  simp only [dGates]
  simp [sl]
  rw [e2, cmp_ne_self sh_C]
  have hsw : smallI (w : Int) = true := small_i (by omega) (by omega)
  have c1 : ∀ vs : List MP.D, Cl [.lst vs] := fun vs => cl_snoc (R := []) cl_nil
  simp [hsw]
  refine forL_idx (fun i l S => ∃ (o : Ob) (ps : List Int) (x7 x11 : Option W), Dw o ∧ PlOk ps i (w + 3) ∧ S = [o, .lst (ps.map .int)] ∧ l = [some (.scr (ns.map .int)), some (.obj 0), some (.dat (.int w)), some (.dat (dC w gs)), some (.dat (dC w hs)), some (.dat (.str (dC w gs).shown)), some (.obj 1), x7, none, none, none, x11, none, none, none, none, none, none, none, none]) ⟨o, [], none, none, ho, ⟨rfl, List.nodup_nil, by simp⟩, rfl, rfl⟩ ?_ ?_
  · rintro i d hd l S ⟨o, ps, x7, x11, ho, hp, rfl, rfl⟩
    obtain ⟨hi, rfl⟩ := rngH_get hd
    have hi : i < w := by simpa using hi
    refine Holds.hide fun Q hQ => ?_
    rw [forB_ap, wg_nm]
    simp [d_law_b5]
    refine (take_ok (n := 58) (m := (w : Int) + 3) ho (by omega) (by omega) (c1 _)).imp ?_
    rintro _ _ ⟨r, o, rfl, hr0, hr1, ho, rfl⟩
    simp
    obtain ⟨j, hj, hjf⟩ := free_one (W := w + 3) (xs := ps) (r := r) (by rw [hp.len]; omega)
    rw [show ((w + 3 : Nat) : Int) = (w : Int) + 3 by omega] at hjf
    refine whlL_inv (fun k l S => ∃ r : Int, 0 ≤ r ∧ r < (w : Int) + 3 ∧ ¬ (r + k) % ((w : Int) + 3) ∈ ps ∧ S = [o, .lst (ps.map .int)] ∧ l = [some (.scr (ns.map .int)), some (.obj 0), some (.dat (.int w)), some (.dat (dC w gs)), some (.dat (dC w hs)), some (.dat (.str (dC w gs).shown)), some (.obj 1), some (.dat (.int i)), none, none, none, some (.dat (.int r)), none, none, none, none, none, none, none, none]) ?_ whlFuel j _ _ (by unfold whlFuel; omega) ⟨r, hr0, hr1, hjf, rfl, rfl⟩
    rintro k l S ⟨r, hr0, hr1, hjf, rfl, rfl⟩
    refine Holds.hide fun Q2 hQ2 => ?_
    show wpE _ _ _ _ _ _
    simp [d_law_t1]
    rw [in_ob (S := [o, .lst (ps.map .int)]) (p := 1) rfl]
    simp [any_ints, -List.any_map]
    rw [hQ2]
    refine ⟨_, rfl, fun h => ?_, fun h => ?_⟩
    · have h := of_decide_eq_true h
      have hk0 : k ≠ 0 := fun e => by
        subst e
        apply hjf
        rw [show r + ((0 : Nat) : Int) = r by omega, Int.emod_eq_of_lt hr0 hr1]
        exact h
      have hpos : (0 : Int) < (w : Int) + 3 := by omega
      show wpS _ _ _ _ _ _
      simp [d_law_b4, hpos]
      refine ⟨k - 1, by omega, _, Int.emod_nonneg _ (by omega), Int.emod_lt_of_pos _ hpos, ?_, rfl⟩
      rw [Int.emod_add_emod]
      rw [show r + 1 + ((k - 1 : Nat) : Int) = r + k by omega]
      exact hjf
    · have h := of_decide_eq_false h
      simp [recv_ob (S := [o, Ob.lst (ps.map .int)]) (p := 1) rfl]
      rw [app_ob (S := [o, Ob.lst (ps.map .int)]) (p := 1) rfl (small_lt (by rw [List.length_map, hp.len]; omega))]
      simp
      rw [hQ]
      refine ⟨o, ps ++ [r], _, _, ho, ⟨by simp [hp.len], ?_, fun p hp' => ?_⟩, by simp, rfl⟩
      · rw [List.nodup_append]
        exact ⟨hp.nd, by simp, fun a ha b hb => by simp at hb; subst hb; rintro rfl; exact h ha⟩
      · rcases List.mem_append.mp hp' with hp' | hp'
        · exact hp.lt p hp'
        · rw [List.mem_singleton.mp hp']; exact ⟨hr0, by omega⟩
  rintro l S ⟨o, ps, x7, x11, ho, hp, rfl, rfl⟩
  rw [rngH_len] at hp
  have cS := dw_cls ho (c1 (ps.map .int))
  have o1 := onwires_eq (n := 58) (w := w) (W := (w : Int) + 3) (gs := gs) (ps := ps) (k := w) (by omega) hp.len hg cS
  have hmg : ∀ g, g ∈ gs.map (mv ps) → GoodG ((w : Int) + 3) g := fun g h => by
    obtain ⟨g', hg', rfl⟩ := List.mem_map.mp h
    exact mv_good hp (hg g' hg')
  have f4 := faults_eq (n := 56) (m := (w : Int) + 3) (gs := gs.map (mv ps)) (by omega) (by rw [List.length_map]; omega) hmg cS
  rw [d1] at f4
  have s4 : smallI 4 = true := small_i (by decide) (by decide)
  simp [bi_ob (S := [o, Ob.lst (ps.map .int)]) (p := 1) rfl, o1, f4, cmp_ne_self sh_nil, len_G]
  simp [s4]
  refine forL_inv (fun l S => ∃ (o : Ob) (T : List (List MP.D)) (x7 x9 x12 x13 x14 x15 : Option W), Dw o ∧ S = (o :: Ob.lst (ps.map PyData.int) :: T.map Ob.lst) ∧ l = locB ns w gs hs ps x7 x9 x11 x12 x13 x14 x15) ⟨o, [], x7, none, none, none, none, none, ho, rfl, rfl⟩ ?_ ?_
  · rintro d hd l S ⟨o, T, x7, x9, x12, x13, x14, x15, ho, rfl, rfl⟩
    refine Holds.hide fun Q hQ => ?_
    rw [forB_ap, wg_nm]
    refine turn_ok (n := 55) (x9 := some (.dat d)) (by omega) hp hg ho fun o T x7 x12 x13 x14 x15 ho => ?_
    rw [hQ]
    exact ⟨o, T, x7, _, x12, x13, x14, x15, ho, rfl, rfl⟩
  rintro l S ⟨o, T, x7, x9, x12, x13, x14, x15, ho, rfl, rfl⟩
  have cS : ClS (o :: Ob.lst (ps.map PyData.int) :: T.map Ob.lst) := dw_cls ho (cl_lsts (ps.map .int :: T))
  have q1 := counts_eq (n := 58) (w := w) (gs := gs) (by omega) cS
  have q2 := depth_eq (n := 57) (w := w) (gs := gs) (by omega) (by omega) hg cS
  have q3 := layers_eq (n := 58) (w := w) (gs := gs) (by omega) hg cS
  have q4 := touched_eq (n := 58) (w := w) (gs := gs) (by omega) cS
  simp [locB]
  have seqG : ∀ S : Sto, seqW (.dat (dGates gs)) S = .ok (gs.map dGate) S := fun S => rfl
  have szl : (szs gs).length = gs.length := by unfold szs; rw [List.length_map]
  have usz : (sortU (szs gs)).length ≤ 1000 := by
    have hh : ∀ ns : List Int, (sortU ns).length ≤ ns.length := fun ns => by
      induction ns with
      | nil => exact Nat.le_refl _
      | cons x r ih =>
        have hi : ∀ (k : Int) (l : List Int), (insU k l).length ≤ l.length + 1 := fun k l => by
          induction l with
          | nil => exact Nat.le_refl _
          | cons y l ih2 =>
            unfold insU
            split
            · simp
            · split
              · simp
              · simp only [List.length_cons]; omega
        have := hi x (sortU r)
        show (insU x (sortU r)).length ≤ r.length + 1
        omega
    have := hh (szs gs)
    omega
  rw [seqG]
  simp
  refine forC_mapM dGate (fun g => .int g.2.length) (small_len (by omega)) ?_ ?_
  · intro g hg'
    rw [comp_ap, dGate, wg_tup]
    refine ⟨rfl, ?_⟩
    simp [wipeL]
  have e3 : (gs.map fun g => PyData.int g.2.length) = (szs gs).map PyData.int := by
    unfold szs
    rw [List.map_map]
    rfl
  rw [e3]
  simp [q1, sset_d (ns := szs gs) (by omega)]
  refine forC_mapM PyData.int (fun k => dPair (k, ((szs gs).count k : Nat))) (small_len usz) ?_ ?_
  · intro k hk
    rw [comp_ap, wg_nm]
    have rc : ∀ (S : Sto) (xs : List MP.D), recvW S (.dat (.list xs)) = .ok (.dat (.list xs)) S := fun _ _ => rfl
    simp [wipeL, rc, cnt_d, dPair]
  have e4 : PyData.list ((sortU (szs gs)).map fun k => dPair (k, ((szs gs).count k : Nat))) = cntD (szs gs) := rfl
  simp
  rw [e4, cmp_ne_self sh_cnt]
  simp [q2, q3, q4]
  rw [seqG]
  simp
  refine targets (by omega) (by simp) ?_
  have tl : (gs.map (·.1)).length < 60 := by rw [List.length_map]; omega
  simp only [kmk_ap, mk_f, holds_ok]
  simp [sset_d tl, -List.map_map, rp, cmp_eq_self sh_tup]
  rw [hQ, kdone_ret]
  have lv : ∀ d : MP.D, leave 0 (.dat d) (o :: Ob.lst (ps.map PyData.int) :: T.map Ob.lst) = .ok (.dat d) [] := fun d => leave_more (S := []) (T := o :: Ob.lst (ps.map PyData.int) :: T.map Ob.lst) rfl (fun _ _ => rfl)
  rw [show ([] : Sto).length = 0 from rfl, lv]
  simp
end Lw
set_option Elab.async false
set_option linter.all false
set_option maxRecDepth 100000
set_option maxHeartbeats 4000000
namespace Lw
open PySem PySem.Spec L2 MP
def tp (i : Nat) : Stmt := PySem.Challenge.pw_backrun_k40_circuits_run_and_join.main.body.getD i (.Pass ⟨0, 0, 0, 0⟩)
def D_Ldraw : Df := ⟨"_law_draw", "_law_draw", 0, "", tp 13, ["_law_script"], ["_law_script", "_law_seed", "_law_cell"], d_Ldraw⟩
def D_Ltake : Df := ⟨"_law_take", "_law_take", 0, "", tp 14, ["_law_draw_here", "_law_many"], ["_law_draw_here", "_law_many", "_law_found"], d_Ltake⟩
def D_law : Df := ⟨"law", "law", 0, "", tp 24, ["_law_script"], ["_law_script", "_law_draw_here", "_law_wires", "_law_circuit_here", "_law_other", "_law_before", "_law_places", "_law_k", "_law_moved", "_law_turn", "_law_sizes", "_law_place", "_law_bits_here", "_law_due", "_law_wide", "_law_told", "_law_target", "_law_controls", "_law_size", "_law_gate_here"], d_law⟩
def D_inverse_circuit : Df := ⟨"inverse_circuit", "inverse_circuit", 0, "", tp 6, ["circuit"], ["circuit"], d_inverse_circuit⟩
def D_run_circuit : Df := ⟨"run_circuit", "run_circuit", 0, "", tp 5, ["circuit", "bits"], ["circuit", "bits", "found", "target", "controls", "wire", "value"], d_run_circuit⟩
def D_touched : Df := ⟨"touched", "touched", 0, "", tp 11, ["circuit"], ["circuit", "gate"], d_touched⟩
def D_Llayers : Df := ⟨"_law_layers", "_law_layers", 0, "", tp 23, ["_law_circuit_here"], ["_law_circuit_here", "_law_layers_here", "_law_target", "_law_controls", "_law_own", "_law_at", "_law_wire", "_law_value_here"], d_Llayers⟩
def D_depth : Df := ⟨"depth", "depth", 0, "", tp 10, ["circuit"], ["circuit", "last", "gate", "layer", "wire"], d_depth⟩
def D_wires_of : Df := ⟨"wires_of", "wires_of", 0, "", tp 3, ["gate"], ["gate", "wire", "value"], d_wires_of⟩
def D_counts : Df := ⟨"counts", "counts", 0, "", tp 9, ["circuit"], ["circuit", "found", "target", "controls", "number"], d_counts⟩
def D_circuit_faults : Df := ⟨"circuit_faults", "circuit_faults", 0, "", tp 4, ["value"], ["value", "found", "k"], d_circuit_faults⟩
def D_is_gate : Df := ⟨"is_gate", "is_gate", 0, "", tp 2, ["value"], ["value", "before", "control"], d_is_gate⟩
def D_is_number : Df := ⟨"is_number", "is_number", 0, "", tp 1, ["value"], ["value"], d_is_number⟩
def D_Lturned : Df := ⟨"_law_turned", "_law_turned", 0, "", tp 17, ["_law_gates", "_law_bits_here"], ["_law_gates", "_law_bits_here", "_law_target", "_law_controls", "_law_wire", "_law_value_here"], d_Lturned⟩
def D_then : Df := ⟨"then", "then", 0, "", tp 7, ["first", "second"], ["first", "second"], d_then⟩
def D_Lfaults_right : Df := ⟨"_law_faults_right", "_law_faults_right", 0, "", tp 22, ["_law_draw_here"], ["_law_draw_here", "_law_gates", "_law_due", "_law_k", "_law_value_here", "_law_gate_here", "_law_code"], d_Lfaults_right⟩
def D_Lgate_wrong : Df := ⟨"_law_gate_wrong", "_law_gate_wrong", 0, "", tp 21, ["_law_draw_here"], ["_law_draw_here", "_law_rows"], d_Lgate_wrong⟩
def D_Lgate : Df := ⟨"_law_gate", "_law_gate", 0, "", tp 15, ["_law_draw_here", "_law_wires", "_law_most"], ["_law_draw_here", "_law_wires", "_law_most", "_law_target", "_law_controls", "_law_wire"], d_Lgate⟩
def D_on_wires : Df := ⟨"on_wires", "on_wires", 0, "", tp 8, ["circuit", "wires", "places"], ["circuit", "wires", "places", "gates", "target", "controls", "moved", "wire", "value"], d_on_wires⟩
def D_Lcircuit : Df := ⟨"_law_circuit", "_law_circuit", 0, "", tp 16, ["_law_draw_here", "_law_wires", "_law_many"], ["_law_draw_here", "_law_wires", "_law_many", "_law_k"], d_Lcircuit⟩
def cfL : List (Str × Str) := []
def cmL : List (Str × Str × Nat) := []
def tb : List Df := [D_Ldraw, D_Ltake, D_law, D_inverse_circuit, D_run_circuit, D_touched, D_Llayers, D_depth, D_wires_of, D_counts, D_circuit_faults, D_is_gate, D_is_number, D_Lturned, D_then, D_Lfaults_right, D_Lgate_wrong, D_Lgate, D_on_wires, D_Lcircuit]
def gl (i : Nat) : Option Str := ([] : List Str)[i]?
def blt : List Str := ["abs", "int", "len", "repr", "tuple", "sorted", "set", "range", "reversed", "all", "list", "max", "isinstance", "bool"]
theorem fns_tb : fnsOf tb = ft := by
  funext i
  show ((tb)[i]?).map (·.fn) = _
  rw [← List.getElem?_map]
  rfl
theorem nm_all : ∀ i x, Gc (fnAt + i) = some (.dat (.str x)) → fvsOf tb i = some x := by
  intro i x h
  have e : Gc (fnAt + i) = ((fnNames[i]?).bind id).map fun x => .dat (.str x) := by
    unfold Gc
    rw [if_neg (by omega), Nat.add_sub_cancel_left]
  rw [e] at h
  have e2 : fvsOf tb i = (fnNames[i]?).bind id := by
    have e3 : (tb.map fun d => if d.kd = 0 then some d.nm else none) = fnNames := rfl
    rw [← e3, List.getElem?_map]
    unfold fvsOf
    cases tb[i]? <;> rfl
  rw [e2]
  cases q : (fnNames[i]?).bind id with
  | none => rw [q] at h; cases h
  | some y => rw [q] at h; cases h; rfl
theorem cm_all : cmL.all (cmOk tb) = true := by decide +kernel
def ckd (d : Df) : Bool := Df.ok gl (nmsOf tb) (kwsOf tb) blt cfL cmL d
theorem ck_Ldraw : Df.ok gl (nmsOf tb) (kwsOf tb) blt cfL cmL D_Ldraw = true := by decide +kernel
theorem ck_Ltake : Df.ok gl (nmsOf tb) (kwsOf tb) blt cfL cmL D_Ltake = true := by decide +kernel
theorem ck_law : Df.ok gl (nmsOf tb) (kwsOf tb) blt cfL cmL D_law = true := by decide +kernel
theorem ck_inverse_circuit : Df.ok gl (nmsOf tb) (kwsOf tb) blt cfL cmL D_inverse_circuit = true := by decide +kernel
theorem ck_run_circuit : Df.ok gl (nmsOf tb) (kwsOf tb) blt cfL cmL D_run_circuit = true := by decide +kernel
theorem ck_touched : Df.ok gl (nmsOf tb) (kwsOf tb) blt cfL cmL D_touched = true := by decide +kernel
theorem ck_Llayers : Df.ok gl (nmsOf tb) (kwsOf tb) blt cfL cmL D_Llayers = true := by decide +kernel
theorem ck_depth : Df.ok gl (nmsOf tb) (kwsOf tb) blt cfL cmL D_depth = true := by decide +kernel
theorem ck_wires_of : Df.ok gl (nmsOf tb) (kwsOf tb) blt cfL cmL D_wires_of = true := by decide +kernel
theorem ck_counts : Df.ok gl (nmsOf tb) (kwsOf tb) blt cfL cmL D_counts = true := by decide +kernel
theorem ck_circuit_faults : Df.ok gl (nmsOf tb) (kwsOf tb) blt cfL cmL D_circuit_faults = true := by decide +kernel
theorem ck_is_gate : Df.ok gl (nmsOf tb) (kwsOf tb) blt cfL cmL D_is_gate = true := by decide +kernel
theorem ck_is_number : Df.ok gl (nmsOf tb) (kwsOf tb) blt cfL cmL D_is_number = true := by decide +kernel
theorem ck_Lturned : Df.ok gl (nmsOf tb) (kwsOf tb) blt cfL cmL D_Lturned = true := by decide +kernel
theorem ck_then : Df.ok gl (nmsOf tb) (kwsOf tb) blt cfL cmL D_then = true := by decide +kernel
theorem ck_Lfaults_right : Df.ok gl (nmsOf tb) (kwsOf tb) blt cfL cmL D_Lfaults_right = true := by decide +kernel
theorem ck_Lgate_wrong : Df.ok gl (nmsOf tb) (kwsOf tb) blt cfL cmL D_Lgate_wrong = true := by decide +kernel
theorem ck_Lgate : Df.ok gl (nmsOf tb) (kwsOf tb) blt cfL cmL D_Lgate = true := by decide +kernel
theorem ck_on_wires : Df.ok gl (nmsOf tb) (kwsOf tb) blt cfL cmL D_on_wires = true := by decide +kernel
theorem ck_Lcircuit : Df.ok gl (nmsOf tb) (kwsOf tb) blt cfL cmL D_Lcircuit = true := by decide +kernel
theorem ck_all : tb.all (Df.ok gl (nmsOf tb) (kwsOf tb) blt cfL cmL) = true := by
  show ([D_Ldraw, D_Ltake, D_law, D_inverse_circuit, D_run_circuit, D_touched, D_Llayers, D_depth, D_wires_of, D_counts, D_circuit_faults, D_is_gate, D_is_number, D_Lturned, D_then, D_Lfaults_right, D_Lgate_wrong, D_Lgate, D_on_wires, D_Lcircuit].all _) = true
  simp only [List.all_cons, List.all_nil, Bool.and_true, ck_Ldraw, ck_Ltake, ck_law, ck_inverse_circuit, ck_run_circuit, ck_touched, ck_Llayers, ck_depth, ck_wires_of, ck_counts, ck_circuit_faults, ck_is_gate, ck_is_number, ck_Lturned, ck_then, ck_Lfaults_right, ck_Lgate_wrong, ck_Lgate, ck_on_wires, ck_Lcircuit]
theorem all_mk {K : PySem.W.Frag} {w : World} {h : Heap} {mg : Str → Option Value} (X : K.In h) (G : h.Ns mainGlobals mg)
  {f0 f1 f2 f3 f4 f5 f6 f7 f8 f9 f10 f11 f12 f13 f14 f15 f16 f17 f18 f19 : Addr} {od0 an0 od1 an1 od2 an2 od3 an3 od4 an4 od5 an5 od6 an6 od7 an7 od8 an8 od9 an9 od10 an10 od11 an11 od12 an12 od13 an13 od14 an14 od15 an15 od16 an16 od17 an17 od18 an18 od19 an19 : Option Addr} {sl0 sl1 sl2 sl3 sl4 sl5 sl6 sl7 sl8 sl9 sl10 sl11 sl12 sl13 sl14 sl15 sl16 sl17 sl18 sl19 : Array (Option Value)} {oc0 kV0 dc0 pm0 cd0 ct0 oc1 kV1 dc1 pm1 cd1 ct1 oc2 kV2 dc2 pm2 cd2 ct2 oc3 kV3 dc3 pm3 cd3 ct3 oc4 kV4 dc4 pm4 cd4 ct4 oc5 kV5 dc5 pm5 cd5 ct5 oc6 kV6 dc6 pm6 cd6 ct6 oc7 kV7 dc7 pm7 cd7 ct7 oc8 kV8 dc8 pm8 cd8 ct8 oc9 kV9 dc9 pm9 cd9 ct9 oc10 kV10 dc10 pm10 cd10 ct10 oc11 kV11 dc11 pm11 cd11 ct11 oc12 kV12 dc12 pm12 cd12 ct12 oc13 kV13 dc13 pm13 cd13 ct13 oc14 kV14 dc14 pm14 cd14 ct14 oc15 kV15 dc15 pm15 cd15 ct15 oc16 kV16 dc16 pm16 cd16 ct16 oc17 kV17 dc17 pm17 cd17 ct17 oc18 kV18 dc18 pm18 cd18 ct18 oc19 kV19 dc19 pm19 cd19 ct19 : Value}
  (a0 : PySem.W.nsIn K mainGlobals "_law_draw" = some (some (.ref f0))) (l0 : K.lookup f0 = some ⟨oc0, od0, .func (PySem.W.fnOf "_law_draw" "_law_draw" (defArgs (tp 13)) (defBody (tp 13)) (defScope (tp 13)) .none kV0 dc0 pm0 an0 cd0 ct0), sl0⟩) (c0 : PySem.W.codeIn K cd0 "_law_draw" = true) (k0 : PySem.W.keepIn K (.ref f0) = true)
  (a1 : PySem.W.nsIn K mainGlobals "_law_take" = some (some (.ref f1))) (l1 : K.lookup f1 = some ⟨oc1, od1, .func (PySem.W.fnOf "_law_take" "_law_take" (defArgs (tp 14)) (defBody (tp 14)) (defScope (tp 14)) .none kV1 dc1 pm1 an1 cd1 ct1), sl1⟩) (c1 : PySem.W.codeIn K cd1 "_law_take" = true) (k1 : PySem.W.keepIn K (.ref f1) = true)
  (a2 : PySem.W.nsIn K mainGlobals "law" = some (some (.ref f2))) (l2 : K.lookup f2 = some ⟨oc2, od2, .func (PySem.W.fnOf "law" "law" (defArgs (tp 24)) (defBody (tp 24)) (defScope (tp 24)) .none kV2 dc2 pm2 an2 cd2 ct2), sl2⟩) (c2 : PySem.W.codeIn K cd2 "law" = true) (k2 : PySem.W.keepIn K (.ref f2) = true)
  (a3 : PySem.W.nsIn K mainGlobals "inverse_circuit" = some (some (.ref f3))) (l3 : K.lookup f3 = some ⟨oc3, od3, .func (PySem.W.fnOf "inverse_circuit" "inverse_circuit" (defArgs (tp 6)) (defBody (tp 6)) (defScope (tp 6)) .none kV3 dc3 pm3 an3 cd3 ct3), sl3⟩) (c3 : PySem.W.codeIn K cd3 "inverse_circuit" = true) (k3 : PySem.W.keepIn K (.ref f3) = true)
  (a4 : PySem.W.nsIn K mainGlobals "run_circuit" = some (some (.ref f4))) (l4 : K.lookup f4 = some ⟨oc4, od4, .func (PySem.W.fnOf "run_circuit" "run_circuit" (defArgs (tp 5)) (defBody (tp 5)) (defScope (tp 5)) .none kV4 dc4 pm4 an4 cd4 ct4), sl4⟩) (c4 : PySem.W.codeIn K cd4 "run_circuit" = true) (k4 : PySem.W.keepIn K (.ref f4) = true)
  (a5 : PySem.W.nsIn K mainGlobals "touched" = some (some (.ref f5))) (l5 : K.lookup f5 = some ⟨oc5, od5, .func (PySem.W.fnOf "touched" "touched" (defArgs (tp 11)) (defBody (tp 11)) (defScope (tp 11)) .none kV5 dc5 pm5 an5 cd5 ct5), sl5⟩) (c5 : PySem.W.codeIn K cd5 "touched" = true) (k5 : PySem.W.keepIn K (.ref f5) = true)
  (a6 : PySem.W.nsIn K mainGlobals "_law_layers" = some (some (.ref f6))) (l6 : K.lookup f6 = some ⟨oc6, od6, .func (PySem.W.fnOf "_law_layers" "_law_layers" (defArgs (tp 23)) (defBody (tp 23)) (defScope (tp 23)) .none kV6 dc6 pm6 an6 cd6 ct6), sl6⟩) (c6 : PySem.W.codeIn K cd6 "_law_layers" = true) (k6 : PySem.W.keepIn K (.ref f6) = true)
  (a7 : PySem.W.nsIn K mainGlobals "depth" = some (some (.ref f7))) (l7 : K.lookup f7 = some ⟨oc7, od7, .func (PySem.W.fnOf "depth" "depth" (defArgs (tp 10)) (defBody (tp 10)) (defScope (tp 10)) .none kV7 dc7 pm7 an7 cd7 ct7), sl7⟩) (c7 : PySem.W.codeIn K cd7 "depth" = true) (k7 : PySem.W.keepIn K (.ref f7) = true)
  (a8 : PySem.W.nsIn K mainGlobals "wires_of" = some (some (.ref f8))) (l8 : K.lookup f8 = some ⟨oc8, od8, .func (PySem.W.fnOf "wires_of" "wires_of" (defArgs (tp 3)) (defBody (tp 3)) (defScope (tp 3)) .none kV8 dc8 pm8 an8 cd8 ct8), sl8⟩) (c8 : PySem.W.codeIn K cd8 "wires_of" = true) (k8 : PySem.W.keepIn K (.ref f8) = true)
  (a9 : PySem.W.nsIn K mainGlobals "counts" = some (some (.ref f9))) (l9 : K.lookup f9 = some ⟨oc9, od9, .func (PySem.W.fnOf "counts" "counts" (defArgs (tp 9)) (defBody (tp 9)) (defScope (tp 9)) .none kV9 dc9 pm9 an9 cd9 ct9), sl9⟩) (c9 : PySem.W.codeIn K cd9 "counts" = true) (k9 : PySem.W.keepIn K (.ref f9) = true)
  (a10 : PySem.W.nsIn K mainGlobals "circuit_faults" = some (some (.ref f10))) (l10 : K.lookup f10 = some ⟨oc10, od10, .func (PySem.W.fnOf "circuit_faults" "circuit_faults" (defArgs (tp 4)) (defBody (tp 4)) (defScope (tp 4)) .none kV10 dc10 pm10 an10 cd10 ct10), sl10⟩) (c10 : PySem.W.codeIn K cd10 "circuit_faults" = true) (k10 : PySem.W.keepIn K (.ref f10) = true)
  (a11 : PySem.W.nsIn K mainGlobals "is_gate" = some (some (.ref f11))) (l11 : K.lookup f11 = some ⟨oc11, od11, .func (PySem.W.fnOf "is_gate" "is_gate" (defArgs (tp 2)) (defBody (tp 2)) (defScope (tp 2)) .none kV11 dc11 pm11 an11 cd11 ct11), sl11⟩) (c11 : PySem.W.codeIn K cd11 "is_gate" = true) (k11 : PySem.W.keepIn K (.ref f11) = true)
  (a12 : PySem.W.nsIn K mainGlobals "is_number" = some (some (.ref f12))) (l12 : K.lookup f12 = some ⟨oc12, od12, .func (PySem.W.fnOf "is_number" "is_number" (defArgs (tp 1)) (defBody (tp 1)) (defScope (tp 1)) .none kV12 dc12 pm12 an12 cd12 ct12), sl12⟩) (c12 : PySem.W.codeIn K cd12 "is_number" = true) (k12 : PySem.W.keepIn K (.ref f12) = true)
  (a13 : PySem.W.nsIn K mainGlobals "_law_turned" = some (some (.ref f13))) (l13 : K.lookup f13 = some ⟨oc13, od13, .func (PySem.W.fnOf "_law_turned" "_law_turned" (defArgs (tp 17)) (defBody (tp 17)) (defScope (tp 17)) .none kV13 dc13 pm13 an13 cd13 ct13), sl13⟩) (c13 : PySem.W.codeIn K cd13 "_law_turned" = true) (k13 : PySem.W.keepIn K (.ref f13) = true)
  (a14 : PySem.W.nsIn K mainGlobals "then" = some (some (.ref f14))) (l14 : K.lookup f14 = some ⟨oc14, od14, .func (PySem.W.fnOf "then" "then" (defArgs (tp 7)) (defBody (tp 7)) (defScope (tp 7)) .none kV14 dc14 pm14 an14 cd14 ct14), sl14⟩) (c14 : PySem.W.codeIn K cd14 "then" = true) (k14 : PySem.W.keepIn K (.ref f14) = true)
  (a15 : PySem.W.nsIn K mainGlobals "_law_faults_right" = some (some (.ref f15))) (l15 : K.lookup f15 = some ⟨oc15, od15, .func (PySem.W.fnOf "_law_faults_right" "_law_faults_right" (defArgs (tp 22)) (defBody (tp 22)) (defScope (tp 22)) .none kV15 dc15 pm15 an15 cd15 ct15), sl15⟩) (c15 : PySem.W.codeIn K cd15 "_law_faults_right" = true) (k15 : PySem.W.keepIn K (.ref f15) = true)
  (a16 : PySem.W.nsIn K mainGlobals "_law_gate_wrong" = some (some (.ref f16))) (l16 : K.lookup f16 = some ⟨oc16, od16, .func (PySem.W.fnOf "_law_gate_wrong" "_law_gate_wrong" (defArgs (tp 21)) (defBody (tp 21)) (defScope (tp 21)) .none kV16 dc16 pm16 an16 cd16 ct16), sl16⟩) (c16 : PySem.W.codeIn K cd16 "_law_gate_wrong" = true) (k16 : PySem.W.keepIn K (.ref f16) = true)
  (a17 : PySem.W.nsIn K mainGlobals "_law_gate" = some (some (.ref f17))) (l17 : K.lookup f17 = some ⟨oc17, od17, .func (PySem.W.fnOf "_law_gate" "_law_gate" (defArgs (tp 15)) (defBody (tp 15)) (defScope (tp 15)) .none kV17 dc17 pm17 an17 cd17 ct17), sl17⟩) (c17 : PySem.W.codeIn K cd17 "_law_gate" = true) (k17 : PySem.W.keepIn K (.ref f17) = true)
  (a18 : PySem.W.nsIn K mainGlobals "on_wires" = some (some (.ref f18))) (l18 : K.lookup f18 = some ⟨oc18, od18, .func (PySem.W.fnOf "on_wires" "on_wires" (defArgs (tp 8)) (defBody (tp 8)) (defScope (tp 8)) .none kV18 dc18 pm18 an18 cd18 ct18), sl18⟩) (c18 : PySem.W.codeIn K cd18 "on_wires" = true) (k18 : PySem.W.keepIn K (.ref f18) = true)
  (a19 : PySem.W.nsIn K mainGlobals "_law_circuit" = some (some (.ref f19))) (l19 : K.lookup f19 = some ⟨oc19, od19, .func (PySem.W.fnOf "_law_circuit" "_law_circuit" (defArgs (tp 16)) (defBody (tp 16)) (defScope (tp 16)) .none kV19 dc19 pm19 an19 cd19 ct19), sl19⟩) (c19 : PySem.W.codeIn K cd19 "_law_circuit" = true) (k19 : PySem.W.keepIn K (.ref f19) = true)
  (b0 : PySem.W.nsIn K mainGlobals "abs" = some none)
  (b1 : PySem.W.nsIn K mainGlobals "int" = some none)
  (b2 : PySem.W.nsIn K mainGlobals "len" = some none)
  (b3 : PySem.W.nsIn K mainGlobals "repr" = some none)
  (b4 : PySem.W.nsIn K mainGlobals "tuple" = some none)
  (b5 : PySem.W.nsIn K mainGlobals "sorted" = some none)
  (b6 : PySem.W.nsIn K mainGlobals "set" = some none)
  (b7 : PySem.W.nsIn K mainGlobals "range" = some none)
  (b8 : PySem.W.nsIn K mainGlobals "reversed" = some none)
  (b9 : PySem.W.nsIn K mainGlobals "all" = some none)
  (b10 : PySem.W.nsIn K mainGlobals "list" = some none)
  (b11 : PySem.W.nsIn K mainGlobals "max" = some none)
  (b12 : PySem.W.nsIn K mainGlobals "isinstance" = some none)
  (b13 : PySem.W.nsIn K mainGlobals "bool" = some none) :
  (∀ g x w', gl g = some x → Gc g = some w' → ∃ v u, mg x = some u ∧ RelV v u ∧ ∀ H μ, RepW K H μ w' v) ∧ (∀ g x kvs, gl g = some x → Gc g = some (.cdi kvs) → ∃ d es m, mg x = some (.ref d) ∧ KDict K w d es m ∧ ∀ z, CdAt K d kvs z) ∧ (∀ x, x ∈ blt → mg x = none) ∧ (∀ d, d ∈ tb → There K mg d) ∧ (∀ x f, (x, f) ∈ cfL → ∃ Cd, PySem.W.nsIn K mainGlobals x = some (some (.ref Cd)) ∧ Cls K Cd ∧ NoAttr K Cd f) := by
  refine ⟨fun g x w' e1 e2 => ?_, fun g x kvs e1 e2 => ?_, fun x hx => ?_, fun d hd => ?_, fun x f hx => ?_⟩
  · cases e1
  · cases e1
  · simp only [blt, List.mem_cons, List.not_mem_nil, or_false] at hx
    rcases hx with rfl | rfl | rfl | rfl | rfl | rfl | rfl | rfl | rfl | rfl | rfl | rfl | rfl | rfl
    · exact PySem.W.mg_none_of X G b0
    · exact PySem.W.mg_none_of X G b1
    · exact PySem.W.mg_none_of X G b2
    · exact PySem.W.mg_none_of X G b3
    · exact PySem.W.mg_none_of X G b4
    · exact PySem.W.mg_none_of X G b5
    · exact PySem.W.mg_none_of X G b6
    · exact PySem.W.mg_none_of X G b7
    · exact PySem.W.mg_none_of X G b8
    · exact PySem.W.mg_none_of X G b9
    · exact PySem.W.mg_none_of X G b10
    · exact PySem.W.mg_none_of X G b11
    · exact PySem.W.mg_none_of X G b12
    · exact PySem.W.mg_none_of X G b13
  · simp only [tb, List.mem_cons, List.not_mem_nil, or_false] at hd
    rcases hd with rfl | rfl | rfl | rfl | rfl | rfl | rfl | rfl | rfl | rfl | rfl | rfl | rfl | rfl | rfl | rfl | rfl | rfl | rfl | rfl
    · exact there_mk (d := D_Ldraw) rfl X G a0 l0 c0 k0 fun _ _ _ _ _ _ us hl => match us, hl with | [_], _ => rfl
    · exact there_mk (d := D_Ltake) rfl X G a1 l1 c1 k1 fun _ _ _ _ _ _ us hl => match us, hl with | [_, _], _ => rfl
    · exact there_mk (d := D_law) rfl X G a2 l2 c2 k2 fun _ _ _ _ _ _ us hl => match us, hl with | [_], _ => rfl
    · exact there_mk (d := D_inverse_circuit) rfl X G a3 l3 c3 k3 fun _ _ _ _ _ _ us hl => match us, hl with | [_], _ => rfl
    · exact there_mk (d := D_run_circuit) rfl X G a4 l4 c4 k4 fun _ _ _ _ _ _ us hl => match us, hl with | [_, _], _ => rfl
    · exact there_mk (d := D_touched) rfl X G a5 l5 c5 k5 fun _ _ _ _ _ _ us hl => match us, hl with | [_], _ => rfl
    · exact there_mk (d := D_Llayers) rfl X G a6 l6 c6 k6 fun _ _ _ _ _ _ us hl => match us, hl with | [_], _ => rfl
    · exact there_mk (d := D_depth) rfl X G a7 l7 c7 k7 fun _ _ _ _ _ _ us hl => match us, hl with | [_], _ => rfl
    · exact there_mk (d := D_wires_of) rfl X G a8 l8 c8 k8 fun _ _ _ _ _ _ us hl => match us, hl with | [_], _ => rfl
    · exact there_mk (d := D_counts) rfl X G a9 l9 c9 k9 fun _ _ _ _ _ _ us hl => match us, hl with | [_], _ => rfl
    · exact there_mk (d := D_circuit_faults) rfl X G a10 l10 c10 k10 fun _ _ _ _ _ _ us hl => match us, hl with | [_], _ => rfl
    · exact there_mk (d := D_is_gate) rfl X G a11 l11 c11 k11 fun _ _ _ _ _ _ us hl => match us, hl with | [_], _ => rfl
    · exact there_mk (d := D_is_number) rfl X G a12 l12 c12 k12 fun _ _ _ _ _ _ us hl => match us, hl with | [_], _ => rfl
    · exact there_mk (d := D_Lturned) rfl X G a13 l13 c13 k13 fun _ _ _ _ _ _ us hl => match us, hl with | [_, _], _ => rfl
    · exact there_mk (d := D_then) rfl X G a14 l14 c14 k14 fun _ _ _ _ _ _ us hl => match us, hl with | [_, _], _ => rfl
    · exact there_mk (d := D_Lfaults_right) rfl X G a15 l15 c15 k15 fun _ _ _ _ _ _ us hl => match us, hl with | [_], _ => rfl
    · exact there_mk (d := D_Lgate_wrong) rfl X G a16 l16 c16 k16 fun _ _ _ _ _ _ us hl => match us, hl with | [_], _ => rfl
    · exact there_mk (d := D_Lgate) rfl X G a17 l17 c17 k17 fun _ _ _ _ _ _ us hl => match us, hl with | [_, _, _], _ => rfl
    · exact there_mk (d := D_on_wires) rfl X G a18 l18 c18 k18 fun _ _ _ _ _ _ us hl => match us, hl with | [_, _, _], _ => rfl
    · exact there_mk (d := D_Lcircuit) rfl X G a19 l19 c19 k19 fun _ _ _ _ _ _ us hl => match us, hl with | [_, _, _], _ => rfl
  · cases hx
end Lw
open PySem PySem.W PyProof.Rows
set_option maxRecDepth 100000 in
set_option maxHeartbeats 0 in
theorem PySem.Challenge.cw_backrun_k40_circuits_run_and_join_holds : PySem.Challenge.rw_backrun_k40_circuits_run_and_join.Holds := by
  w_on; o_law; k_head; (case hw => w_witness2)
  k_fill
  refine MP.walk_mp (l := PySem.Challenge.rw_backrun_k40_circuits_run_and_join) (k := 60) (i := 2) (dl := Lw.D_law) (x := "_law_script") (tb := Lw.tb) (G := Lw.Gc) (gl := Lw.gl) (blt := Lw.blt) (cf := Lw.cfL) (cm := Lw.cmL) rfl rfl ⟨rfl, by decide, by decide⟩ (fun w h Y => PySem.W.kIn_of Y) rfl rfl rfl rfl Lw.ck_all Lw.cm_all Lw.nm_all ?T ?L
  case L => exact Lw.fns_tb ▸ Lw.law_true
  case T =>
    intro w mg h KX G
    refine' Lw.all_mk KX G ?zza0 ?zzl0 ?zzc0 ?zzk0 ?zza1 ?zzl1 ?zzc1 ?zzk1 ?zza2 ?zzl2 ?zzc2 ?zzk2 ?zza3 ?zzl3 ?zzc3 ?zzk3 ?zza4 ?zzl4 ?zzc4 ?zzk4 ?zza5 ?zzl5 ?zzc5 ?zzk5 ?zza6 ?zzl6 ?zzc6 ?zzk6 ?zza7 ?zzl7 ?zzc7 ?zzk7 ?zza8 ?zzl8 ?zzc8 ?zzk8 ?zza9 ?zzl9 ?zzc9 ?zzk9 ?zza10 ?zzl10 ?zzc10 ?zzk10 ?zza11 ?zzl11 ?zzc11 ?zzk11 ?zza12 ?zzl12 ?zzc12 ?zzk12 ?zza13 ?zzl13 ?zzc13 ?zzk13 ?zza14 ?zzl14 ?zzc14 ?zzk14 ?zza15 ?zzl15 ?zzc15 ?zzk15 ?zza16 ?zzl16 ?zzc16 ?zzk16 ?zza17 ?zzl17 ?zzc17 ?zzk17 ?zza18 ?zzl18 ?zzc18 ?zzk18 ?zza19 ?zzl19 ?zzc19 ?zzk19 ?zzb0 ?zzb1 ?zzb2 ?zzb3 ?zzb4 ?zzb5 ?zzb6 ?zzb7 ?zzb8 ?zzb9 ?zzb10 ?zzb11 ?zzb12 ?zzb13
    (case zza0 => k_is)
    (case zzl0 => k_is)
    (case zzc0 => k_is)
    (case zzk0 => k_is)
    (case zza1 => k_is)
    (case zzl1 => k_is)
    (case zzc1 => k_is)
    (case zzk1 => k_is)
    (case zza2 => k_is)
    (case zzl2 => k_is)
    (case zzc2 => k_is)
    (case zzk2 => k_is)
    (case zza3 => k_is)
    (case zzl3 => k_is)
    (case zzc3 => k_is)
    (case zzk3 => k_is)
    (case zza4 => k_is)
    (case zzl4 => k_is)
    (case zzc4 => k_is)
    (case zzk4 => k_is)
    (case zza5 => k_is)
    (case zzl5 => k_is)
    (case zzc5 => k_is)
    (case zzk5 => k_is)
    (case zza6 => k_is)
    (case zzl6 => k_is)
    (case zzc6 => k_is)
    (case zzk6 => k_is)
    (case zza7 => k_is)
    (case zzl7 => k_is)
    (case zzc7 => k_is)
    (case zzk7 => k_is)
    (case zza8 => k_is)
    (case zzl8 => k_is)
    (case zzc8 => k_is)
    (case zzk8 => k_is)
    (case zza9 => k_is)
    (case zzl9 => k_is)
    (case zzc9 => k_is)
    (case zzk9 => k_is)
    (case zza10 => k_is)
    (case zzl10 => k_is)
    (case zzc10 => k_is)
    (case zzk10 => k_is)
    (case zza11 => k_is)
    (case zzl11 => k_is)
    (case zzc11 => k_is)
    (case zzk11 => k_is)
    (case zza12 => k_is)
    (case zzl12 => k_is)
    (case zzc12 => k_is)
    (case zzk12 => k_is)
    (case zza13 => k_is)
    (case zzl13 => k_is)
    (case zzc13 => k_is)
    (case zzk13 => k_is)
    (case zza14 => k_is)
    (case zzl14 => k_is)
    (case zzc14 => k_is)
    (case zzk14 => k_is)
    (case zza15 => k_is)
    (case zzl15 => k_is)
    (case zzc15 => k_is)
    (case zzk15 => k_is)
    (case zza16 => k_is)
    (case zzl16 => k_is)
    (case zzc16 => k_is)
    (case zzk16 => k_is)
    (case zza17 => k_is)
    (case zzl17 => k_is)
    (case zzc17 => k_is)
    (case zzk17 => k_is)
    (case zza18 => k_is)
    (case zzl18 => k_is)
    (case zzc18 => k_is)
    (case zzk18 => k_is)
    (case zza19 => k_is)
    (case zzl19 => k_is)
    (case zzc19 => k_is)
    (case zzk19 => k_is)
    (case zzb0 => k_is)
    (case zzb1 => k_is)
    (case zzb2 => k_is)
    (case zzb3 => k_is)
    (case zzb4 => k_is)
    (case zzb5 => k_is)
    (case zzb6 => k_is)
    (case zzb7 => k_is)
    (case zzb8 => k_is)
    (case zzb9 => k_is)
    (case zzb10 => k_is)
    (case zzb11 => k_is)
    (case zzb12 => k_is)
    (case zzb13 => k_is)
#print axioms PySem.Challenge.cw_backrun_k40_circuits_run_and_join_holds
