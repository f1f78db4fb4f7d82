import PyProof.Rows.All
import Wide.All
import OpenK.AllK
import Wide.FinOn
import HandS.ForMost
import HandS.Wide
import HandS.IsInst
import HandS.Rev
import HandS.TupAny
import HandS.Deep
import HandS.SortRule
import HandS.SortInts
import HandS.RevTup
import HandS.Words
import HandS.Conv
import HandS.Style
import HandS.Ends
import HandS.Evl
import KE.KBits
import KE.OsArith
import HandS.Text
import PyProof.P3Eq
import PySem.Challenge.RW_backrun_k42_adders_and_comparisons
set_option Elab.async false
set_option linter.all false
set_option maxRecDepth 100000
set_option maxHeartbeats 4000000
/-! Mini-Python over plain data: syntax, meaning. -/
namespace MP
open PySem L2

abbrev D := PyData
/-- a value: data that never changes, a changing object by its number, the script (a list that is only walked), a tuple of flat things that the module wrote -/
inductive W where
  | dat (d : D)
  | obj (p : Nat)
  | scr (ds : List D)
  | cst (ds : List D)
/-- an object: a list of data, a dict, gone (not to be used again) -/
inductive Ob where
  | lst (ds : List D)
  | dic (kvs : List (Key × W))
  | gone
abbrev Sto := List Ob
structure Exn where
  cls : Str
  arg : Option D
inductive Rs (α : Type) where
  | ok (a : α) (S : Sto)
  | ex (x : Exn) (S : Sto)
  | no
def Rs.bind {α β : Type} (r : Rs α) (f : α → Sto → Rs β) : Rs β := match r with
  | .ok a S => f a S
  | .ex x S => .ex x S
  | .no => .no
@[simp] theorem Rs.bind_ok {α β : Type} (a : α) (S : Sto) (f : α → Sto → Rs β) : (Rs.ok a S).bind f = f a S := rfl
@[simp] theorem Rs.bind_ex {α β : Type} (x : Exn) (S : Sto) (f : α → Sto → Rs β) : (Rs.ex x S : Rs α).bind f = .ex x S := rfl
@[simp] theorem Rs.bind_no {α β : Type} (f : α → Sto → Rs β) : (Rs.no : Rs α).bind f = .no := rfl
/-- of an option -/
def opt {α : Type} (o : Option α) (S : Sto) : Rs α := match o with
  | some a => .ok a S
  | none => .no
@[simp] theorem opt_some {α : Type} (a : α) (S : Sto) : opt (some a) S = .ok a S := rfl
@[simp] theorem opt_none {α : Type} (S : Sto) : opt (none : Option α) S = .no := rfl
def optD (o : Option D) (S : Sto) : Rs W := match o with
  | some d => .ok (.dat d) S
  | none => .no
@[simp] theorem optD_some (d : D) (S : Sto) : optD (some d) S = .ok (.dat d) S := rfl
@[simp] theorem optD_none (S : Sto) : optD none S = .no := rfl

inductive BO where
  | add | sub | mul | fdiv | mod | shl | shr | band | bor | bxor
  deriving DecidableEq
inductive CO where
  | eq | ne | lt | le | gt | ge | is | isn | isin | notin
  deriving DecidableEq
/-- built-ins called by name -/
inductive BI where
  | len | abs | min | max | int | list | tuple | sum | sorted | all | any
  deriving DecidableEq
inductive Ty5 where
  | int | bool | str | tuple | list
  deriving DecidableEq
inductive MT where
  | append | pop | popAt | count | index
  deriving DecidableEq

/-- expressions, tests, argument lists, what is walked, targets: one type -/
inductive E where
  | int (i : Int) | bl (b : Bool) | non | str (s : Str)
  | var (k : Nat)
  | glb (g : Nat)
  | bin (op : BO) (a b : E)
  | neg (a : E)
  | cmp (op : CO) (a b : E)
  | and (a b : E) | or (a b : E) | not (a : E)
  | ifx (t a b : E)
  | one (e : E)                       -- the last part of an and, an or
  | chn (o1 o2 : CO) (a b c : E)      -- a < b < c
  | tup (es : E) | lst (m : Bool) (es : E)
  | idx (a b : E)
  | slc (a lo hi : E)
  | call (f : Nat) (es : E)
  | bi (b : BI) (m : Bool) (es : E)
  | isi (T : Ty5) (a : E)
  | mth (m : MT) (o es : E)
  | trev (a : E)
  | lrng (m : Bool) (a : E)           -- list(range(a))
  | comp (m : Bool) (vs : List Nat) (elt tg it tst : E)
  -- tests
  | tv (e : E) | tcmp (op : CO) (a b : E) | tchn (o1 o2 : CO) (a b c : E) | tand (a b : E) | tor (a b : E) | tnot (a : E)
  -- a part that is left out; argument lists
  | nil | cons (e es : E)
  -- what is walked
  | isq (e : E) | irg1 (a : E) | irg2 (a b : E) | irg3 (a b c : E) | irev (e : E)
  -- targets
  | tnm (k : Nat) | tsub (o i : E) | ttup (ts : E)

abbrev Loc := List (Option W)
abbrev Fun' := Nat → List W → Sto → Rs W

/-! ### what values are -/
def toInt : W → Option Int
  | .dat (.int i) => some i
  | _ => none
def toBl : W → Option Bool
  | .dat (.bool b) => some b
  | _ => none
/-- a list's items -/
def rdL (S : Sto) : W → Option (List D)
  | .dat (.list ds) => some ds
  | .obj p => match S[p]? with
    | some (.lst ds) => some ds
    | _ => none
  | _ => none
/-- a list's or a tuple's items -/
def rdS (S : Sto) : W → Option (List D)
  | .dat (.tuple ds) => some ds
  | w => rdL S w
/-- the data that a value is, as it stands -/
def obD : Option Ob → Option D
  | some (.lst ds) => some (.list ds)
  | _ => none
def rdD (S : Sto) : W → Option D
  | .dat d => some d
  | .obj p => obD S[p]?
  | .scr _ => none
  | .cst _ => none
/-- .. the module's tuples as well -/
def rdC (S : Sto) : W → Option D
  | .cst ds => some (.tuple ds)
  | w => rdD S w
def dOf : W → Option D
  | .dat d => some d
  | _ => none
def dsOf : List W → Option (List D)
  | [] => some []
  | w :: ws => match dOf w, dsOf ws with
    | some d, some ds => some (d :: ds)
    | _, _ => none
@[simp] theorem dsOf_nil : dsOf [] = some [] := rfl
@[simp] theorem dsOf_cons (d : D) (ws : List W) : dsOf (.dat d :: ws) = (dsOf ws).map (d :: ·) := by
  show (match some d, dsOf ws with | some d, some ds => some (d :: ds) | _, _ => none) = _
  cases dsOf ws <;> rfl

/-! ### operators -/
def mulOk (i j : Int) : Prop := i.natAbs.log2 + j.natAbs.log2 < 1000000
def divOk (j : Int) : Prop := 0 < j ∧ j.natAbs.log2 < 9000
def shlOk (i j : Int) : Prop := 0 ≤ j ∧ j ≤ 1000000 ∧ i.natAbs < 2 ^ 64
def repOk (n : Nat) (k : Int) : Prop := -(2 ^ 63) ≤ k ∧ k < 2 ^ 63 ∧ n * k.toNat ≤ sizeLine
instance (i j : Int) : Decidable (mulOk i j) := by unfold mulOk; infer_instance
instance (j : Int) : Decidable (divOk j) := by unfold divOk; infer_instance
instance (i j : Int) : Decidable (shlOk i j) := by unfold shlOk; infer_instance
instance (n : Nat) (k : Int) : Decidable (repOk n k) := by unfold repOk; infer_instance
def binD (op : BO) (x y : D) : Option D := match op, x, y with
  | .add, .int i, .int j => some (.int (i + j))
  | .add, .tuple xs, .tuple ys => if xs.length + ys.length ≤ sizeLine then some (.tuple (xs ++ ys)) else none
  | .add, .list xs, .list ys => if xs.length + ys.length ≤ sizeLine then some (.list (xs ++ ys)) else none
  | .add, .str x, .str y => if x.length + y.length ≤ sizeLine then some (.str (x ++ y)) else none
  | .sub, .int i, .int j => some (.int (i - j))
  | .mul, .int i, .int j => if mulOk i j then some (.int (i * j)) else none
  | .mul, .list xs, .int k => if repOk xs.length k then some (.list (List.replicate k.toNat xs).flatten) else none
  | .fdiv, .int i, .int j => if divOk j then some (.int (i / j)) else none
  | .mod, .int i, .int j => if 0 < j then some (.int (i % j)) else none
  | .shl, .int i, .int j => if shlOk i j then some (.int (i * 2 ^ j.toNat)) else none
  | .shr, .int i, .int j => if 0 ≤ j then some (.int (i / 2 ^ j.toNat)) else none
  | .band, .int i, .int j => some (.int (Builtin.bitAnd i j))
  | .bor, .int i, .int j => some (.int (Builtin.bitOr i j))
  | .bxor, .int i, .int j => some (.int (Builtin.bitXor i j))
  | _, _, _ => none
/-- flat data: what == tells apart by itself -/
def flatD : D → Bool
  | .none | .bool _ | .int _ | .str _ => true
  | _ => false
/-- ==, where it is sure -/
def eqD (x y : D) : Option Bool := match x, y with
  | .int i, .int j => some (decide (i = j))
  | .str i, .str j => some (decide (i = j))
  | .bool i, .bool j => some (decide (i = j))
  | x, y => if SeqAt.shaped x = true ∧ SeqAt.shaped y = true then some (PyData.eqv x y) else none
def inD (x : D) (ys : List D) : Option Bool := if flatD x = true ∧ ys.all flatD = true then some (ys.any fun y => PyData.eqv y x) else none
def isNone : D → Bool
  | .none => true
  | _ => false
def cmpD (op : CO) (x y : D) : Option Bool := match op with
  | .eq => eqD x y
  | .ne => (eqD x y).map (!·)
  | .lt => match x, y with | .int i, .int j => some (decide (i < j)) | _, _ => none
  | .le => match x, y with | .int i, .int j => some (decide (i ≤ j)) | _, _ => none
  | .gt => match x, y with | .int i, .int j => some (decide (j < i)) | _, _ => none
  | .ge => match x, y with | .int i, .int j => some (decide (j ≤ i)) | _, _ => none
  | .is => match y with | .none => some (isNone x) | _ => none
  | .isn => match y with | .none => some (!isNone x) | _ => none
  | .isin => match y with | .list ys => inD x ys | .tuple ys => inD x ys | _ => none
  | .notin => match y with | .list ys => (inD x ys).map (!·) | .tuple ys => (inD x ys).map (!·) | _ => none
def truD : D → Option Bool
  | .none => some false
  | .bool b => some b
  | .int i => some (i != 0)
  | .str s => if s.length ≤ sizeLine then some (s.length != 0) else none
  | .list xs => some (!xs.isEmpty)
  | .tuple xs => some (!xs.isEmpty)
  | .dict _ => none
def idxD (x y : D) : Option D := match x, y with
  | .list xs, .int i => atI xs i
  | .tuple xs, .int i => atI xs i
  | .str z, .int i => if z.length ≤ sizeLine then (atI z.cps.toList i).map fun c => .str ⟨#[c]⟩ else none
  | _, _ => none
def cutD (xs : List D) (lo hi : Option Int) : List D := (xs.drop (HT.sIx xs.length 0 lo)).take (HT.sIx xs.length xs.length hi - HT.sIx xs.length 0 lo)
def slcD (x : D) (lo hi : Option Int) : Option D := match x with
  | .list xs => some (.list (cutD xs lo hi))
  | .tuple xs => some (.tuple (cutD xs lo hi))
  | _ => none
def intsD : List D → Option (List Int)
  | [] => some []
  | .int i :: r => (intsD r).map (i :: ·)
  | _ => none
def boolsD : List D → Option (List Bool)
  | [] => some []
  | .bool i :: r => (boolsD r).map (i :: ·)
  | _ => none
/-- the greatest of intsD -/
def maxI : List Int → Option Int
  | [] => none
  | [x] => some x
  | x :: r => (maxI r).map fun m => if x ≤ m then m else x
def insI (x : Int) : List Int → List Int
  | [] => [x]
  | y :: r => if x ≤ y then x :: y :: r else y :: insI x r
def sortI (xs : List Int) : List Int := xs.foldr insI []
def pairsD : List D → Option (List (Int × Int))
  | [] => some []
  | .tuple [.int i, .int j] :: r => (pairsD r).map ((i, j) :: ·)
  | _ => none
def leP (a b : Int × Int) : Bool := decide (a.1 < b.1) || (decide (a.1 = b.1) && decide (a.2 ≤ b.2))
def insP (x : Int × Int) : List (Int × Int) → List (Int × Int)
  | [] => [x]
  | y :: r => if leP x y then x :: y :: r else y :: insP x r
def sortP (xs : List (Int × Int)) : List (Int × Int) := xs.foldr insP []
def dPair (p : Int × Int) : D := .tuple [.int p.1, .int p.2]
/-- a built-in of data -/
def biD (b : BI) (xs : List D) : Option D := match b, xs with
  | .len, [.list ds] => some (.int ds.length)
  | .len, [.tuple ds] => some (.int ds.length)
  | .len, [.str s] => if s.length ≤ sizeLine then some (.int s.length) else none
  | .abs, [.int i] => some (.int (if i < 0 then -i else i))
  | .min, [.int i, .int j] => some (.int (if j < i then j else i))
  | .max, [.int i, .int j] => some (.int (if j > i then j else i))
  | .max, [.list ds] => match intsD ds with | some ns => (maxI ns).map .int | none => none
  | .int, [.int i] => some (.int i)
  | .int, [.bool b] => some (.int (if b then 1 else 0))
  | .list, [.list ds] => some (.list ds)
  | .list, [.tuple ds] => some (.list ds)
  | .tuple, [.list ds] => some (.tuple ds)
  | .tuple, [.tuple ds] => some (.tuple ds)
  | .sum, [.list ds] => (intsD ds).map fun ns => .int ns.sum
  | .all, [.list ds] => (boolsD ds).map fun ns => .bool (ns.all id)
  | .any, [.list ds] => (boolsD ds).map fun ns => .bool (ns.any id)
  | .sorted, [.list ds] => match intsD ds with
    | some ns => some (.list ((sortI ns).map .int))
    | none => match pairsD ds with
      | some ps => some (.list ((sortP ps).map dPair))
      | none => none
  | _, _ => none
/-- isinstance of a built-in type -/
def isiD : Ty5 → D → Bool
  | .int, .int _ => true
  | .int, .bool _ => true
  | .bool, .bool _ => true
  | .str, .str _ => true
  | .tuple, .tuple _ => true
  | .list, .list _ => true
  | _, _ => false
/-- a new value that is to change, or data -/
def mk (m : Bool) (d : D) (S : Sto) : Rs W := if m then (match d with | .list ds => .ok (.obj S.length) (S ++ [.lst ds]) | _ => .no) else .ok (.dat d) S
def idxW (S : Sto) (a b : W) : Rs W := match rdC S a, b with
  | some x, .dat y => optD (idxD x y) S
  | _, _ => .no
def binW (S : Sto) (op : BO) (a b : W) : Rs W := match rdD S a, rdD S b with
  | some x, some y => optD (binD op x y) S
  | _, _ => .no
def cmpW (S : Sto) (op : CO) (a b : W) : Rs W := match rdC S a, rdC S b with
  | some x, some y => match cmpD op x y with | some c => .ok (.dat (.bool c)) S | none => .no
  | _, _ => .no
def truW (S : Sto) (a : W) : Rs W := match rdC S a with
  | some x => match truD x with | some c => .ok (.dat (.bool c)) S | none => .no
  | none => .no
def rdDs (S : Sto) : List W → Option (List D)
  | [] => some []
  | w :: ws => match rdC S w, rdDs S ws with
    | some d, some ds => some (d :: ds)
    | _, _ => none
def biW0 (S : Sto) (b : BI) (m : Bool) (ws : List W) : Rs W := match rdDs S ws with
  | some ds => match biD b ds with | some d => mk m d S | none => .no
  | none => .no
/-- tuple(a tuple of the module's) is that very object -/
def biW (S : Sto) (b : BI) (m : Bool) (ws : List W) : Rs W := match b, ws with
  | .tuple, [.cst _] => .no
  | _, _ => biW0 S b m ws
def isiW (S : Sto) (T : Ty5) (w : W) : Rs W := match rdC S w with
  | some x => .ok (.dat (.bool (isiD T x))) S
  | none => .no
/-- the receiver of a list's method -/
def recvW (S : Sto) (x : W) : Rs W := match rdD S x with
  | some (.list _) => .ok x S
  | _ => .no
def mthW (S : Sto) (m : MT) (o : W) (ws : List W) : Rs W := match m, o, ws with
  | .append, .obj p, [.dat d] => match S[p]? with
    | some (.lst ds) => if ds.length < sizeLine then .ok (.dat .none) (S.set p (.lst (ds ++ [d]))) else .no
    | _ => .no
  | .pop, .obj p, [] => match S[p]? with
    | some (.lst ds) => match ds[ds.length - 1]? with
      | some d => .ok (.dat d) (S.set p (.lst ds.dropLast))
      | none => .no
    | _ => .no
  | .popAt, .obj p, [.dat (.int i)] => match S[p]? with
    | some (.lst ds) => if 0 ≤ i ∧ i < 2 ^ 62 then match ds[i.toNat]? with
      | some d => .ok (.dat d) (S.set p (.lst (ds.eraseIdx i.toNat)))
      | none => .no else .no
    | _ => .no
  | _, _, _ => .no
def slcW (S : Sto) (a : W) (lo hi : Option Int) : Rs W := match rdD S a with
  | some x => optD (slcD x lo hi) S
  | none => .no
/-- o[i] = v -/
def setW (S : Sto) (o i v : W) : Rs Unit := match o, i, v with
  | .obj p, .dat (.int k), .dat d => match S[p]? with
    | some (.lst ds) => match ixN ds.length k with
      | some j => .ok () (S.set p (.lst (ds.set j d)))
      | none => .no
    | _ => .no
  | _, _, _ => .no
def ifW {α : Type} (x : W) (A B : Rs α) : Rs α := match x with
  | .dat (.bool true) => A
  | .dat (.bool false) => B
  | _ => .no
def getV (l : Loc) (k : Nat) (S : Sto) : Rs W := match l[k]? with
  | some (some w) => .ok w S
  | _ => .no
def negW (x : W) (S : Sto) : Rs W := match x with | .dat (.int i) => .ok (.dat (.int (-i))) S | _ => .no
def notW (x : W) (S : Sto) : Rs W := match x with | .dat (.bool b) => .ok (.dat (.bool (!b))) S | _ => .no
def blW (x : W) (S : Sto) : Rs W := match x with | .dat (.bool b) => .ok (.dat (.bool b)) S | _ => .no
def tupW (ws : List W) (S : Sto) : Rs W := match dsOf ws with | some ds => if ds.length ≤ sizeLine then .ok (.dat (.tuple ds)) S else .no | none => .no
def lstW (m : Bool) (ws : List W) (S : Sto) : Rs W := match dsOf ws with | some ds => if ds.length ≤ sizeLine then mk m (.list ds) S else .no | none => .no
def revL (x : W) (S : Sto) : Rs W := match rdL S x with | some ds => .ok (.dat (.tuple ds.reverse)) S | none => .no
def revW (x : W) (S : Sto) : Rs W := match x with
  | .dat (.tuple ds) => .ok (.dat (.tuple ds.reverse)) S
  | x => revL x S
def partW (x : W) (S : Sto) : Rs (Option Int) := match x with | .dat (.int i) => .ok (some i) S | _ => .no
def boolW (x : W) (S : Sto) : Rs Bool := match x with | .dat (.bool b) => .ok b S | _ => .no
def datW (y : W) (S : Sto) : Rs (Option D) := match dOf y with | some y => .ok (some y) S | none => .no
def seqW (w : W) (S : Sto) : Rs (List D) := match w with
  | .dat (.list ds) => .ok ds S
  | .dat (.tuple ds) => .ok ds S
  | .scr ds => .ok ds S
  | .cst ds => .ok ds S
  | _ => .no
def smallI (i : Int) : Bool := decide (-(2 ^ 62) ≤ i) && decide (i < 2 ^ 62)
/-- lo, lo + c, .. (n of them) -/
def rng (lo c : Int) : Nat → List D
  | 0 => []
  | n + 1 => .int lo :: rng (lo + c) c n
def rng1W (x : W) (S : Sto) : Rs (List D) := match x with
  | .dat (.int j) => if smallI j = true then .ok (rng 0 1 j.toNat) S else .no
  | _ => .no
def rng2W (x y : W) (S : Sto) : Rs (List D) := match x, y with
  | .dat (.int i), .dat (.int j) => if smallI i = true ∧ smallI j = true then .ok (rng i 1 (j - i).toNat) S else .no
  | _, _ => .no
/-- a range downwards by ones -/
def rng3W (x y z : W) (S : Sto) : Rs (List D) := match x, y, z with
  | .dat (.int i), .dat (.int j), .dat (.int k) => if k = -1 ∧ smallI i = true ∧ smallI j = true then .ok (rng i (-1) (i - j).toNat) S else .no
  | _, _, _ => .no
def irevW (w : W) (S : Sto) : Rs (List D) := match w with
  | .dat (.list ds) => .ok ds.reverse S
  | .dat (.tuple ds) => .ok ds.reverse S
  | _ => .no
/-- a comprehension's turns: the items made so far -/
def forC (body : D → Sto → Rs (Option D)) : List D → List D → Sto → Rs (List D)
  | [], acc, S => .ok acc S
  | d :: ds, acc, S => (body d S).bind fun r S1 => match r with
    | some y => if acc.length < sizeLine then forC body ds (acc ++ [y]) S1 else .no
    | none => forC body ds acc S1
/-- how many stand in a row -/
def elen : E → Nat
  | .cons _ es => elen es + 1
  | _ => 0
/-- the slots that a target of names stores -/
def tslots : E → List Nat
  | .tnm k => [k]
  | .ttup ts => tslots ts
  | .cons a b => tslots a ++ tslots b
  | _ => []
def wipeL (l : Loc) : List Nat → Loc
  | [] => l
  | v :: vs => (wipeL l vs).set v none

def lrngW (m : Bool) (x : W) (S : Sto) : Rs W := match x with
  | .dat (.int j) => if smallI j = true ∧ j ≤ 1000000 then mk m (.list (rng 0 1 j.toNat)) S else .no
  | _ => .no
section
variable (G : Nat → Option W) (F : Fun')
mutual
def ev : E → Loc → Sto → Rs W
  | .int i, _, S => .ok (.dat (.int i)) S
  | .bl b, _, S => .ok (.dat (.bool b)) S
  | .non, _, S => .ok (.dat .none) S
  | .str s, _, S => .ok (.dat (.str s)) S
  | .var k, l, S => getV l k S
  | .glb g, _, S => opt (G g) S
  | .bin op a b, l, S => (ev a l S).bind fun x S1 => (ev b l S1).bind fun y S2 => binW S2 op x y
  | .neg a, l, S => (ev a l S).bind fun x S1 => negW x S1
  | .cmp op a b, l, S => (ev a l S).bind fun x S1 => (ev b l S1).bind fun y S2 => cmpW S2 op x y
  | .and a b, l, S => (ev a l S).bind fun x S1 => ifW x (ev b l S1) (.ok (.dat (.bool false)) S1)
  | .or a b, l, S => (ev a l S).bind fun x S1 => ifW x (.ok (.dat (.bool true)) S1) (ev b l S1)
  | .not a, l, S => (ev a l S).bind fun x S1 => notW x S1
  | .ifx t a b, l, S => (ev t l S).bind fun x S1 => ifW x (ev a l S1) (ev b l S1)
  | .one a, l, S => ev a l S
  | .chn o1 o2 a b c, l, S => (ev a l S).bind fun x S1 => (ev b l S1).bind fun y S2 => (cmpW S2 o1 x y).bind fun z S3 => ifW z ((ev c l S3).bind fun u S4 => cmpW S4 o2 y u) (.ok (.dat (.bool false)) S3)
  | .tup es, l, S => (evs es l S).bind fun ws S1 => tupW ws S1
  | .lst m es, l, S => (evs es l S).bind fun ws S1 => lstW m ws S1
  | .idx a b, l, S => (ev a l S).bind fun x S1 => (ev b l S1).bind fun y S2 => idxW S2 x y
  | .slc a lo hi, l, S => (ev a l S).bind fun x S1 => (evo lo l S1).bind fun i S2 => (evo hi l S2).bind fun j S3 => slcW S3 x i j
  | .call f es, l, S => (evs es l S).bind fun ws S1 => F f ws S1
  | .bi b m es, l, S => (evs es l S).bind fun ws S1 => biW S1 b m ws
  | .isi T a, l, S => (ev a l S).bind fun x S1 => isiW S1 T x
  | .mth m o es, l, S => (ev o l S).bind fun x S1 => (recvW S1 x).bind fun x1 S2 => (evs es l S2).bind fun ws S3 => mthW S3 m x1 ws
  | .trev a, l, S => (ev a l S).bind fun x S1 => revW x S1
  | .lrng m a, l, S => (ev a l S).bind fun x S1 => lrngW m x S1
  | .comp m vs elt tg it tst, l, S => (evi it l S).bind fun ds S1 =>
      (forC (fun d S2 => (asg tg (.dat d) (wipeL l vs) S2).bind fun l2 S3 => (evt tst l2 S3).bind fun c S4 =>
        if c = true then (ev elt l2 S4).bind fun y S5 => datW y S5 else .ok none S4) ds [] S1).bind fun ys S2 => mk m (.list ys) S2
  | .tv e, l, S => (ev e l S).bind fun x S1 => truW S1 x
  | .tcmp op a b, l, S => ((ev a l S).bind fun x S1 => (ev b l S1).bind fun y S2 => cmpW S2 op x y).bind fun x S1 => blW x S1
  | .tchn o1 o2 a b c, l, S => ((ev a l S).bind fun x S1 => (ev b l S1).bind fun y S2 => (cmpW S2 o1 x y).bind fun z S3 => ifW z ((ev c l S3).bind fun u S4 => cmpW S4 o2 y u) (.ok (.dat (.bool false)) S3)).bind fun x S1 => blW x S1
  | .tand a b, l, S => (ev a l S).bind fun x S1 => ifW x (ev b l S1) (.ok (.dat (.bool false)) S1)
  | .tor a b, l, S => (ev a l S).bind fun x S1 => ifW x (.ok (.dat (.bool true)) S1) (ev b l S1)
  | .tnot a, l, S => (ev a l S).bind fun x S1 => notW x S1
  | _, _, _ => .no
/-- a part of a slice -/
def evo : E → Loc → Sto → Rs (Option Int)
  | .nil, _, S => .ok none S
  | .cons e _, l, S => (ev e l S).bind fun x S1 => partW x S1
  | _, _, _ => .no
/-- a comprehension's test -/
def evt : E → Loc → Sto → Rs Bool
  | .nil, _, S => .ok true S
  | .cons e _, l, S => (ev e l S).bind fun x S1 => boolW x S1
  | _, _, _ => .no
def evs : E → Loc → Sto → Rs (List W)
  | .nil, _, S => .ok [] S
  | .cons e es, l, S => (ev e l S).bind fun w S1 => (evs es l S1).bind fun ws S2 => .ok (w :: ws) S2
  | _, _, _ => .no
def evi : E → Loc → Sto → Rs (List D)
  | .isq e, l, S => (ev e l S).bind fun w S1 => seqW w S1
  | .irg1 a, l, S => (ev a l S).bind fun x S1 => rng1W x S1
  | .irg2 a b, l, S => (ev a l S).bind fun x S1 => (ev b l S1).bind fun y S2 => rng2W x y S2
  | .irg3 a b c, l, S => (ev a l S).bind fun x S1 => (ev b l S1).bind fun y S2 => (ev c l S2).bind fun z S3 => rng3W x y z S3
  | .irev e, l, S => (ev e l S).bind fun w S1 => irevW w S1
  | _, _, _ => .no
def asg : E → W → Loc → Sto → Rs Loc
  | .tnm k, w, l, S => .ok (l.set k (some w)) S
  | .tsub o i, w, l, S => (ev o l S).bind fun x S1 => (ev i l S1).bind fun y S2 => (setW S2 x y w).bind fun _ S3 => .ok l S3
  | .ttup ts, w, l, S => match w with | .dat (.tuple ds) => if ds.length = elen ts then asgs ts ds l S else .no | _ => .no
  | _, _, _, _ => .no
def asgs : E → List D → Loc → Sto → Rs Loc
  | .nil, ds, l, S => match ds with | [] => .ok l S | _ => .no
  | .cons t ts, ds, l, S => match ds with | d :: ds => (asg t (.dat d) l S).bind fun l1 S1 => asgs ts ds l1 S1 | [] => .no
  | _, _, _, _ => .no
end
end

/-! ### statements -/
inductive Fl where
  | nx | ret (w : W) | brk | ct
inductive St' where
  | expr (e : E)
  | set (t e : E)
  | par (ks : List Nat) (es : E)      -- a, b = e1, e2 with plain local names
  | aug (k : Nat) (op : BO) (e : E)
  | cond (t : E) (a b : St')
  | whl (t : E) (b : St')
  | for (tg it : E) (b : St')
  | ret (e : E) | retN | brk | ct | pass
  | frz (k : Nat)                     -- nothing in the text: the list at the name k is not changed any more
  | nil | cons (s r : St')
def setPar (l : Loc) : List Nat → List W → Option Loc
  | [], [] => some l
  | k :: ks, w :: ws => setPar (l.set k (some w)) ks ws
  | _, _ => none
/-- behind a turn's body; behind a statement of a block -/
def loopR (next : Loc → Sto → Rs (Fl × Loc)) (r : Fl × Loc) (S : Sto) : Rs (Fl × Loc) := match r.1 with
  | .nx => next r.2 S
  | .ct => next r.2 S
  | .brk => .ok (.nx, r.2) S
  | .ret w => .ok (.ret w, r.2) S
def seqR (next : Loc → Sto → Rs (Fl × Loc)) (r : Fl × Loc) (S : Sto) : Rs (Fl × Loc) := match r.1 with
  | .nx => next r.2 S
  | .ct => .ok r S
  | .brk => .ok r S
  | .ret _ => .ok r S
def forL (body : D → Loc → Sto → Rs (Fl × Loc)) : List D → Loc → Sto → Rs (Fl × Loc)
  | [], l, S => .ok (.nx, l) S
  | d :: ds, l, S => (body d l S).bind (loopR (forL body ds))
def whlL (t : Loc → Sto → Rs W) (body : Loc → Sto → Rs (Fl × Loc)) : Nat → Loc → Sto → Rs (Fl × Loc)
  | 0, _, _ => .no
  | n + 1, l, S => (t l S).bind fun x S1 => ifW x ((body l S1).bind (loopR (whlL t body n))) (.ok (.nx, l) S1)
def whlFuel : Nat := 1000000000000
def augW (S : Sto) (op : BO) (x y : W) : Rs W := match op, x, y with
  | .add, .dat (.int i), .dat (.int j) => .ok (.dat (.int (i + j))) S
  | .sub, .dat (.int i), .dat (.int j) => .ok (.dat (.int (i - j))) S
  | _, _, _ => .no
def frzW (l : Loc) (k : Nat) (S : Sto) (x : W) : Rs (Fl × Loc) := match x with
  | .obj p => match S[p]? with
    | some (.lst ds) => .ok (.nx, l.set k (some (.dat (.list ds)))) (S.set p .gone)
    | _ => .no
  | _ => .no
section
variable (G : Nat → Option W) (F : Fun')
def exM : St' → Loc → Sto → Rs (Fl × Loc)
  | .expr e, l, S => (ev G F e l S).bind fun _ S1 => .ok (.nx, l) S1
  | .set t e, l, S => (ev G F e l S).bind fun w S1 => (asg G F t w l S1).bind fun l1 S2 => .ok (.nx, l1) S2
  | .par ks es, l, S => (evs G F es l S).bind fun ws S1 => (opt (setPar l ks ws) S1).bind fun l1 S2 => .ok (.nx, l1) S2
  | .aug k op e, l, S => (getV l k S).bind fun x S0 => (ev G F e l S0).bind fun y S1 => (augW S1 op x y).bind fun z S2 => .ok (.nx, l.set k (some z)) S2
  | .cond t a b, l, S => (ev G F t l S).bind fun x S1 => ifW x (exM a l S1) (exM b l S1)
  | .whl t b, l, S => whlL (ev G F t) (exM b) whlFuel l S
  | .for tg it b, l, S => (evi G F it l S).bind fun ds S1 => forL (fun d l2 S2 => (asg G F tg (.dat d) l2 S2).bind fun l3 S3 => exM b l3 S3) ds l S1
  | .ret e, l, S => (ev G F e l S).bind fun w S1 => .ok (.ret w, l) S1
  | .retN, l, S => .ok (.ret (.dat .none), l) S
  | .brk, l, S => .ok (.brk, l) S
  | .ct, l, S => .ok (.ct, l) S
  | .pass, l, S => .ok (.nx, l) S
  | .frz k, l, S => (getV l k S).bind fun x S1 => frzW l k S1 x
  | .nil, l, S => .ok (.nx, l) S
  | .cons s r, l, S => (exM s l S).bind (seqR (exM r))
end

/-! ### defs -/
structure Fn where
  np : Nat
  nn : Nat
  body : St'
/-- no object beyond n is meant -/
def below (n : Nat) : W → Bool
  | .obj p => decide (p < n)
  | _ => true
def obBelow (n : Nat) : Ob → Bool
  | .dic kvs => kvs.all fun kv => below n kv.2
  | _ => true
def keepN (n : Nat) : W → Nat
  | .obj p => max n (p + 1)
  | _ => n
/-- behind a call the def's own objects are let go, but for the one that is handed back -/
def leave (n : Nat) (w : W) (S : Sto) : Rs W :=
  if keepN n w ≤ S.length ∧ (S.take (keepN n w)).all (obBelow (keepN n w)) = true then .ok w (S.take (keepN n w)) else .no
def doneFn (n : Nat) (r : Rs (Fl × Loc)) : Rs W := match r with
  | .ok (.ret w, _) S => leave n w S
  | .ok (.nx, _) S => leave n (.dat .none) S
  | .ok _ _ => .no
  | .ex x S => if n ≤ S.length ∧ (S.take n).all (obBelow n) = true then .ex x (S.take n) else .no
  | .no => .no
def start' (ws : List W) (nn : Nat) : Loc := ws.map some ++ List.replicate (nn - ws.length) none
def callM (G : Nat → Option W) (ft : Nat → Option Fn) : Nat → Fun'
  | 0, _, _, _ => .no
  | n + 1, f, ws, S => match ft f with
    | some fn => if ws.length = fn.np then doneFn S.length (exM G (callM G ft n) fn.body (start' ws fn.nn) S) else .no
    | none => .no
end MP
set_option Elab.async false
set_option linter.all false
set_option maxRecDepth 100000
set_option maxHeartbeats 4000000
/-! How data and objects lie in the heap. -/
namespace MP
open PySem PySem.Spec PyProof.Rows L2

/-- where the changing objects stand (none: let go); lists that are being made, of which nothing is known outside -/
structure Mu where
  ob : List (Option Addr)
  hid : List Addr
def KTup (K : PySem.W.Frag) (a : Addr) (xs : List V) : Prop := ∃ (o : Obj) (its : Array Value) (n : Nat), K.lookup a = some o ∧ o.cls = .type "tuple" ∧ o.data = .seq its n ∧ its.size ≤ sizeLine ∧ Vals xs its.toList
def KLst (K : PySem.W.Frag) (a : Addr) (xs : List V) : Prop := ∃ (o : Obj) (its : Array Value) (n : Nat), K.lookup a = some o ∧ o.cls = .type "list" ∧ o.dict = none ∧ o.data = .seq its n ∧ its.size ≤ sizeLine ∧ Vals xs its.toList

mutual
inductive RepD (K : PySem.W.Frag) (H : Hp) (μ : Mu) : D → V → Prop
  | non : RepD K H μ .none .non
  | bl (b : Bool) : RepD K H μ (.bool b) (.bl b)
  | int (i : Int) : RepD K H μ (.int i) (.int i)
  | str (s : Str) : RepD K H μ (.str s) (.str s)
  | tup {a : Addr} {vs : List V} {ds : List D} : H a = some (.tup vs) → RepDs K H μ ds vs → RepD K H μ (.tuple ds) (.ref a)
  | lst {a : Addr} {vs : List V} {ds : List D} : H a = some (.lst vs) → some a ∉ μ.ob → a ∉ μ.hid → RepDs K H μ ds vs → RepD K H μ (.list ds) (.ref a)
inductive RepDs (K : PySem.W.Frag) (H : Hp) (μ : Mu) : List D → List V → Prop
  | nil : RepDs K H μ [] []
  | cons {d : D} {v : V} {ds : List D} {vs : List V} : RepD K H μ d v → RepDs K H μ ds vs → RepDs K H μ (d :: ds) (v :: vs)
end

/-- from one state to a later one -/
structure Ext (H : Hp) (μ : Mu) (H' : Hp) (μ' : Mu) : Prop where
  tup : ∀ a xs, H a = some (.tup xs) → H' a = some (.tup xs)
  frz : ∀ a o u, H a = some (.frz o u) → H' a = some (.frz o u)
  keep : ∀ a o, H a = some o → some a ∉ μ.ob → H' a = some o
  stay : ∀ a, H' a = none → H a = none
  pre : ∀ (p : Nat) x, μ.ob[p]? = some x → μ'.ob[p]? = some x ∨ μ'.ob[p]? = some none
  new : ∀ a : Addr, some a ∈ μ'.ob → some a ∈ μ.ob ∨ H a = none
  hid : ∀ a : Addr, a ∈ μ.hid → a ∈ μ'.hid
  newh : ∀ a : Addr, a ∈ μ'.hid → a ∈ μ.hid ∨ H a = none
theorem Ext.refl (H : Hp) (μ : Mu) : Ext H μ H μ := ⟨fun _ _ h => h, fun _ _ _ h => h, fun _ _ h _ => h, fun _ h => h, fun _ _ h => .inl h, fun _ h => .inl h, fun _ h => h, fun _ h => .inl h⟩
theorem Ext.trans {H H1 H2 : Hp} {μ μ1 μ2 : Mu} (a : Ext H μ H1 μ1) (b : Ext H1 μ1 H2 μ2) : Ext H μ H2 μ2 where
  tup := fun x xs h => b.tup x xs (a.tup x xs h)
  frz := fun x o u h => b.frz x o u (a.frz x o u h)
  keep := fun x o h n => b.keep x o (a.keep x o h n) fun m => by
    rcases a.new x m with z | z
    · exact n z
    · rw [h] at z; cases z
  stay := fun x h => a.stay x (b.stay x h)
  pre := fun p x h => by
    rcases a.pre p x h with h1 | h1
    · exact b.pre p x h1
    · rcases b.pre p none h1 with h2 | h2 <;> exact .inr h2
  new := fun x h => (b.new x h).elim (a.new x) fun z => .inr (a.stay x z)
  hid := fun x h => b.hid x (a.hid x h)
  newh := fun x h => (b.newh x h).elim (a.newh x) fun z => .inr (a.stay x z)
theorem none_upd {H : Hp} {p a : Addr} {o : HO} (h : upd H p o a = none) : H a = none := by
  by_cases e : a = p
  · subst e; rw [upd_same] at h; cases h
  · rw [upd_ne e] at h; exact h
/-- a new object that is data -/
theorem Ext.fresh {H : Hp} {μ : Mu} {p : Addr} {o : HO} (h : H p = none) : Ext H μ (upd H p o) μ where
  tup := fun a xs e => by rw [upd_ne (ne_of_none e h)]; exact e
  frz := fun a ob u e => by rw [upd_ne (ne_of_none e h)]; exact e
  keep := fun a ob e _ => by rw [upd_ne (ne_of_none e h)]; exact e
  stay := fun _ e => none_upd e
  pre := fun _ _ h => .inl h
  new := fun _ h => .inl h
  hid := fun _ h => h
  newh := fun _ h => .inl h

section
variable {K : PySem.W.Frag} {H H' : Hp} {μ μ' : Mu}
theorem Ext.out (e : Ext H μ H' μ') {a : Addr} {o : HO} (h : H a = some o) (n : some a ∉ μ.ob) : some a ∉ μ'.ob := fun m => by
  rcases e.new a m with z | z
  · exact n z
  · rw [h] at z; cases z
theorem Ext.outh (e : Ext H μ H' μ') {a : Addr} {o : HO} (h : H a = some o) (n : a ∉ μ.hid) : a ∉ μ'.hid := fun m => by
  rcases e.newh a m with z | z
  · exact n z
  · rw [h] at z; cases z
mutual
theorem RepD.mono (e : Ext H μ H' μ') : ∀ (d : D) (v : V), RepD K H μ d v → RepD K H' μ' d v
  | .none, _, h => by cases h; exact .non
  | .bool b, _, h => by cases h; exact .bl b
  | .int i, _, h => by cases h; exact .int i
  | .str s, _, h => by cases h; exact .str s
  | .tuple ds, _, h => by
    cases h with
    | tup ha hs => exact .tup (e.tup _ _ ha) (RepDs.mono e ds _ hs)
  | .list ds, _, h => by
    cases h with
    | lst ha hn hh hs => exact .lst (e.keep _ _ ha hn) (e.out ha hn) (e.outh ha hh) (RepDs.mono e ds _ hs)
  | .dict _, _, h => by cases h
theorem RepDs.mono (e : Ext H μ H' μ') : ∀ (ds : List D) (vs : List V), RepDs K H μ ds vs → RepDs K H' μ' ds vs
  | [], _, h => by cases h; exact .nil
  | d :: ds, _, h => by
    cases h with
    | cons h1 h2 => exact .cons (RepD.mono e d _ h1) (RepDs.mono e ds _ h2)
end
theorem RepD.up (e : Ext H μ H' μ') {d : D} {v : V} (h : RepD K H μ d v) : RepD K H' μ' d v := RepD.mono e d v h
theorem RepDs.up (e : Ext H μ H' μ') {ds : List D} {vs : List V} (h : RepDs K H μ ds vs) : RepDs K H' μ' ds vs := RepDs.mono e ds vs h
theorem RepDs.length : ∀ {ds : List D} {vs : List V}, RepDs K H μ ds vs → ds.length = vs.length
  | [], _, h => by cases h; rfl
  | d :: ds, _, h => by cases h with | cons _ h2 => simp [RepDs.length h2]
theorem RepDs.get : ∀ {ds : List D} {vs : List V} {i : Nat} {d : D}, RepDs K H μ ds vs → ds[i]? = some d → ∃ v, vs[i]? = some v ∧ RepD K H μ d v
  | _, _, i, d, .nil, e => by simp at e
  | _, _, 0, d, .cons h _, e => by simp at e; subst e; exact ⟨_, rfl, h⟩
  | _, _, i + 1, d, .cons _ t, e => by
    obtain ⟨v, h1, h2⟩ := RepDs.get (i := i) (d := d) t (by simpa using e)
    exact ⟨v, by simpa using h1, h2⟩
theorem RepDs.getV : ∀ {ds : List D} {vs : List V} {i : Nat} {v : V}, RepDs K H μ ds vs → vs[i]? = some v → ∃ d, ds[i]? = some d ∧ RepD K H μ d v
  | _, _, i, d, .nil, e => by simp at e
  | _, _, 0, d, .cons h _, e => by simp at e; subst e; exact ⟨_, rfl, h⟩
  | _, _, i + 1, d, .cons _ t, e => by
    obtain ⟨v, h1, h2⟩ := RepDs.getV (i := i) (v := d) t (by simpa using e)
    exact ⟨v, by simpa using h1, h2⟩
theorem RepDs.append : ∀ {ds es : List D} {vs us : List V}, RepDs K H μ ds vs → RepDs K H μ es us → RepDs K H μ (ds ++ es) (vs ++ us)
  | _, _, _, _, .nil, h => h
  | _, _, _, _, .cons h t, h' => .cons h (RepDs.append t h')
theorem RepDs.set : ∀ {ds : List D} {vs : List V} {d : D} {v : V} (i : Nat), RepDs K H μ ds vs → RepD K H μ d v → RepDs K H μ (ds.set i d) (vs.set i v)
  | _, _, _, _, _, .nil, _ => .nil
  | _, _, _, _, 0, .cons _ t, h => .cons h t
  | _, _, _, _, i + 1, .cons h t, h' => .cons h (RepDs.set i t h')
theorem RepDs.take : ∀ {ds : List D} {vs : List V} (n : Nat), RepDs K H μ ds vs → RepDs K H μ (ds.take n) (vs.take n)
  | _, _, 0, _ => .nil
  | _, _, _ + 1, .nil => .nil
  | _, _, n + 1, .cons h t => .cons h (RepDs.take n t)
theorem RepDs.drop : ∀ {ds : List D} {vs : List V} (n : Nat), RepDs K H μ ds vs → RepDs K H μ (ds.drop n) (vs.drop n)
  | _, _, 0, h => h
  | _, _, _ + 1, .nil => .nil
  | _, _, n + 1, .cons _ t => RepDs.drop n t
theorem RepDs.dropLast {ds : List D} {vs : List V} (h : RepDs K H μ ds vs) : RepDs K H μ ds.dropLast vs.dropLast := by
  rw [List.dropLast_eq_take, List.dropLast_eq_take, h.length]
  exact h.take _
theorem RepDs.eraseIdx : ∀ {ds : List D} {vs : List V} (i : Nat), RepDs K H μ ds vs → RepDs K H μ (ds.eraseIdx i) (vs.eraseIdx i)
  | _, _, _, .nil => .nil
  | _, _, 0, .cons _ t => t
  | _, _, i + 1, .cons h t => .cons h (RepDs.eraseIdx i t)
theorem RepDs.reverse : ∀ {ds : List D} {vs : List V}, RepDs K H μ ds vs → RepDs K H μ ds.reverse vs.reverse
  | _, _, .nil => .nil
  | d :: ds, v :: vs, .cons h t => by rw [List.reverse_cons, List.reverse_cons]; exact (RepDs.reverse t).append (.cons h .nil)
theorem RepDs.rep {ds : List D} {vs : List V} (h : RepDs K H μ ds vs) : ∀ k : Nat, RepDs K H μ (List.replicate k ds).flatten (List.replicate k vs).flatten
  | 0 => .nil
  | k + 1 => by rw [List.replicate_succ, List.replicate_succ, List.flatten_cons, List.flatten_cons]; exact h.append (RepDs.rep h k)

/-! ### values, objects -/
def RepA (x : Option (Option Addr)) (v : V) : Prop := match x with
  | some (some a) => v = .ref a
  | some none => True
  | none => False
def RepW (K : PySem.W.Frag) (H : Hp) (μ : Mu) : W → V → Prop
  | .dat d, v => RepD K H μ d v
  | .obj p, v => RepA μ.ob[p]? v
  | .scr ds, v => ∃ a vs, v = .ref a ∧ ((∃ o, H a = some (.frz o (.lst vs))) ∨ KLst K a vs) ∧ RepDs K H μ ds vs
  | .cst ds, v => ∃ a vs, v = .ref a ∧ KTup K a vs ∧ RepDs K H μ ds vs
theorem RepW.up (e : Ext H μ H' μ') : ∀ {w : W} {v : V}, RepW K H μ w v → RepW K H' μ' w v
  | .dat d, v, h => RepD.up e h
  | .obj p, v, h => by
    have h : RepA μ.ob[p]? v := h
    show RepA μ'.ob[p]? v
    cases q : μ.ob[p]? with
    | none => rw [q] at h; exact h.elim
    | some x =>
      rw [q] at h
      rcases e.pre p x q with r | r
      · rw [r]; exact h
      · rw [r]; trivial
  | .scr ds, v, h => by
    obtain ⟨a, vs, rfl, q, r⟩ := h
    refine ⟨a, vs, rfl, ?_, r.up e⟩
    rcases q with ⟨o, q⟩ | q
    · exact .inl ⟨o, e.frz _ _ _ q⟩
    · exact .inr q
  | .cst ds, v, h => let ⟨a, vs, q1, q2, q3⟩ := h; ⟨a, vs, q1, q2, q3.up e⟩
def RepWs (K : PySem.W.Frag) (H : Hp) (μ : Mu) : List W → List V → Prop := Paired (RepW K H μ)
theorem RepWs.up (e : Ext H μ H' μ') {ws : List W} {vs : List V} (h : RepWs K H μ ws vs) : RepWs K H' μ' ws vs := Paired.mapP h fun _ _ q => RepW.up e q
def RepKs (K : PySem.W.Frag) (H : Hp) (μ : Mu) : List (Key × W) → List (Key × V) → Prop := Paired fun p q => p.1 = q.1 ∧ RepW K H μ p.2 q.2
theorem RepKs.up (e : Ext H μ H' μ') {ws : List (Key × W)} {vs : List (Key × V)} (h : RepKs K H μ ws vs) : RepKs K H' μ' ws vs := Paired.mapP h fun _ _ q => ⟨q.1, RepW.up e q.2⟩
def RepO (K : PySem.W.Frag) (H : Hp) (μ : Mu) (o : Ob) (a : Addr) : Prop := match o with
  | .lst ds => ∃ vs, H a = some (.lst vs) ∧ RepDs K H μ ds vs
  | .dic kvs => ∃ vs, H a = some (.dK vs) ∧ RepKs K H μ kvs vs
  | .gone => False
structure StoRep (K : PySem.W.Frag) (H : Hp) (S : Sto) (μ : Mu) : Prop where
  len : S.length = μ.ob.length
  hid : ∀ a, a ∈ μ.hid → some a ∉ μ.ob ∧ ∃ xs, H a = some (.lst xs)
  ob : ∀ (p : Nat) (a : Addr) (o : Ob), μ.ob[p]? = some (some a) → S[p]? = some o → RepO K H μ o a
  inj : ∀ (p q : Nat) (a : Addr), μ.ob[p]? = some (some a) → μ.ob[q]? = some (some a) → p = q
  gone : ∀ (p : Nat), μ.ob[p]? = some none → S[p]? = some .gone
def LocRep (K : PySem.W.Frag) (H : Hp) (μ : Mu) (l : Loc) (σ : L2.St) : Prop := l.length = σ.length ∧ ∀ (i : Nat) (w : W), l[i]? = some (some w) → ∃ v, σ[i]? = some (some v) ∧ RepW K H μ w v
theorem LocRep.up (e : Ext H μ H' μ') {l : Loc} {σ : L2.St} (h : LocRep K H μ l σ) : LocRep K H' μ' l σ := ⟨h.1, fun i w q => let ⟨v, a, b⟩ := h.2 i w q; ⟨v, a, RepW.up e b⟩⟩
theorem LocRep.set {l : Loc} {σ : L2.St} {w : W} {v : V} (h : LocRep K H μ l σ) (k : Nat) (hw : RepW K H μ w v) : LocRep K H μ (l.set k (some w)) (σ.set k (some v)) := by
  refine ⟨by simp [h.1], fun i u q => ?_⟩
  by_cases e : k = i
  · subst e
    by_cases hk : k < l.length
    · rw [List.getElem?_set_self hk] at q
      cases q
      exact ⟨v, List.getElem?_set_self (by rw [← h.1]; exact hk), hw⟩
    · rw [List.getElem?_eq_none (by simpa using hk)] at q; cases q
  · rw [List.getElem?_set_ne e] at q ⊢
    exact h.2 i u q
/-- a value that is known again at the data it stands for -/
theorem LocRep.setL {l : Loc} {σ : L2.St} {w u : W} (h : LocRep K H μ l σ) {k : Nat} (hk : l[k]? = some (some w)) (hw : ∀ v, RepW K H μ w v → RepW K H μ u v) : LocRep K H μ (l.set k (some u)) σ := by
  refine ⟨by simp [h.1], fun i x q => ?_⟩
  by_cases e : k = i
  · subst e
    obtain ⟨hl, _⟩ := List.getElem?_eq_some_iff.mp hk
    rw [List.getElem?_set_self hl] at q
    cases q
    obtain ⟨v, a, b⟩ := h.2 k w hk
    exact ⟨v, a, hw v b⟩
  · rw [List.getElem?_set_ne e] at q
    exact h.2 i x q
theorem StoRep.live {S : Sto} (h : StoRep K H S μ) {a : Addr} (m : some a ∈ μ.ob) : ∃ (p : Nat) (o : Ob), μ.ob[p]? = some (some a) ∧ S[p]? = some o ∧ RepO K H μ o a := by
  obtain ⟨p, hp, e⟩ := List.getElem_of_mem m
  have e' : μ.ob[p]? = some (some a) := by rw [List.getElem?_eq_getElem hp, e]
  have hs : p < S.length := by rw [h.len]; exact hp
  exact ⟨p, S[p], e', List.getElem?_eq_getElem hs, h.ob p a _ e' (List.getElem?_eq_getElem hs)⟩
theorem RepO.there {o : Ob} {a : Addr} (h : RepO K H μ o a) : ∃ u, H a = some u ∧ Mut (some u) := by
  cases o with
  | lst ds => obtain ⟨vs, e, _⟩ := h; exact ⟨_, e, trivial⟩
  | dic kvs => obtain ⟨vs, e, _⟩ := h; exact ⟨_, e, trivial⟩
  | gone => exact h.elim
theorem StoRep.mut {S : Sto} (h : StoRep K H S μ) {a : Addr} (m : some a ∈ μ.ob) : ∃ u, H a = some u ∧ Mut (some u) := let ⟨_, _, _, _, r⟩ := h.live m; r.there
theorem StoRep.notin {S : Sto} (h : StoRep K H S μ) {a : Addr} (n : H a = none) : some a ∉ μ.ob := fun m => by
  obtain ⟨u, e, _⟩ := h.mut m
  rw [n] at e; cases e
theorem RepO.up {o : Ob} {a : Addr} (e : Ext H μ H' μ') (h : RepO K H μ o a) (hk : H' a = H a) : RepO K H' μ' o a := by
  cases o with
  | lst ds => obtain ⟨vs, q, r⟩ := h; exact ⟨vs, hk.trans q, r.up e⟩
  | dic kvs => obtain ⟨vs, q, r⟩ := h; exact ⟨vs, hk.trans q, r.up e⟩
  | gone => exact h.elim
theorem StoRep.nohid {S : Sto} (h : StoRep K H S μ) {a : Addr} (n : H a = none) : a ∉ μ.hid := fun m => by
  obtain ⟨_, _, e⟩ := h.hid a m
  rw [n] at e; cases e
/-- a new object that is data: the store as it was -/
theorem StoRep.fresh {S : Sto} {p : Addr} {o : HO} (h : StoRep K H S μ) (hp : H p = none) : StoRep K (upd H p o) S μ := by
  refine ⟨h.len, fun a m => ⟨(h.hid a m).1, ?_⟩, fun q a ob e1 e2 => (h.ob q a ob e1 e2).up (Ext.fresh hp) ?_, h.inj, h.gone⟩
  · obtain ⟨xs, e⟩ := (h.hid a m).2
    exact ⟨xs, by rw [upd_ne (ne_of_none e hp)]; exact e⟩
  · obtain ⟨u, z, _⟩ := (h.ob q a ob e1 e2).there
    exact upd_ne (ne_of_none z hp)
/-- one more place -/
def Mu.push (μ : Mu) (p : Addr) : Mu := ⟨μ.ob ++ [some p], μ.hid⟩
def Mu.set (μ : Mu) (p : Nat) : Mu := ⟨μ.ob.set p none, μ.hid⟩
def Mu.hide (μ : Mu) (p : Addr) : Mu := ⟨μ.ob, p :: μ.hid⟩
def Mu.show (μ : Mu) (hs : List Addr) : Mu := ⟨μ.ob, hs⟩
def Mu.cut (μ : Mu) (n : Nat) : Mu := ⟨μ.ob.take n, μ.hid⟩
/-- a new object that is to change -/
theorem Ext.push {p : Addr} {o : HO} (hp : H p = none) : Ext H μ (upd H p o) (μ.push p) where
  tup := fun a xs e => by rw [upd_ne (ne_of_none e hp)]; exact e
  frz := fun a ob u e => by rw [upd_ne (ne_of_none e hp)]; exact e
  keep := fun a ob e _ => by rw [upd_ne (ne_of_none e hp)]; exact e
  stay := fun _ e => none_upd e
  pre := fun q x e => .inl (by show (μ.ob ++ [some p])[q]? = some x; rw [List.getElem?_append_left (List.getElem?_eq_some_iff.mp e).1]; exact e)
  new := fun a m => by
    rcases List.mem_append.mp m with m | m
    · exact .inl m
    · simp at m; subst m; exact .inr hp
  hid := fun _ h => h
  newh := fun _ h => .inl h
theorem StoRep.push {S : Sto} {p : Addr} {o : HO} {ob : Ob} (h : StoRep K H S μ) (hp : H p = none) (new : RepO K (upd H p o) (μ.push p) ob p) : StoRep K (upd H p o) (S ++ [ob]) (μ.push p) := by
  have split : ∀ (q : Nat) x, (μ.push p).ob[q]? = some x → (q < μ.ob.length ∧ μ.ob[q]? = some x) ∨ (q = μ.ob.length ∧ x = some p) := fun q x e => by
    have e : (μ.ob ++ [some p])[q]? = some x := e
    by_cases hq : q < μ.ob.length
    · rw [List.getElem?_append_left hq] at e; exact .inl ⟨hq, e⟩
    · rw [List.getElem?_append_right (by omega)] at e
      have hz : q - μ.ob.length = 0 := by
        cases z : q - μ.ob.length with
        | zero => rfl
        | succ n => rw [z] at e; simp at e
      rw [hz] at e; simp at e
      exact .inr ⟨by omega, e.symm⟩
  refine ⟨by simp [h.len, Mu.push], fun a m => ⟨fun z => ?_, ?_⟩, fun q a x e1 e2 => ?_, fun q r a e1 e2 => ?_, fun q e1 => ?_⟩
  · rcases List.mem_append.mp z with z | z
    · exact (h.hid a m).1 z
    · simp at z; subst z; exact h.nohid hp m
  · obtain ⟨xs, e⟩ := (h.hid a m).2
    exact ⟨xs, by rw [upd_ne (ne_of_none e hp)]; exact e⟩
  · rcases split q _ e1 with ⟨hq, e⟩ | ⟨hq, e⟩
    · rw [List.getElem?_append_left (by rw [h.len]; exact hq)] at e2
      have r := h.ob q a x e e2
      obtain ⟨u, z, _⟩ := r.there
      exact r.up (Ext.push hp) (upd_ne (ne_of_none z hp))
    · cases e
      subst hq
      rw [← h.len, List.getElem?_append_right (Nat.le_refl _)] at e2
      simp at e2; subst e2
      exact new
  · have nope : ∀ (i : Nat), μ.ob[i]? = some (some p) → False := fun i e => h.notin hp (List.mem_of_getElem? e)
    rcases split q _ e1 with ⟨hq, e⟩ | ⟨hq, e⟩
    · rcases split r _ e2 with ⟨hr, f⟩ | ⟨hr, f⟩
      · exact h.inj q r a e f
      · cases f; exact (nope q e).elim
    · rcases split r _ e2 with ⟨hr, f⟩ | ⟨hr, f⟩
      · cases e; exact (nope r f).elim
      · omega
  · rcases split q _ e1 with ⟨hq, e⟩ | ⟨hq, e⟩
    · rw [List.getElem?_append_left (by rw [h.len]; exact hq)]
      exact h.gone q e
    · cases e
/-- a changing object is changed -/
theorem Ext.write {S : Sto} {p : Nat} {a : Addr} {o : HO} (h : StoRep K H S μ) (hp : μ.ob[p]? = some (some a)) : Ext H μ (upd H a o) μ := by
  have m : some a ∈ μ.ob := List.mem_of_getElem? hp
  obtain ⟨u, e, mu⟩ := h.mut m
  refine ⟨fun b xs q => ?_, fun b ob u' q => ?_, fun b ob q n => ?_, fun _ => none_upd, fun _ _ q => .inl q, fun _ q => .inl q, fun _ q => q, fun _ q => .inl q⟩
  · rw [upd_ne]; exact q
    rintro rfl; rw [e] at q; cases q; exact mu
  · rw [upd_ne]; exact q
    rintro rfl; rw [e] at q; cases q; exact mu
  · rw [upd_ne]; exact q
    rintro rfl; exact n m
theorem StoRep.write {S : Sto} {p : Nat} {a : Addr} {o : HO} {ob : Ob} (h : StoRep K H S μ) (hp : μ.ob[p]? = some (some a)) (new : RepO K (upd H a o) μ ob a) : StoRep K (upd H a o) (S.set p ob) μ := by
  have m : some a ∈ μ.ob := List.mem_of_getElem? hp
  refine ⟨by simp [h.len], fun b mb => ⟨(h.hid b mb).1, ?_⟩, fun q b x e1 e2 => ?_, h.inj, fun q e1 => ?_⟩
  · obtain ⟨xs, e⟩ := (h.hid b mb).2
    refine ⟨xs, ?_⟩
    rw [upd_ne]; exact e
    rintro rfl; exact (h.hid b mb).1 m
  · by_cases e : p = q
    · subst e
      rw [hp] at e1; cases e1
      have hs : p < S.length := by rw [h.len]; exact (List.getElem?_eq_some_iff.mp hp).1
      rw [List.getElem?_set_self hs] at e2; cases e2
      exact new
    · rw [List.getElem?_set_ne e] at e2
      refine (h.ob q b x e1 e2).up (Ext.write h hp) (upd_ne ?_)
      rintro rfl
      exact e (h.inj p q b hp e1)
  · have e : p ≠ q := by rintro rfl; rw [hp] at e1; cases e1
    rw [List.getElem?_set_ne e]
    exact h.gone q e1
/-- nothing changes an object any more: it is data -/
theorem Ext.let {p : Nat} : Ext H μ H (μ.set p) where
  tup := fun _ _ e => e
  frz := fun _ _ _ e => e
  keep := fun _ _ e _ => e
  stay := fun _ e => e
  pre := fun q x e => by
    by_cases h : p = q
    · subst h
      exact .inr (List.getElem?_set_self (List.getElem?_eq_some_iff.mp e).1)
    · left
      show (μ.ob.set p none)[q]? = some x
      rw [List.getElem?_set_ne h]; exact e
  new := fun b m => .inl ((List.mem_or_eq_of_mem_set m).resolve_right fun z => by cases z)
  hid := fun _ h => h
  newh := fun _ h => .inl h
theorem StoRep.let {S : Sto} {p : Nat} {a : Addr} (h : StoRep K H S μ) (hp : μ.ob[p]? = some (some a)) : StoRep K H (S.set p .gone) (μ.set p) := by
  have hl : p < μ.ob.length := (List.getElem?_eq_some_iff.mp hp).1
  have split : ∀ (q : Nat) b, (μ.set p).ob[q]? = some (some b) → p ≠ q ∧ μ.ob[q]? = some (some b) := fun q b e => by
    have e : (μ.ob.set p none)[q]? = some (some b) := e
    by_cases z : p = q
    · subst z; rw [List.getElem?_set_self hl] at e; cases e
    · rw [List.getElem?_set_ne z] at e; exact ⟨z, e⟩
  refine ⟨by simp [h.len, Mu.set], fun b mb => ⟨fun z => (h.hid b mb).1 ((List.mem_or_eq_of_mem_set z).resolve_right fun z => by cases z), (h.hid b mb).2⟩, fun q b x e1 e2 => ?_, fun q r b e1 e2 => h.inj q r b (split q b e1).2 (split r b e2).2, fun q e1 => ?_⟩
  · obtain ⟨n, e⟩ := split q b e1
    rw [List.getElem?_set_ne n] at e2
    exact (h.ob q b x e e2).up Ext.let rfl
  · by_cases z : p = q
    · subst z; exact List.getElem?_set_self (by rw [h.len]; exact hl)
    · have e1 : (μ.ob.set p none)[q]? = some none := e1
      rw [List.getElem?_set_ne z] at e1 ⊢; exact h.gone q e1
theorem StoRep.out {S : Sto} {p : Nat} {a : Addr} (h : StoRep K H S μ) (hp : μ.ob[p]? = some (some a)) : some a ∉ (μ.set p).ob := fun m => by
  obtain ⟨q, hq, e⟩ := List.getElem_of_mem m
  have e' : (μ.ob.set p none)[q]? = some (some a) := by
    have : (μ.set p).ob[q]? = some (some a) := by rw [List.getElem?_eq_getElem hq, e]
    exact this
  have hl : p < μ.ob.length := (List.getElem?_eq_some_iff.mp hp).1
  by_cases z : p = q
  · subst z; rw [List.getElem?_set_self hl] at e'; cases e'
  · rw [List.getElem?_set_ne z] at e'; exact z (h.inj p q a hp e')
theorem StoRep.outh {S : Sto} {p : Nat} {a : Addr} (h : StoRep K H S μ) (hp : μ.ob[p]? = some (some a)) : a ∉ μ.hid := fun m => (h.hid a m).1 (List.mem_of_getElem? hp)

/-! ### a list that is being made -/
theorem Ext.hide {p : Addr} {o : HO} (hp : H p = none) : Ext H μ (upd H p o) (μ.hide p) where
  tup := fun a xs e => by rw [upd_ne (ne_of_none e hp)]; exact e
  frz := fun a ob u e => by rw [upd_ne (ne_of_none e hp)]; exact e
  keep := fun a ob e _ => by rw [upd_ne (ne_of_none e hp)]; exact e
  stay := fun _ e => none_upd e
  pre := fun _ _ h => .inl h
  new := fun _ h => .inl h
  hid := fun _ h => List.mem_cons_of_mem _ h
  newh := fun a h => (List.mem_cons.mp h).elim (fun e => .inr (e ▸ hp)) .inl
theorem StoRep.hide {S : Sto} {p : Addr} {xs : List V} (h : StoRep K H S μ) (hp : H p = none) : StoRep K (upd H p (.lst xs)) S (μ.hide p) := by
  refine ⟨h.len, fun a m => ?_, fun q a ob e1 e2 => (h.ob q a ob e1 e2).up (Ext.hide hp) ?_, h.inj, h.gone⟩
  · rcases List.mem_cons.mp m with e | m
    · subst e; exact ⟨h.notin hp, xs, upd_same⟩
    · obtain ⟨ys, e⟩ := (h.hid a m).2
      exact ⟨(h.hid a m).1, ys, by rw [upd_ne (ne_of_none e hp)]; exact e⟩
  · obtain ⟨u, z, _⟩ := (h.ob q a ob e1 e2).there
    exact upd_ne (ne_of_none z hp)
mutual
theorem RepD.grow {p : Addr} {xs ys : List V} (hp : H p = some (.lst xs)) (hh : p ∈ μ.hid) : ∀ (d : D) (v : V), RepD K H μ d v → RepD K (upd H p (.lst ys)) μ d v
  | .none, _, h => by cases h; exact .non
  | .bool b, _, h => by cases h; exact .bl b
  | .int i, _, h => by cases h; exact .int i
  | .str s, _, h => by cases h; exact .str s
  | .tuple ds, _, h => by
    cases h with
    | tup ha hs => exact .tup (by rw [upd_ne (ne_of ha hp (by intro z; cases z))]; exact ha) (RepDs.grow hp hh ds _ hs)
  | .list ds, _, h => by
    cases h with
    | lst ha hn hq hs => exact .lst (by rw [upd_ne (by rintro rfl; exact hq hh)]; exact ha) hn hq (RepDs.grow hp hh ds _ hs)
  | .dict _, _, h => by cases h
theorem RepDs.grow {p : Addr} {xs ys : List V} (hp : H p = some (.lst xs)) (hh : p ∈ μ.hid) : ∀ (ds : List D) (vs : List V), RepDs K H μ ds vs → RepDs K (upd H p (.lst ys)) μ ds vs
  | [], _, h => by cases h; exact .nil
  | d :: ds, _, h => by
    cases h with
    | cons h1 h2 => exact .cons (RepD.grow hp hh d _ h1) (RepDs.grow hp hh ds _ h2)
end
theorem RepW.grow {p : Addr} {xs ys : List V} (hp : H p = some (.lst xs)) (hh : p ∈ μ.hid) : ∀ {w : W} {v : V}, RepW K H μ w v → RepW K (upd H p (.lst ys)) μ w v
  | .dat d, v, h => RepD.grow hp hh d v h
  | .obj _, v, h => h
  | .scr ds, v, h => by
    obtain ⟨a, vs, rfl, q, r⟩ := h
    refine ⟨a, vs, rfl, ?_, RepDs.grow hp hh _ _ r⟩
    rcases q with ⟨o, q⟩ | q
    · exact .inl ⟨o, by rw [upd_ne (ne_of q hp (by intro z; cases z))]; exact q⟩
    · exact .inr q
  | .cst ds, v, h => let ⟨a, vs, q1, q2, q3⟩ := h; ⟨a, vs, q1, q2, RepDs.grow hp hh _ _ q3⟩
theorem LocRep.grow {p : Addr} {xs ys : List V} (hp : H p = some (.lst xs)) (hh : p ∈ μ.hid) {l : Loc} {σ : L2.St} (h : LocRep K H μ l σ) : LocRep K (upd H p (.lst ys)) μ l σ :=
  ⟨h.1, fun i w q => let ⟨v, a, b⟩ := h.2 i w q; ⟨v, a, RepW.grow hp hh b⟩⟩
theorem StoRep.grow {S : Sto} {p : Addr} {xs ys : List V} (h : StoRep K H S μ) (hp : H p = some (.lst xs)) (hh : p ∈ μ.hid) : StoRep K (upd H p (.lst ys)) S μ := by
  have np : ∀ a, some a ∈ μ.ob → a ≠ p := fun a m e => (h.hid p hh).1 (e ▸ m)
  refine ⟨h.len, fun a m => ⟨(h.hid a m).1, ?_⟩, fun q a ob e1 e2 => ?_, h.inj, h.gone⟩
  · by_cases e : a = p
    · subst e; exact ⟨ys, upd_same⟩
    · obtain ⟨zs, z⟩ := (h.hid a m).2
      exact ⟨zs, by rw [upd_ne e]; exact z⟩
  · have r := h.ob q a ob e1 e2
    have ne := np a (List.mem_of_getElem? e1)
    cases ob with
    | lst ds => obtain ⟨vs, q1, q2⟩ := r; exact ⟨vs, by rw [upd_ne ne]; exact q1, RepDs.grow hp hh _ _ q2⟩
    | dic kvs => obtain ⟨vs, q1, q2⟩ := r; exact ⟨vs, by rw [upd_ne ne]; exact q1, Paired.mapP q2 fun _ _ z => ⟨z.1, RepW.grow hp hh z.2⟩⟩
    | gone => exact r.elim
/-- fewer are hidden -/
theorem RepD.less {hs : List Addr} (hl : ∀ a, a ∈ hs → a ∈ μ.hid) : ∀ (d : D) (v : V), RepD K H μ d v → RepD K H (μ.show hs) d v := by
  have e : ∀ (d : D) (v : V), RepD K H μ d v → RepD K H (μ.show hs) d v := fun d v h => RepD.rec (μ := μ) (motive_1 := fun d v _ => RepD K H (μ.show hs) d v) (motive_2 := fun ds vs _ => RepDs K H (μ.show hs) ds vs)
    .non .bl .int .str (fun ha _ ih => .tup ha ih) (fun {a _ _} ha hn hq _ ih => .lst ha hn (fun z => hq (hl a z)) ih) .nil (fun _ _ a b => .cons a b) h
  exact e
theorem RepDs.less {hs : List Addr} (hl : ∀ a, a ∈ hs → a ∈ μ.hid) : ∀ {ds : List D} {vs : List V}, RepDs K H μ ds vs → RepDs K H (μ.show hs) ds vs
  | _, _, .nil => .nil
  | _, _, .cons h t => .cons (RepD.less hl _ _ h) (RepDs.less hl t)
theorem RepW.less {hs : List Addr} (hl : ∀ a, a ∈ hs → a ∈ μ.hid) : ∀ {w : W} {v : V}, RepW K H μ w v → RepW K H (μ.show hs) w v
  | .dat d, v, h => RepD.less hl d v h
  | .obj _, v, h => h
  | .scr ds, v, h => let ⟨a, vs, q1, q2, q3⟩ := h; ⟨a, vs, q1, q2, RepDs.less hl q3⟩
  | .cst ds, v, h => let ⟨a, vs, q1, q2, q3⟩ := h; ⟨a, vs, q1, q2, RepDs.less hl q3⟩
theorem RepO.less {hs : List Addr} (hl : ∀ a, a ∈ hs → a ∈ μ.hid) {o : Ob} {a : Addr} (h : RepO K H μ o a) : RepO K H (μ.show hs) o a := by
  cases o with
  | lst ds => obtain ⟨vs, q1, q2⟩ := h; exact ⟨vs, q1, RepDs.less hl q2⟩
  | dic kvs => obtain ⟨vs, q1, q2⟩ := h; exact ⟨vs, q1, Paired.mapP q2 fun _ _ z => ⟨z.1, RepW.less hl z.2⟩⟩
  | gone => exact h
theorem StoRep.less {S : Sto} {hs : List Addr} (h : StoRep K H S μ) (hl : ∀ a, a ∈ hs → a ∈ μ.hid) : StoRep K H S (μ.show hs) :=
  ⟨h.len, fun a m => h.hid a (hl a m), fun q a ob e1 e2 => (h.ob q a ob e1 e2).less hl, h.inj, h.gone⟩
/-- from ahead of the making to a state within -/
theorem Ext.made {H1 : Hp} {μ1 : Mu} {p : Addr} (hp : H p = none) (e : Ext H μ H1 (μ1.show μ.hid)) {o : HO} : Ext H μ (upd H1 p o) (μ1.show μ.hid) := by
  have ne : ∀ a u, H a = some u → a ≠ p := fun a u q => ne_of_none q hp
  exact ⟨fun a xs q => by rw [upd_ne (ne a _ q)]; exact e.tup a xs q, fun a ob u q => by rw [upd_ne (ne a _ q)]; exact e.frz a ob u q, fun a ob q n => by rw [upd_ne (ne a _ q)]; exact e.keep a ob q n,
    fun a q => e.stay a (none_upd q), e.pre, e.new, e.hid, e.newh⟩

theorem Ext.both (hs : List Addr) (e : Ext H μ H' μ') : Ext H (μ.show hs) H' (μ'.show hs) := ⟨e.tup, e.frz, e.keep, e.stay, e.pre, e.new, fun _ h => h, fun _ h => .inl h⟩
/-- what was hidden is a changing object now -/
theorem RepD.live {p : Addr} {hs : List Addr} (hp : p ∈ μ.hid) (hl : ∀ a, a ∈ hs → a ∈ μ.hid) (d : D) (v : V) (h : RepD K H μ d v) : RepD K H ((μ.show hs).push p) d v :=
  RepD.rec (μ := μ) (motive_1 := fun d v _ => RepD K H ((μ.show hs).push p) d v) (motive_2 := fun ds vs _ => RepDs K H ((μ.show hs).push p) ds vs)
    .non .bl .int .str (fun ha _ ih => .tup ha ih) (fun {a _ _} ha hn hq _ ih => .lst ha (fun z => by
      rcases List.mem_append.mp z with z | z
      · exact hn z
      · simp at z; subst z; exact hq hp) (fun z => hq (hl a z)) ih) .nil (fun _ _ a b => .cons a b) h
theorem RepDs.live {p : Addr} {hs : List Addr} (hp : p ∈ μ.hid) (hl : ∀ a, a ∈ hs → a ∈ μ.hid) : ∀ {ds : List D} {vs : List V}, RepDs K H μ ds vs → RepDs K H ((μ.show hs).push p) ds vs
  | _, _, .nil => .nil
  | _, _, .cons h t => .cons (RepD.live hp hl _ _ h) (RepDs.live hp hl t)
theorem RepW.live {p : Addr} {hs : List Addr} (hp : p ∈ μ.hid) (hl : ∀ a, a ∈ hs → a ∈ μ.hid) : ∀ {w : W} {v : V}, RepW K H μ w v → RepW K H ((μ.show hs).push p) w v
  | .dat d, v, h => RepD.live hp hl d v h
  | .obj q, v, h => by
    have h : RepA μ.ob[q]? v := h
    show RepA (μ.ob ++ [some p])[q]? v
    cases e : μ.ob[q]? with
    | none => rw [e] at h; exact h.elim
    | some x =>
      rw [List.getElem?_append_left (List.getElem?_eq_some_iff.mp e).1, e]
      rw [e] at h; exact h
  | .scr ds, v, h => let ⟨a, vs, q1, q2, q3⟩ := h; ⟨a, vs, q1, q2, RepDs.live hp hl q3⟩
  | .cst ds, v, h => let ⟨a, vs, q1, q2, q3⟩ := h; ⟨a, vs, q1, q2, RepDs.live hp hl q3⟩
theorem RepO.live {p : Addr} {hs : List Addr} (hp : p ∈ μ.hid) (hl : ∀ a, a ∈ hs → a ∈ μ.hid) {o : Ob} {a : Addr} (h : RepO K H μ o a) : RepO K H ((μ.show hs).push p) o a := by
  cases o with
  | lst ds => obtain ⟨vs, q1, q2⟩ := h; exact ⟨vs, q1, RepDs.live hp hl q2⟩
  | dic kvs => obtain ⟨vs, q1, q2⟩ := h; exact ⟨vs, q1, Paired.mapP q2 fun _ _ z => ⟨z.1, RepW.live hp hl z.2⟩⟩
  | gone => exact h
theorem StoRep.liveP {S : Sto} {p : Addr} {hs : List Addr} {ob : Ob} (h : StoRep K H S μ) (hp : p ∈ μ.hid) (hl : ∀ a, a ∈ hs → a ∈ μ.hid) (hn : p ∉ hs) (new : RepO K H ((μ.show hs).push p) ob p) : StoRep K H (S ++ [ob]) ((μ.show hs).push p) := by
  have npo := (h.hid p hp).1
  have split : ∀ (q : Nat) x, ((μ.show hs).push p).ob[q]? = some x → (q < μ.ob.length ∧ μ.ob[q]? = some x) ∨ (q = μ.ob.length ∧ x = some p) := fun q x e => by
    have e : (μ.ob ++ [some p])[q]? = some x := e
    by_cases hq : q < μ.ob.length
    · rw [List.getElem?_append_left hq] at e; exact .inl ⟨hq, e⟩
    · rw [List.getElem?_append_right (by omega)] at e
      have hz : q - μ.ob.length = 0 := by
        cases z : q - μ.ob.length with
        | zero => rfl
        | succ n => rw [z] at e; simp at e
      rw [hz] at e; simp at e
      exact .inr ⟨by omega, e.symm⟩
  refine ⟨by simp [h.len, Mu.push, Mu.show], fun a m => ⟨fun z => ?_, (h.hid a (hl a m)).2⟩, fun q a x e1 e2 => ?_, fun q r a e1 e2 => ?_, fun q e1 => ?_⟩
  · rcases List.mem_append.mp z with z | z
    · exact (h.hid a (hl a m)).1 z
    · simp at z; subst z; exact hn m
  · rcases split q _ e1 with ⟨hq, e⟩ | ⟨hq, e⟩
    · rw [List.getElem?_append_left (by rw [h.len]; exact hq)] at e2
      exact (h.ob q a x e e2).live hp hl
    · cases e
      subst hq
      rw [← h.len, List.getElem?_append_right (Nat.le_refl _)] at e2
      simp at e2; subst e2
      exact new
  · have nope : ∀ (i : Nat), μ.ob[i]? = some (some p) → False := fun i e => npo (List.mem_of_getElem? e)
    rcases split q _ e1 with ⟨hq, e⟩ | ⟨hq, e⟩
    · rcases split r _ e2 with ⟨hr, f⟩ | ⟨hr, f⟩
      · exact h.inj q r a e f
      · cases f; exact (nope q e).elim
    · rcases split r _ e2 with ⟨hr, f⟩ | ⟨hr, f⟩
      · cases e; exact (nope r f).elim
      · omega
  · rcases split q _ e1 with ⟨hq, e⟩ | ⟨hq, e⟩
    · rw [List.getElem?_append_left (by rw [h.len]; exact hq)]
      exact h.gone q e
    · cases e
theorem Ext.liveP {H1 : Hp} {μ1 : Mu} {p : Addr} (hp : H p = none) (e : Ext H μ H1 (μ1.show μ.hid)) : Ext H μ H1 ((μ1.show μ.hid).push p) :=
  ⟨e.tup, e.frz, e.keep, e.stay, fun q x h => by
    have ap : ∀ y, μ1.ob[q]? = some y → (μ1.ob ++ [some p])[q]? = some y := fun y z => by rw [List.getElem?_append_left (List.getElem?_eq_some_iff.mp z).1]; exact z
    exact (e.pre q x h).imp (ap _) (ap _), fun a m => by
    rcases List.mem_append.mp m with m | m
    · exact e.new a m
    · simp at m; subst m; exact .inr hp, e.hid, e.newh⟩

/-! ### behind a call -/
theorem RepD.cut {n : Nat} : ∀ (d : D) (v : V), RepD K H μ d v → RepD K H (μ.cut n) d v := fun d v h =>
  RepD.rec (μ := μ) (motive_1 := fun d v _ => RepD K H (μ.cut n) d v) (motive_2 := fun ds vs _ => RepDs K H (μ.cut n) ds vs)
    .non .bl .int .str (fun ha _ ih => .tup ha ih) (fun ha hn hq _ ih => .lst ha (fun z => hn (List.mem_of_mem_take z)) hq ih) .nil (fun _ _ a b => .cons a b) h
theorem RepDs.cut {n : Nat} : ∀ {ds : List D} {vs : List V}, RepDs K H μ ds vs → RepDs K H (μ.cut n) ds vs
  | _, _, .nil => .nil
  | _, _, .cons h t => .cons (RepD.cut _ _ h) (RepDs.cut t)
theorem RepW.cut {n : Nat} : ∀ {w : W} {v : V}, below n w = true → RepW K H μ w v → RepW K H (μ.cut n) w v
  | .dat d, v, _, h => RepD.cut d v h
  | .obj p, v, hb, h => by
    have hp : p < n := of_decide_eq_true hb
    have h : RepA μ.ob[p]? v := h
    show RepA (μ.ob.take n)[p]? v
    rw [List.getElem?_take_of_lt hp]
    exact h
  | .scr ds, v, _, h => let ⟨a, vs, q1, q2, q3⟩ := h; ⟨a, vs, q1, q2, RepDs.cut q3⟩
  | .cst ds, v, _, h => let ⟨a, vs, q1, q2, q3⟩ := h; ⟨a, vs, q1, q2, RepDs.cut q3⟩
theorem RepKs.cut {n : Nat} : ∀ {kvs : List (Key × W)} {vs : List (Key × V)}, (kvs.all fun kv => below n kv.2) = true → RepKs K H μ kvs vs → RepKs K H (μ.cut n) kvs vs
  | _, _, _, .nil => .nil
  | kv :: kvs, _, hb, .cons h t => by
    simp only [List.all_cons, Bool.and_eq_true] at hb
    exact .cons ⟨h.1, RepW.cut hb.1 h.2⟩ (RepKs.cut hb.2 t)
theorem StoRep.cut {S : Sto} {n : Nat} (h : StoRep K H S μ) (hb : (S.take n).all (obBelow n) = true) : StoRep K H (S.take n) (μ.cut n) := by
  have inn : ∀ {α : Type} {l : List α} {q : Nat} {x : α}, (l.take n)[q]? = some x → q < n ∧ l[q]? = some x := fun {α l q x} e => by
    by_cases hq : q < n
    · rw [List.getElem?_take_of_lt hq] at e; exact ⟨hq, e⟩
    · rw [List.getElem?_eq_none (by rw [List.length_take]; omega)] at e; cases e
  refine ⟨by simp [Mu.cut, List.length_take, h.len], fun a m => ⟨fun z => (h.hid a m).1 (List.mem_of_mem_take z), (h.hid a m).2⟩, fun q a ob e1 e2 => ?_, fun q r a e1 e2 => h.inj q r a (inn e1).2 (inn e2).2, fun q e1 => ?_⟩
  · have r := h.ob q a ob (inn e1).2 (inn e2).2
    have b : obBelow n ob = true := List.all_eq_true.mp hb ob (List.mem_of_getElem? e2)
    cases ob with
    | lst ds => obtain ⟨vs, q1, q2⟩ := r; exact ⟨vs, q1, RepDs.cut q2⟩
    | dic kvs => obtain ⟨vs, q1, q2⟩ := r; exact ⟨vs, q1, RepKs.cut b q2⟩
    | gone => exact r.elim
  · rw [List.getElem?_take_of_lt (inn e1).1]; exact h.gone q (inn e1).2
theorem Ext.cut {n : Nat} (hn : μ.ob.length ≤ n) (e : Ext H μ H' μ') : Ext H μ H' (μ'.cut n) where
  tup := e.tup
  frz := e.frz
  keep := e.keep
  stay := e.stay
  pre := fun p x h => by
    have hp : p < n := Nat.lt_of_lt_of_le (List.getElem?_eq_some_iff.mp h).1 hn
    rcases e.pre p x h with z | z
    · exact .inl (by show (μ'.ob.take n)[p]? = _; rw [List.getElem?_take_of_lt hp]; exact z)
    · exact .inr (by show (μ'.ob.take n)[p]? = _; rw [List.getElem?_take_of_lt hp]; exact z)
  new := fun a m => e.new a (List.mem_of_mem_take m)
  hid := e.hid
  newh := e.newh
end
end MP
set_option Elab.async false
set_option linter.all false
set_option maxRecDepth 100000
set_option maxHeartbeats 4000000
/-! What the operators and built-ins do to data. -/
namespace MP
open PySem PySem.Spec PyProof.Rows L2

/-- a wish about exceptions -/
abbrev Wx := Exn → Hp → Prop
section
variable {α β : Type} {K : PySem.W.Frag} {U : Wx} {H H' : Hp} {μ μ' : Mu}
/-- wherever the state may lie behind r: R -/
def PostE {α : Type} (K : PySem.W.Frag) (U : Wx) (H : Hp) (μ : Mu) (r : Rs α) (R : α → Hp → Mu → Sto → Prop) : Prop := match r with
  | .ok a S' => ∀ H' μ', Ext H μ H' μ' → StoRep K H' S' μ' → R a H' μ' S'
  | .ex x S' => ∀ H' μ', Ext H μ H' μ' → StoRep K H' S' μ' → U x H'
  | .no => False
theorem PostE.up {r : Rs α} {R : α → Hp → Mu → Sto → Prop} (h : PostE K U H μ r R) (e : Ext H μ H' μ') : PostE K U H' μ' r R := by
  cases r with
  | ok a S' => exact fun H2 μ2 e2 s => h H2 μ2 (e.trans e2) s
  | ex x S' => exact fun H2 μ2 e2 s => h H2 μ2 (e.trans e2) s
  | no => exact h
theorem PostE.bind {r : Rs α} {f : α → Sto → Rs β} {R : β → Hp → Mu → Sto → Prop} (h : PostE K U H μ (r.bind f) R) : PostE K U H μ r fun a H' μ' S' => PostE K U H' μ' (f a S') R := by
  cases r with
  | ok a S' => exact fun H2 μ2 e2 s => PostE.up h e2
  | ex x S' => exact h
  | no => exact h
theorem PostE.imp {r : Rs α} {R R' : α → Hp → Mu → Sto → Prop} (h : PostE K U H μ r R) (i : ∀ a H' μ' S', Ext H μ H' μ' → StoRep K H' S' μ' → R a H' μ' S' → R' a H' μ' S') : PostE K U H μ r R' := by
  cases r with
  | ok a S' => exact fun H2 μ2 e2 s => i a H2 μ2 S' e2 s (h H2 μ2 e2 s)
  | ex x S' => exact h
  | no => exact h
end
/-- a value's post -/
def VP (K : PySem.W.Frag) (Q : VK) : W → Hp → Mu → Sto → Prop := fun w H' μ' _ => ∀ v, RepW K H' μ' w v → Q v H'
def DP (K : PySem.W.Frag) (Q : VK) : D → Hp → Mu → Sto → Prop := fun d H' μ' _ => ∀ v, RepD K H' μ' d v → Q v H'
/-- readings made of meanings -/
def TEof (K : PySem.W.Frag) (U : Wx) (r : Loc → Sto → Rs W) : TE := fun σ H Q => ∃ l S μ, LocRep K H μ l σ ∧ StoRep K H S μ ∧ PostE K U H μ (r l S) (VP K Q)
def TAof (K : PySem.W.Frag) (U : Wx) (r : Loc → Sto → Rs (List W)) : TA := fun σ H Q => ∃ l S μ, LocRep K H μ l σ ∧ StoRep K H S μ ∧ PostE K U H μ (r l S) fun ws H' μ' _ => ∀ vs, RepWs K H' μ' ws vs → Q vs H'
def TTof (K : PySem.W.Frag) (U : Wx) (r : Loc → Sto → Rs W) : TT := fun σ H Q => ∃ l S μ, LocRep K H μ l σ ∧ StoRep K H S μ ∧ PostE K U H μ (r l S) fun w H' _ _ => ∃ b, w = .dat (.bool b) ∧ Q b H'
def rOf (K : PySem.W.Frag) (U : Wx) (f : Sto → W → W → Rs W) : R2 := fun v u H Q => ∃ S μ x y, StoRep K H S μ ∧ RepW K H μ x v ∧ RepW K H μ y u ∧ PostE K U H μ (f S x y) (VP K Q)
def rOf1 (K : PySem.W.Frag) (U : Wx) (f : Sto → W → Rs W) : V → Hp → VK → Prop := fun v H Q => ∃ S μ x, StoRep K H S μ ∧ RepW K H μ x v ∧ PostE K U H μ (f S x) (VP K Q)
def rOfL (K : PySem.W.Frag) (U : Wx) (f : Sto → List W → Rs W) : List V → Hp → VK → Prop := fun vs H Q => ∃ S μ ws, StoRep K H S μ ∧ RepWs K H μ ws vs ∧ PostE K U H μ (f S ws) (VP K Q)

/-! ### data that is read -/
inductive RepT (K : PySem.W.Frag) (H : Hp) (μ : Mu) : D → V → Prop
  | dat {d : D} {v : V} : RepD K H μ d v → RepT K H μ d v
  | live {a : Addr} {vs : List V} {ds : List D} : H a = some (.lst vs) → RepDs K H μ ds vs → RepT K H μ (.list ds) (.ref a)
  | cst {a : Addr} {vs : List V} {ds : List D} : KTup K a vs → RepDs K H μ ds vs → RepT K H μ (.tuple ds) (.ref a)
section
variable {K : PySem.W.Frag} {U : Wx} {H H' : Hp} {μ μ' : Mu} {S : Sto}
theorem rdD_rep (hS : StoRep K H S μ) {w : W} {v : V} {d : D} (h : RepW K H μ w v) (e : rdD S w = some d) : RepT K H μ d v := by
  cases w with
  | dat d' => cases e; exact .dat h
  | scr ds => cases e
  | cst ds => cases e
  | obj p =>
    have h : RepA μ.ob[p]? v := h
    have e : obD S[p]? = some d := e
    cases q : S[p]? with
    | none => rw [q] at e; cases e
    | some o =>
      rw [q] at e
      cases o with
      | lst ds =>
        cases e
        cases m : μ.ob[p]? with
        | none => rw [m] at h; exact h.elim
        | some x =>
          rw [m] at h
          cases x with
          | none => rw [hS.gone p m] at q; cases q
          | some a =>
            obtain ⟨vs, r1, r2⟩ := hS.ob p a _ m q
            cases (show v = .ref a from h)
            exact .live r1 r2
      | dic _ => cases e
      | gone => cases e
theorem rdC_rep (hS : StoRep K H S μ) {w : W} {v : V} {d : D} (h : RepW K H μ w v) (e : rdC S w = some d) : RepT K H μ d v := by
  cases w with
  | cst ds =>
    cases e
    obtain ⟨a, vs, rfl, k, r⟩ := h
    exact .cst k r
  | dat d' => exact rdD_rep hS h e
  | scr ds => exact rdD_rep hS h e
  | obj p => exact rdD_rep hS h e
theorem obj_lst (hS : StoRep K H S μ) {p : Nat} {v : V} {ds : List D} (h : RepW K H μ (.obj p) v) (e : S[p]? = some (.lst ds)) : ∃ a vs, v = .ref a ∧ μ.ob[p]? = some (some a) ∧ H a = some (.lst vs) ∧ RepDs K H μ ds vs := by
  have h : RepA μ.ob[p]? v := h
  cases m : μ.ob[p]? with
  | none => rw [m] at h; exact h.elim
  | some x =>
    rw [m] at h
    cases x with
    | none => rw [hS.gone p m] at e; cases e
    | some a =>
      obtain ⟨vs, r1, r2⟩ := hS.ob p a _ m e
      exact ⟨a, vs, h, rfl, r1, r2⟩
theorem obj_dic (hS : StoRep K H S μ) {p : Nat} {v : V} {ds : List (Key × W)} (h : RepW K H μ (.obj p) v) (e : S[p]? = some (.dic ds)) : ∃ a vs, v = .ref a ∧ μ.ob[p]? = some (some a) ∧ H a = some (.dK vs) ∧ RepKs K H μ ds vs := by
  have h : RepA μ.ob[p]? v := h
  cases m : μ.ob[p]? with
  | none => rw [m] at h; exact h.elim
  | some x =>
    rw [m] at h
    cases x with
    | none => rw [hS.gone p m] at e; cases e
    | some a =>
      obtain ⟨vs, r1, r2⟩ := hS.ob p a _ m e
      exact ⟨a, vs, h, rfl, r1, r2⟩
theorem RepT.int {i : Int} {v : V} (h : RepT K H μ (.int i) v) : v = .int i := by cases h with | dat h => cases h; rfl
theorem RepT.bl {i : Bool} {v : V} (h : RepT K H μ (.bool i) v) : v = .bl i := by cases h with | dat h => cases h; rfl
theorem RepT.str {i : Str} {v : V} (h : RepT K H μ (.str i) v) : v = .str i := by cases h with | dat h => cases h; rfl
theorem RepT.non {v : V} (h : RepT K H μ .none v) : v = .non := by cases h with | dat h => cases h; rfl
theorem RepT.lst {ds : List D} {v : V} (h : RepT K H μ (.list ds) v) : ∃ a vs, v = .ref a ∧ H a = some (.lst vs) ∧ RepDs K H μ ds vs := by
  cases h with
  | dat h => cases h with | lst a n _ r => exact ⟨_, _, rfl, a, r⟩
  | live a r => exact ⟨_, _, rfl, a, r⟩
theorem rdD_tup {S : Sto} {w : W} {ds : List D} {v : V} (h : RepW K H μ w v) (e : rdD S w = some (.tuple ds)) : RepD K H μ (.tuple ds) v := by
  cases w with
  | dat d => cases e; exact h
  | scr _ => cases e
  | cst _ => cases e
  | obj p =>
    have e : obD S[p]? = some (.tuple ds) := e
    unfold obD at e
    split at e <;> cases e
theorem sqT {a : Addr} {vs : List V} (h : H a = some (.tup vs) ∨ KTup K a vs) : SqT K H a vs := h.elim SqT.of Or.inr
theorem RepT.tup {ds : List D} {v : V} (h : RepT K H μ (.tuple ds) v) : ∃ a vs, v = .ref a ∧ SqT K H a vs ∧ RepDs K H μ ds vs := by
  cases h with
  | dat h => cases h with
    | tup a r => exact ⟨_, _, rfl, sqT (.inl a), r⟩
  | cst a r => exact ⟨_, _, rfl, sqT (.inr a), r⟩
mutual
theorem RepD.dp : ∀ (d : D) (v : V), RepD K H μ d v → Dp K H v d
  | .none, _, h => by cases h; exact .non
  | .bool b, _, h => by cases h; exact .bl b
  | .int i, _, h => by cases h; exact .int i
  | .str s, _, h => by cases h; exact .str s
  | .tuple ds, _, h => by
    cases h with
    | tup ha hs => exact .tup (sqT (.inl ha)) (RepDs.dp ds _ hs)
  | .list ds, _, h => by
    cases h with
    | lst ha hn _ hs => exact .lst (SqL.of ha) (RepDs.dp ds _ hs)
  | .dict _, _, h => by cases h
theorem RepDs.dp : ∀ (ds : List D) (vs : List V), RepDs K H μ ds vs → DpAll K H vs ds
  | [], _, h => by cases h; exact .nil
  | d :: ds, _, h => by
    cases h with
    | cons h1 h2 => exact .cons (RepD.dp d _ h1) (RepDs.dp ds _ h2)
end
theorem RepT.dp {d : D} {v : V} (h : RepT K H μ d v) : Dp K H v d := by
  cases h with
  | dat h => exact RepD.dp _ _ h
  | live a r => exact .lst (SqL.of a) (RepDs.dp _ _ r)
  | cst a r => exact .tup (sqT (.inr a)) (RepDs.dp _ _ r)
/-- a pure answer: a value without an address -/
theorem vp_here {w : W} {v : V} {Q : VK} (hS : StoRep K H S μ) (h : PostE K U H μ (.ok w S) (VP K Q)) (r : RepW K H μ w v) : Q v H := h H μ (Ext.refl H μ) hS v r
/-- a new list or tuple -/
theorem vp_lst {ds : List D} {vs : List V} {Q : VK} (hS : StoRep K H S μ) (h : PostE K U H μ (.ok (.dat (.list ds)) S) (VP K Q)) (r : RepDs K H μ ds vs) : ∀ p, H p = none → Q (.ref p) (upd H p (.lst vs)) := fun p hp =>
  h _ μ (Ext.fresh hp) (hS.fresh hp) (.ref p) (.lst upd_same (hS.notin hp) (hS.nohid hp) (r.up (Ext.fresh hp)))
theorem vp_tup {ds : List D} {vs : List V} {Q : VK} (hS : StoRep K H S μ) (h : PostE K U H μ (.ok (.dat (.tuple ds)) S) (VP K Q)) (r : RepDs K H μ ds vs) : ∀ p, H p = none → Q (.ref p) (upd H p (.tup vs)) := fun p hp =>
  h _ μ (Ext.fresh hp) (hS.fresh hp) (.ref p) (.tup upd_same (r.up (Ext.fresh hp)))
/-- a new list, of either kind -/
theorem vp_mk {m : Bool} {ds : List D} {vs : List V} {Q : VK} (hS : StoRep K H S μ) (h : PostE K U H μ (mk m (.list ds) S) (VP K Q)) (r : RepDs K H μ ds vs) : ∀ p, H p = none → Q (.ref p) (upd H p (.lst vs)) := fun p hp => by
  cases m with
  | false => exact vp_lst hS h r p hp
  | true =>
    have e := Ext.push (μ := μ) (o := .lst vs) hp
    refine h _ (μ.push p) e (hS.push (ob := .lst ds) hp ⟨vs, upd_same, r.up e⟩) (.ref p) ?_
    show RepA (μ.ob ++ [some p])[S.length]? (.ref p)
    rw [hS.len, List.getElem?_append_right (Nat.le_refl _)]
    simp [RepA]
/-- an object is written, a pure value given -/
theorem vp_put {p : Nat} {a : Addr} {ob : Ob} {o : HO} {w : W} {v : V} {Q : VK} (hS : StoRep K H S μ) (hp : μ.ob[p]? = some (some a)) (new : RepO K (upd H a o) μ ob a) (h : PostE K U H μ (.ok w (S.set p ob)) (VP K Q)) (r : RepW K (upd H a o) μ w v) : Q v (upd H a o) :=
  h _ μ (Ext.write hS hp) (hS.write hp new) v r
end

/-! ### readings of parts -/
section
variable {K : PySem.W.Frag} {U : Wx} {σ : L2.St} {H : Hp} {Q : VK}
theorem te_bin {ra rb : Loc → Sto → Rs W} {f : Sto → W → W → Rs W} (h : TEof K U (fun l S => (ra l S).bind fun x S1 => (rb l S1).bind fun y S2 => f S2 x y) σ H Q) : tOp (rOf K U f) (TEof K U ra) (TEof K U rb) σ H Q := by
  obtain ⟨l, S, μ, hl, hS, hp⟩ := h
  refine ⟨l, S, μ, hl, hS, hp.bind.imp fun x H1 μ1 S1 e1 s1 q1 v rv => ⟨l, S1, μ1, hl.up e1, s1, q1.bind.imp fun y H2 μ2 S2 e2 s2 q2 u ru => ⟨S2, μ2, x, y, s2, rv.up e2, ru, q2⟩⟩⟩
theorem te_un {ra : Loc → Sto → Rs W} {f : Sto → W → Rs W} (h : TEof K U (fun l S => (ra l S).bind fun x S1 => f S1 x) σ H Q) : tUn (rOf1 K U f) (TEof K U ra) σ H Q := by
  obtain ⟨l, S, μ, hl, hS, hp⟩ := h
  exact ⟨l, S, μ, hl, hS, hp.bind.imp fun x H1 μ1 S1 e1 s1 q1 v rv => ⟨S1, μ1, x, s1, rv, q1⟩⟩
theorem te_args {ra : Loc → Sto → Rs (List W)} {f : Sto → List W → Rs W} (h : TEof K U (fun l S => (ra l S).bind fun x S1 => f S1 x) σ H Q) : TAof K U ra σ H fun vs H1 => rOfL K U f vs H1 Q := by
  obtain ⟨l, S, μ, hl, hS, hp⟩ := h
  exact ⟨l, S, μ, hl, hS, hp.bind.imp fun x H1 μ1 S1 e1 s1 q1 v rv => ⟨S1, μ1, x, s1, rv, q1⟩⟩
end
theorem PE.imp {X : Cx} {e : Expr} {t t' : TE} (h : PE X e t) (i : ∀ σ H Q, t' σ H Q → t σ H Q) : PE X e t' := ⟨fun pins s σ H Q I q => h.run pins s σ H Q I (i σ H Q q)⟩
theorem PT.imp {X : Cx} {e : Expr} {t t' : TT} (h : PT X e t) (i : ∀ σ H Q, t' σ H Q → t σ H Q) : PT X e t' := ⟨fun pins s σ H Q I q => h.run pins s σ H Q I (i σ H Q q)⟩
theorem PA.imp {X : Cx} {e : List Expr} {t t' : TA} (h : PA X e t) (i : ∀ σ H Q, t' σ H Q → t σ H Q) : PA X e t' := ⟨fun pos pins s σ H Q I q => h.run pos pins s σ H Q I (i σ H Q q)⟩
theorem PS.imp {X : Cx} {e : Stmt} {t t' : TS} (h : PS X e t) (i : ∀ D σ H, t' D σ H → t D σ H) : PS X e t' := ⟨fun pins s σ H D I q => h.run pins s σ H D I (i D σ H q)⟩
theorem PSs.imp {X : Cx} {e : List Stmt} {t t' : TS} (h : PSs X e t) (i : ∀ D σ H, t' D σ H → t D σ H) : PSs X e t' := ⟨fun pins s σ H D I q => h.run pins s σ H D I (i D σ H q)⟩

/-! ### the operators -/
section
variable {X : Cx} {U : Wx}
def opOf : BO → Operator
  | .add => .Add | .sub => .Sub | .mul => .Mult | .fdiv => .FloorDiv | .mod => .Mod | .shl => .LShift | .shr => .RShift | .band => .BitAnd | .bor => .BitOr | .bxor => .BitXor
theorem binW_at {S : Sto} {op : BO} {x y : W} {K : PySem.W.Frag} {H : Hp} {μ : Mu} {R : W → Hp → Mu → Sto → Prop} (h : PostE K U H μ (binW S op x y) R) : ∃ dx dy d, rdD S x = some dx ∧ rdD S y = some dy ∧ binD op dx dy = some d ∧ PostE K U H μ (.ok (.dat d) S) R := by
  unfold binW at h
  cases e1 : rdD S x with
  | none => rw [e1] at h; exact h.elim
  | some dx =>
    cases e2 : rdD S y with
    | none => rw [e1, e2] at h; exact h.elim
    | some dy =>
      rw [e1, e2] at h
      have h : PostE K U H μ (optD (binD op dx dy) S) R := h
      cases e3 : binD op dx dy with
      | none => rw [e3] at h; exact h.elim
      | some d => rw [e3] at h; exact ⟨dx, dy, d, rfl, rfl, e3, h⟩
theorem or_binW (op : BO) : OpR X (binaryOp (opOf op)) (rOf X.K U fun S x y => binW S op x y) := by
  intro pins s σ H x y v u Q I rx ry h
  obtain ⟨S, μ, wx, wy, hS, hx, hy, hp⟩ := h
  obtain ⟨dx, dy, d, e1, e2, e3, hp⟩ := binW_at hp
  have tx := rdD_rep hS hx e1
  have ty := rdD_rep hS hy e2
  cases op with
  | add =>
    cases dx <;> cases dy <;> simp only [binD] at e3 <;> try cases e3
    · obtain rfl := tx.int
      obtain rfl := ty.int
      exact op_add pins s σ H _ _ v u Q I rx ry ⟨_, _, rfl, rfl, vp_here hS hp (.int _)⟩
    · obtain rfl := tx.str
      obtain rfl := ty.str
      split at e3
      · cases e3
        exact op_add_str pins s σ H _ _ v u Q I rx ry ⟨_, _, rfl, rfl, by assumption, vp_here hS hp (.str _)⟩
      · cases e3
    · obtain ⟨a, vs, rfl, ha, hr⟩ := tx.lst
      obtain ⟨b, us, rfl, hb, hq⟩ := ty.lst
      split at e3
      · cases e3
        rename_i hz
        rw [hr.length, hq.length] at hz
        exact op_cat pins s σ H _ _ v u Q I rx ry ⟨_, _, _, _, rfl, rfl, ha, hb, hz, vp_lst hS hp (hr.append hq)⟩
      · cases e3
    · obtain ⟨a, vs, rfl, ha, hr⟩ := tx.tup
      obtain ⟨b, us, rfl, hb, hq⟩ := ty.tup
      split at e3
      · cases e3
        rename_i hz
        have hz' := hz
        rw [hr.length, hq.length] at hz'
        refine op_catA pins s σ H _ _ v u Q I rx ry ⟨_, _, _, _, rfl, rfl, ha, hb, hz', fun e => ?_, fun _ e => ?_, fun _ _ => vp_tup hS hp (hr.append hq)⟩
        · subst e
          cases hr
          exact vp_here hS hp (rdD_tup hy e2)
        · subst e
          cases hq
          rw [List.append_nil] at hp
          exact vp_here hS hp (rdD_tup hx e1)
      · cases e3
  | sub =>
    cases dx <;> cases dy <;> simp only [binD] at e3 <;> try cases e3
    obtain rfl := tx.int
    obtain rfl := ty.int
    exact op_sub pins s σ H _ _ v u Q I rx ry ⟨_, _, rfl, rfl, vp_here hS hp (.int _)⟩
  | mul =>
    cases dx <;> cases dy <;> simp only [binD] at e3 <;> try cases e3
    · obtain rfl := tx.int
      obtain rfl := ty.int
      split at e3
      · cases e3
        exact op_mulW pins s σ H _ _ v u Q I rx ry ⟨_, _, rfl, rfl, by assumption, vp_here hS hp (.int _)⟩
      · cases e3
    · obtain ⟨a, vs, rfl, ha, hr⟩ := tx.lst
      obtain rfl := ty.int
      split at e3
      · cases e3
        rename_i hz
        obtain ⟨h1, h2, h3⟩ := hz
        rw [hr.length] at h3
        exact op_rep pins s σ H _ _ v u Q I rx ry ⟨_, _, _, rfl, rfl, ha, h1, h2, h3, vp_lst hS hp (hr.rep _)⟩
      · cases e3
  | fdiv =>
    cases dx <;> cases dy <;> simp only [binD] at e3 <;> try cases e3
    obtain rfl := tx.int
    obtain rfl := ty.int
    split at e3
    · cases e3
      exact op_fdivW pins s σ H _ _ v u Q I rx ry ⟨_, _, rfl, rfl, by assumption, vp_here hS hp (.int _)⟩
    · cases e3
  | mod =>
    cases dx <;> cases dy <;> simp only [binD] at e3 <;> try cases e3
    obtain rfl := tx.int
    obtain rfl := ty.int
    split at e3
    · cases e3
      exact op_mod pins s σ H _ _ v u Q I rx ry ⟨_, _, rfl, rfl, by assumption, vp_here hS hp (.int _)⟩
    · cases e3
  | shl =>
    cases dx <;> cases dy <;> simp only [binD] at e3 <;> try cases e3
    obtain rfl := tx.int
    obtain rfl := ty.int
    split at e3
    · cases e3
      exact op_shl pins s σ H _ _ v u Q I rx ry ⟨_, _, rfl, rfl, by assumption, vp_here hS hp (.int _)⟩
    · cases e3
  | shr =>
    cases dx <;> cases dy <;> simp only [binD] at e3 <;> try cases e3
    obtain rfl := tx.int
    obtain rfl := ty.int
    split at e3
    · cases e3
      exact op_shr pins s σ H _ _ v u Q I rx ry ⟨_, _, rfl, rfl, by assumption, vp_here hS hp (.int _)⟩
    · cases e3
  | band =>
    cases dx <;> cases dy <;> simp only [binD] at e3 <;> try cases e3
    obtain rfl := tx.int
    obtain rfl := ty.int
    exact op_and pins s σ H _ _ v u Q I rx ry ⟨_, _, rfl, rfl, vp_here hS hp (.int _)⟩
  | bor =>
    cases dx <;> cases dy <;> simp only [binD] at e3 <;> try cases e3
    obtain rfl := tx.int
    obtain rfl := ty.int
    exact op_or pins s σ H _ _ v u Q I rx ry ⟨_, _, rfl, rfl, vp_here hS hp (.int _)⟩
  | bxor =>
    cases dx <;> cases dy <;> simp only [binD] at e3 <;> try cases e3
    obtain rfl := tx.int
    obtain rfl := ty.int
    exact op_xor pins s σ H _ _ v u Q I rx ry ⟨_, _, rfl, rfl, vp_here hS hp (.int _)⟩
theorem or_neg : UnR X (unaryOp .USub) (rOf1 X.K U fun S x => negW x S) := by
  intro pins s σ H x v Q I rx h
  obtain ⟨S, μ, wx, hS, hx, hp⟩ := h
  cases wx with
  | dat d =>
    cases d with
    | int i =>
      have hx : RepD X.K H μ (.int i) x := hx
      cases hx
      exact un_neg pins s σ H _ v Q I rx ⟨i, rfl, vp_here hS hp (.int _)⟩
    | _ => exact hp.elim
  | _ => exact hp.elim

/-! ### comparisons -/
def cmpOf : CO → CmpOp
  | .eq => .Eq | .ne => .NotEq | .lt => .Lt | .le => .LtE | .gt => .Gt | .ge => .GtE | .is => .Is | .isn => .IsNot | .isin => .In | .notin => .NotIn
theorem cmpW_at {S : Sto} {op : CO} {x y : W} {K : PySem.W.Frag} {H : Hp} {μ : Mu} {R : W → Hp → Mu → Sto → Prop} (h : PostE K U H μ (cmpW S op x y) R) : ∃ dx dy c, rdC S x = some dx ∧ rdC S y = some dy ∧ cmpD op dx dy = some c ∧ PostE K U H μ (.ok (.dat (.bool c)) S) R := by
  unfold cmpW at h
  cases e1 : rdC S x with
  | none => rw [e1] at h; exact h.elim
  | some dx =>
    cases e2 : rdC S y with
    | none => rw [e1, e2] at h; exact h.elim
    | some dy =>
      rw [e1, e2] at h
      cases e3 : cmpD op dx dy with
      | none => simp only [e3] at h; exact h.elim
      | some d => simp only [e3] at h; exact ⟨dx, dy, d, rfl, rfl, e3, h⟩
theorem eqD_cases {x y : D} {c : Bool} (h : eqD x y = some c) : (∃ i j, x = .int i ∧ y = .int j ∧ c = decide (i = j)) ∨ (∃ i j, x = .str i ∧ y = .str j ∧ c = decide (i = j)) ∨ (∃ i j, x = .bool i ∧ y = .bool j ∧ c = decide (i = j)) ∨
    (SeqAt.shaped x = true ∧ SeqAt.shaped y = true ∧ c = PyData.eqv x y) := by
  unfold eqD at h
  split at h
  · cases h; exact .inl ⟨_, _, rfl, rfl, rfl⟩
  · cases h; exact .inr (.inl ⟨_, _, rfl, rfl, rfl⟩)
  · cases h; exact .inr (.inr (.inl ⟨_, _, rfl, rfl, rfl⟩))
  · split at h
    · rename_i hc
      cases h
      exact .inr (.inr (.inr ⟨hc.1, hc.2, rfl⟩))
    · cases h
theorem dec_vi {i j : Int} : decide (V.int i = V.int j) = decide (i = j) := by
  by_cases h : i = j
  · subst h; simp
  · rw [decide_eq_false h, decide_eq_false (fun z => h (V.int.inj z))]
theorem dec_vs {i j : Str} : decide (V.str i = V.str j) = decide (i = j) := by
  by_cases h : i = j
  · subst h; simp
  · rw [decide_eq_false h, decide_eq_false (fun z => h (V.str.inj z))]
theorem dec_vb {i j : Bool} : decide (V.bl i = V.bl j) = decide (i = j) := by
  by_cases h : i = j
  · subst h; simp
  · rw [decide_eq_false h, decide_eq_false (fun z => h (V.bl.inj z))]
theorem flat_rep {K : PySem.W.Frag} {H : Hp} {μ : Mu} {d : D} {v : V} (h : RepD K H μ d v) (f : flatD d = true) : flatV v = true := by
  cases h <;> first | rfl | cases f
theorem eqv_rep {K : PySem.W.Frag} {H : Hp} {μ : Mu} {d e : D} {v u : V} (h : RepD K H μ d v) (k : RepD K H μ e u) (f : flatD d = true) (g : flatD e = true) : eqV v u = PyData.eqv d e := by
  cases h <;> cases k <;> first | rfl | exact absurd f (by simp [flatD]) | exact absurd g (by simp [flatD]) | (simp only [eqV, PyData.eqv]; done) | (simp [eqV, PyData.eqv]; done) | skip
theorem in_rep {K : PySem.W.Frag} {H : Hp} {μ : Mu} {d : D} {v : V} (h : RepD K H μ d v) (f : flatD d = true) : ∀ {ds : List D} {vs : List V}, RepDs K H μ ds vs → ds.all flatD = true → vs.all flatV = true ∧ inV v vs = ds.any fun y => PyData.eqv y d
  | _, _, .nil, _ => ⟨rfl, rfl⟩
  | d' :: ds, v' :: vs, .cons h1 h2, g => by
    simp only [List.all_cons, Bool.and_eq_true] at g
    obtain ⟨a, b⟩ := in_rep h f h2 g.2
    refine ⟨by simp only [List.all_cons, Bool.and_eq_true]; exact ⟨flat_rep h1 g.1, a⟩, ?_⟩
    show (eqV v' v || inV v vs) = (PyData.eqv d' d || ds.any fun y => PyData.eqv y d)
    rw [eqv_rep h1 h g.1 f, b]
theorem or_cmpW (hu : X.A.units + 64 < cLine) (op : CO) : OpR X (compareOp (cmpOf op)) (rOf X.K U fun S x y => cmpW S op x y) := by
  intro pins s σ H x y v u Q I rx ry h
  obtain ⟨S, μ, wx, wy, hS, hx, hy, hp⟩ := h
  obtain ⟨dx, dy, c, e1, e2, e3, hp⟩ := cmpW_at hp
  have tx := rdC_rep hS hx e1
  have ty := rdC_rep hS hy e2
  have q : Q (.bl c) H := vp_here hS hp (.bl c)
  cases op with
  | eq =>
    rcases eqD_cases (show eqD dx dy = some c from e3) with ⟨i, j, rfl, rfl, rfl⟩ | ⟨i, j, rfl, rfl, rfl⟩ | ⟨i, j, rfl, rfl, rfl⟩ | ⟨h1, h2, rfl⟩
    · obtain rfl := tx.int
      obtain rfl := ty.int
      exact op_eq pins s σ H _ _ v u Q I rx ry ⟨rfl, by rw [dec_vi]; exact q⟩
    · obtain rfl := tx.str
      obtain rfl := ty.str
      exact op_eq pins s σ H _ _ v u Q I rx ry ⟨rfl, by rw [dec_vs]; exact q⟩
    · obtain rfl := tx.bl
      obtain rfl := ty.bl
      exact op_eq pins s σ H _ _ v u Q I rx ry ⟨rfl, by rw [dec_vb]; exact q⟩
    · exact op_eqD hu pins s σ H _ _ v u Q I rx ry ⟨dx, dy, tx.dp, ty.dp, h1, h2, q⟩
  | ne =>
    have e3 : (eqD dx dy).map (!·) = some c := e3
    obtain ⟨b, e4, rfl⟩ := Option.map_eq_some_iff.mp e3
    rcases eqD_cases e4 with ⟨i, j, rfl, rfl, rfl⟩ | ⟨i, j, rfl, rfl, rfl⟩ | ⟨i, j, rfl, rfl, rfl⟩ | ⟨h1, h2, rfl⟩
    · obtain rfl := tx.int
      obtain rfl := ty.int
      exact op_ne pins s σ H _ _ v u Q I rx ry ⟨rfl, by rw [dec_vi]; exact q⟩
    · obtain rfl := tx.str
      obtain rfl := ty.str
      exact op_ne pins s σ H _ _ v u Q I rx ry ⟨rfl, by rw [dec_vs]; exact q⟩
    · obtain rfl := tx.bl
      obtain rfl := ty.bl
      exact op_ne pins s σ H _ _ v u Q I rx ry ⟨rfl, by rw [dec_vb]; exact q⟩
    · exact op_neD hu pins s σ H _ _ v u Q I rx ry ⟨dx, dy, tx.dp, ty.dp, h1, h2, q⟩
  | lt =>
    cases dx <;> cases dy <;> simp only [cmpD] at e3 <;> try cases e3
    obtain rfl := tx.int
    obtain rfl := ty.int
    exact op_lt pins s σ H _ _ v u Q I rx ry ⟨_, _, rfl, rfl, q⟩
  | le =>
    cases dx <;> cases dy <;> simp only [cmpD] at e3 <;> try cases e3
    obtain rfl := tx.int
    obtain rfl := ty.int
    exact op_le pins s σ H _ _ v u Q I rx ry ⟨_, _, rfl, rfl, q⟩
  | gt =>
    cases dx <;> cases dy <;> simp only [cmpD] at e3 <;> try cases e3
    obtain rfl := tx.int
    obtain rfl := ty.int
    exact op_gt pins s σ H _ _ v u Q I rx ry ⟨_, _, rfl, rfl, q⟩
  | ge =>
    cases dx <;> cases dy <;> simp only [cmpD] at e3 <;> try cases e3
    obtain rfl := tx.int
    obtain rfl := ty.int
    exact op_ge pins s σ H _ _ v u Q I rx ry ⟨_, _, rfl, rfl, q⟩
  | is =>
    cases dy <;> simp only [cmpD] at e3 <;> try cases e3
    obtain rfl := ty.non
    refine op_isN pins s σ H _ _ v u Q I rx ry ⟨rfl, ?_⟩
    have z : decide (x = V.non) = isNone dx := by
      cases dx with
      | none => obtain rfl := tx.non; rfl
      | int => obtain rfl := tx.int; rfl
      | bool => obtain rfl := tx.bl; rfl
      | str => obtain rfl := tx.str; rfl
      | list => obtain ⟨_, _, rfl, _⟩ := tx.lst; rfl
      | tuple => obtain ⟨_, _, rfl, _⟩ := tx.tup; rfl
      | dict => cases tx with | dat h => cases h
    rw [z]; exact q
  | isn =>
    cases dy <;> simp only [cmpD] at e3 <;> try cases e3
    obtain rfl := ty.non
    refine op_notN pins s σ H _ _ v u Q I rx ry ⟨rfl, ?_⟩
    have z : (!decide (x = V.non)) = (!isNone dx) := by
      cases dx with
      | none => obtain rfl := tx.non; rfl
      | int => obtain rfl := tx.int; rfl
      | bool => obtain rfl := tx.bl; rfl
      | str => obtain rfl := tx.str; rfl
      | list => obtain ⟨_, _, rfl, _⟩ := tx.lst; rfl
      | tuple => obtain ⟨_, _, rfl, _⟩ := tx.tup; rfl
      | dict => cases tx with | dat h => cases h
    rw [z]; exact q
  | isin =>
    have key : ∀ ds vs, RepDs X.K H μ ds vs → inD dx ds = some c → flatV x = true ∧ vs.all flatV = true ∧ inV x vs = c := fun ds vs r e => by
      unfold inD at e
      split at e
      · rename_i hc
        cases e
        have rx' : RepD X.K H μ dx x := by
          cases tx with
          | dat h => exact h
          | live _ _ => cases hc.1
          | cst _ _ => cases hc.1
        obtain ⟨a, b⟩ := in_rep rx' hc.1 r hc.2
        exact ⟨flat_rep rx' hc.1, a, b⟩
      · cases e
    cases dy <;> simp only [cmpD] at e3 <;> try cases e3
    · obtain ⟨a, vs, rfl, ha, hr⟩ := ty.lst
      obtain ⟨f, g, z⟩ := key _ _ hr e3
      exact op_in_seq pins s σ H _ _ v u Q I rx ry ⟨a, vs, rfl, .inl (SqL.of ha), f, g, by rw [if_neg Bool.false_ne_true, z]; exact q⟩
    · obtain ⟨a, vs, rfl, ha, hr⟩ := ty.tup
      obtain ⟨f, g, z⟩ := key _ _ hr e3
      exact op_in_seq pins s σ H _ _ v u Q I rx ry ⟨a, vs, rfl, .inr ha, f, g, by rw [if_neg Bool.false_ne_true, z]; exact q⟩
  | notin =>
    have key : ∀ ds vs, RepDs X.K H μ ds vs → (inD dx ds).map (!·) = some c → flatV x = true ∧ vs.all flatV = true ∧ (!inV x vs) = c := fun ds vs r e => by
      obtain ⟨b, e', rfl⟩ := Option.map_eq_some_iff.mp e
      unfold inD at e'
      split at e'
      · rename_i hc
        have e' := Option.some.inj e'
        subst e'
        have rx' : RepD X.K H μ dx x := by
          cases tx with
          | dat h => exact h
          | live _ _ => cases hc.1
          | cst _ _ => cases hc.1
        obtain ⟨a, b⟩ := in_rep rx' hc.1 r hc.2
        exact ⟨flat_rep rx' hc.1, a, by rw [b]⟩
      · cases e'
    cases dy <;> simp only [cmpD] at e3 <;> try cases e3
    · obtain ⟨a, vs, rfl, ha, hr⟩ := ty.lst
      obtain ⟨f, g, z⟩ := key _ _ hr e3
      exact op_notIn_seq pins s σ H _ _ v u Q I rx ry ⟨a, vs, rfl, .inl (SqL.of ha), f, g, by rw [if_pos rfl, z]; exact q⟩
    · obtain ⟨a, vs, rfl, ha, hr⟩ := ty.tup
      obtain ⟨f, g, z⟩ := key _ _ hr e3
      exact op_notIn_seq pins s σ H _ _ v u Q I rx ry ⟨a, vs, rfl, .inr ha, f, g, by rw [if_pos rfl, z]; exact q⟩
end
end MP
set_option Elab.async false
set_option linter.all false
set_option maxRecDepth 100000
set_option maxHeartbeats 4000000
/-! Subscripts, slices, built-ins, methods. -/
namespace MP
open PySem PySem.Spec PyProof.Rows L2

section
variable {K : PySem.W.Frag} {U : Wx} {H : Hp} {μ : Mu} {S : Sto}
theorem atI_rep {ds : List D} {vs : List V} (r : RepDs K H μ ds vs) {i : Int} {d : D} (h : atI ds i = some d) : ∃ v, atI vs i = some v ∧ RepD K H μ d v := by
  unfold atI at h ⊢
  rw [← r.length]
  cases e : ixN ds.length i with
  | none => rw [e] at h; cases h
  | some j =>
    rw [e] at h
    exact r.get h
theorem cut_rep {ds : List D} {vs : List V} (r : RepDs K H μ ds vs) (lo hi : Option Int) : RepDs K H μ (cutD ds lo hi) (cutV vs lo hi) := by
  unfold cutD cutV
  rw [← r.length]
  exact (r.drop _).take _
theorem rdDs_one {ws : List W} {vs : List V} {d : D} (h : rdDs S ws = some [d]) (r : RepWs K H μ ws vs) : ∃ w v, ws = [w] ∧ vs = [v] ∧ rdC S w = some d ∧ RepW K H μ w v := by
  cases r with
  | nil => cases h
  | @cons w v ws vs r t =>
    unfold rdDs at h
    cases e1 : rdC S w with
    | none => rw [e1] at h; cases h
    | some x =>
      cases e2 : rdDs S ws with
      | none => rw [e1, e2] at h; cases h
      | some xs =>
        rw [e1, e2] at h
        cases h
        cases t with
        | nil => exact ⟨w, v, rfl, rfl, e1, r⟩
        | @cons w' v' ws' vs' r' t' =>
          unfold rdDs at e2
          cases e3 : rdC S w' with
          | none => rw [e3] at e2; cases e2
          | some y =>
            cases e4 : rdDs S ws' with
            | none => rw [e3, e4] at e2; cases e2
            | some ys => rw [e3, e4] at e2; cases e2
theorem rdDs_two {ws : List W} {vs : List V} {d e : D} (h : rdDs S ws = some [d, e]) (r : RepWs K H μ ws vs) : ∃ w v w' v', ws = [w, w'] ∧ vs = [v, v'] ∧ rdC S w = some d ∧ rdC S w' = some e ∧ RepW K H μ w v ∧ RepW K H μ w' v' := by
  cases r with
  | nil => cases h
  | @cons w v ws vs r t =>
    unfold rdDs at h
    cases e1 : rdC S w with
    | none => rw [e1] at h; cases h
    | some x =>
      cases e2 : rdDs S ws with
      | none => rw [e1, e2] at h; cases h
      | some xs =>
        rw [e1, e2] at h
        cases h
        obtain ⟨w', v', rfl, rfl, q1, q2⟩ := rdDs_one e2 t
        exact ⟨w, v, w', v', rfl, rfl, e1, q1, r, q2⟩
theorem intsD_rep : ∀ {ds : List D} {vs : List V} {ns : List Int}, RepDs K H μ ds vs → intsD ds = some ns → vs = ns.map V.int ∧ ds = ns.map .int
  | _, _, _, .nil, h => by cases h; exact ⟨rfl, rfl⟩
  | d :: ds, v :: vs, ns, .cons r t, h => by
    cases d <;> simp only [intsD] at h <;> try cases h
    obtain ⟨ms, e, rfl⟩ := Option.map_eq_some_iff.mp h
    obtain ⟨a, b⟩ := intsD_rep t e
    cases r
    exact ⟨by rw [a] <;> rfl, by rw [b] <;> rfl⟩
theorem boolsD_rep : ∀ {ds : List D} {vs : List V} {ns : List Bool}, RepDs K H μ ds vs → boolsD ds = some ns → vs = ns.map V.bl
  | _, _, _, .nil, h => by cases h; rfl
  | d :: ds, v :: vs, ns, .cons r t, h => by
    cases d <;> simp only [boolsD] at h <;> try cases h
    obtain ⟨ms, e, rfl⟩ := Option.map_eq_some_iff.mp h
    have a := boolsD_rep t e
    cases r
    rw [a] <;> rfl
theorem intsD_map (ns : List Int) : intsD (ns.map .int) = some ns := by
  induction ns with
  | nil => rfl
  | cons n r ih => show (intsD (r.map .int)).map (n :: ·) = _; rw [ih]; rfl
theorem reps_ints : ∀ (ns : List Int), RepDs K H μ (ns.map .int) (ns.map V.int)
  | [] => .nil
  | n :: ns => .cons (.int n) (reps_ints ns)
theorem maxI_is : ∀ {ns : List Int} {m : Int}, maxI ns = some m → m ∈ ns ∧ ∀ y ∈ ns, y ≤ m
  | [x], m, h => by cases h; exact ⟨by simp, fun y hy => by simp at hy; subst hy; exact Int.le_refl _⟩
  | x :: z :: r, m, h => by
    have h : (maxI (z :: r)).map (fun m => if x ≤ m then m else x) = some m := h
    obtain ⟨k, e, e2⟩ := Option.map_eq_some_iff.mp h
    obtain ⟨a, b⟩ := maxI_is e
    by_cases hx : x ≤ k
    · rw [if_pos hx] at e2; subst e2
      exact ⟨List.mem_cons_of_mem _ a, fun y hy => (List.mem_cons.mp hy).elim (fun z => z ▸ hx) (b y)⟩
    · rw [if_neg hx] at e2; subst e2
      exact ⟨List.mem_cons_self, fun y hy => (List.mem_cons.mp hy).elim (fun z => z ▸ Int.le_refl _) fun z => by have := b y z; omega⟩
/-! sorting -/
theorem insI_perm (x : Int) : ∀ l : List Int, (insI x l).Perm (x :: l)
  | [] => List.Perm.refl _
  | y :: r => by
    unfold insI
    split
    · exact List.Perm.refl _
    · exact ((insI_perm x r).cons y).trans (List.Perm.swap x y r)
theorem sortI_perm : ∀ l : List Int, (sortI l).Perm l
  | [] => List.Perm.refl _
  | x :: r => (insI_perm x (sortI r)).trans ((sortI_perm r).cons x)
theorem insI_sorted (x : Int) : ∀ l : List Int, l.Pairwise (· ≤ ·) → (insI x l).Pairwise (· ≤ ·)
  | [], _ => by simp [insI]
  | y :: r, h => by
    rw [List.pairwise_cons] at h
    unfold insI
    split
    · rename_i hxy
      refine List.pairwise_cons.mpr ⟨fun z hz => ?_, List.pairwise_cons.mpr h⟩
      rcases List.mem_cons.mp hz with e | e
      · subst e; exact hxy
      · exact Int.le_trans hxy (h.1 z e)
    · rename_i hxy
      refine List.pairwise_cons.mpr ⟨fun z hz => ?_, insI_sorted x r h.2⟩
      rcases List.mem_cons.mp ((insI_perm x r).mem_iff.mp hz) with e | e
      · subst e; omega
      · exact h.1 z e
theorem sortI_sorted : ∀ l : List Int, (sortI l).Pairwise (· ≤ ·)
  | [] => List.Pairwise.nil
  | x :: r => insI_sorted x _ (sortI_sorted r)
theorem sorted_one {α : Type} {le : α → α → Prop} (anti : ∀ a b, le a b → le b a → a = b) : ∀ {l m : List α}, l.Perm m → l.Pairwise le → m.Pairwise le → l = m
  | [], m, p, _, _ => (List.Perm.nil_eq p)
  | x :: l, [], p, _, _ => by have := p.length_eq; simp at this
  | x :: l, y :: m, p, h, k => by
    rw [List.pairwise_cons] at h k
    have e : x = y := by
      rcases List.mem_cons.mp (p.mem_iff.mp List.mem_cons_self) with e | hx
      · exact e
      · rcases List.mem_cons.mp (p.mem_iff.mpr List.mem_cons_self) with e | hy
        · exact e.symm
        · exact anti _ _ (h.1 y hy) (k.1 x hx)
    subst e
    rw [sorted_one anti (List.Perm.cons_inv p) h.2 k.2]
theorem sortI_eq {l m : List Int} (p : m.Perm l) (h : m.Pairwise (· ≤ ·)) : m = sortI l :=
  sorted_one (le := fun a b : Int => a ≤ b) (fun a b => Int.le_antisymm) (p.trans (sortI_perm l).symm) h (sortI_sorted l)
theorem insP_perm (x : Int × Int) : ∀ l : List (Int × Int), (insP x l).Perm (x :: l)
  | [] => List.Perm.refl _
  | y :: r => by
    unfold insP
    split
    · exact List.Perm.refl _
    · exact ((insP_perm x r).cons y).trans (List.Perm.swap x y r)
theorem sortP_perm : ∀ l : List (Int × Int), (sortP l).Perm l
  | [] => List.Perm.refl _
  | x :: r => (insP_perm x (sortP r)).trans ((sortP_perm r).cons x)
theorem leP_iff {a b : Int × Int} : leP a b = true ↔ a.1 < b.1 ∨ (a.1 = b.1 ∧ a.2 ≤ b.2) := by simp [leP]
theorem leP_tot {a b : Int × Int} (h : ¬ leP a b = true) : leP b a = true := by rw [leP_iff] at *; omega
theorem leP_trans {a b c : Int × Int} (h : leP a b = true) (k : leP b c = true) : leP a c = true := by rw [leP_iff] at *; omega
theorem leP_anti {a b : Int × Int} (h : leP a b = true) (k : leP b a = true) : a = b := by
  rw [leP_iff] at *
  obtain ⟨a1, a2⟩ := a
  obtain ⟨b1, b2⟩ := b
  simp only at h k
  have h1 : a1 = b1 := by omega
  have h2 : a2 = b2 := by omega
  rw [h1, h2]
theorem insP_sorted (x : Int × Int) : ∀ l : List (Int × Int), l.Pairwise (leP · · = true) → (insP x l).Pairwise (leP · · = true)
  | [], _ => by simp [insP]
  | y :: r, h => by
    rw [List.pairwise_cons] at h
    unfold insP
    split
    · rename_i hxy
      refine List.pairwise_cons.mpr ⟨fun z hz => ?_, List.pairwise_cons.mpr h⟩
      rcases List.mem_cons.mp hz with e | e
      · subst e; exact hxy
      · exact leP_trans hxy (h.1 z e)
    · rename_i hxy
      refine List.pairwise_cons.mpr ⟨fun z hz => ?_, insP_sorted x r h.2⟩
      rcases List.mem_cons.mp ((insP_perm x r).mem_iff.mp hz) with e | e
      · subst e; exact leP_tot hxy
      · exact h.1 z e
theorem sortP_sorted : ∀ l : List (Int × Int), (sortP l).Pairwise (leP · · = true)
  | [] => List.Pairwise.nil
  | x :: r => insP_sorted x _ (sortP_sorted r)
theorem sortP_eq {l m : List (Int × Int)} (p : m.Perm l) (h : m.Pairwise (leP · · = true)) : m = sortP l :=
  sorted_one (le := fun a b => leP a b = true) (fun a b => leP_anti) (p.trans (sortP_perm l).symm) h (sortP_sorted l)
/-- the pair that lies at a value -/
noncomputable def pairAt (H : Hp) (x : V) : Int × Int := match x with
  | .ref t => match H t with
    | some (.tup [.int i, .int j]) => (i, j)
    | _ => (0, 0)
  | _ => (0, 0)
theorem pairsD_rep : ∀ {ds : List D} {vs : List V} {ps : List (Int × Int)}, RepDs K H μ ds vs → pairsD ds = some ps → ps = vs.map (pairAt H) ∧ ds = ps.map dPair ∧ ∀ x ∈ vs, ∃ t, x = V.ref t ∧ H t = some (.tup [.int (pairAt H x).1, .int (pairAt H x).2])
  | _, _, _, .nil, h => by cases h; exact ⟨rfl, rfl, fun x m => absurd m (by simp)⟩
  | d :: ds, v :: vs, ps, .cons r t, h => by
    unfold pairsD at h
    split at h
    · rename_i e
      exact absurd e (by simp)
    · rename_i i j r' e
      cases e
      obtain ⟨ms, e, rfl⟩ := Option.map_eq_some_iff.mp h
      obtain ⟨a, b, c⟩ := pairsD_rep t e
      cases r with
      | @tup ad us _ ha hs =>
        have e3 : us = [.int i, .int j] := (intsD_rep hs (ns := [i, j]) rfl).1
        subst e3
        have ep : pairAt H (.ref ad) = (i, j) := by unfold pairAt; simp only [ha]
        refine ⟨by rw [List.map_cons, ep, a], by rw [List.map_cons, b] <;> rfl, fun x m => ?_⟩
        rcases List.mem_cons.mp m with e | m
        · subst e; exact ⟨ad, rfl, by rw [ep]; exact ha⟩
        · exact c x m
    · cases h
theorem reps_pairs {H' : Hp} {μ' : Mu} : ∀ {vs : List V}, (∀ x ∈ vs, ∃ t, x = V.ref t ∧ H' t = some (.tup [.int (pairAt H x).1, .int (pairAt H x).2])) → RepDs K H' μ' ((vs.map (pairAt H)).map dPair) vs
  | [], _ => .nil
  | v :: vs, h => by
    obtain ⟨t, rfl, e⟩ := h v List.mem_cons_self
    exact .cons (.tup e (.cons (.int _) (.cons (.int _) .nil))) (reps_pairs fun x m => h x (List.mem_cons_of_mem _ m))
def tyN : Ty5 → String
  | .int => "int" | .bool => "bool" | .str => "str" | .tuple => "tuple" | .list => "list"
theorem isi_ty (T : Ty5) {d : D} {v : V} (h : RepT K H μ d v) : ∃ t, TyX K H v t ∧ PySem.W.kitOne K t (.type (tyN T)) = some (isiD T d) := by
  have go : ∀ a : String, TyX K H v (.type a) → kitB a (tyN T) = some (isiD T d) → ∃ t, TyX K H v t ∧ PySem.W.kitOne K t (.type (tyN T)) = some (isiD T d) := fun a x y => ⟨_, x, kit_ty y⟩
  cases d with
  | none =>
    obtain rfl := h.non
    exact go "NoneType" (.base .non) (by cases T <;> decide +kernel)
  | bool x =>
    obtain rfl := h.bl
    exact go "bool" (.base (.bl x)) (by cases T <;> (first | (show kitB "bool" _ = some true; decide +kernel) | (show kitB "bool" _ = some false; decide +kernel)))
  | int x =>
    obtain rfl := h.int
    exact go "int" (.base (.int x)) (by cases T <;> (first | (show kitB "int" _ = some true; decide +kernel) | (show kitB "int" _ = some false; decide +kernel)))
  | str x =>
    obtain rfl := h.str
    exact go "str" (.base (.str x)) (by cases T <;> (first | (show kitB "str" _ = some true; decide +kernel) | (show kitB "str" _ = some false; decide +kernel)))
  | list x =>
    obtain ⟨a, vs, rfl, ha, _⟩ := h.lst
    exact go "list" (.base (.lst ha)) (by cases T <;> (first | (show kitB "list" _ = some true; decide +kernel) | (show kitB "list" _ = some false; decide +kernel)))
  | tuple x =>
    have : TyX K H v (.type "tuple") := by
      cases h with
      | dat h => cases h with | tup ha _ => exact .base (.tup ha)
      | cst k _ => obtain ⟨o, its, n, h1, h2, _⟩ := k; exact .kTuple h1 h2
    exact go "tuple" this (by cases T <;> (first | (show kitB "tuple" _ = some true; decide +kernel) | (show kitB "tuple" _ = some false; decide +kernel)))
  | dict x => cases h with | dat h => cases h
end

section
variable {X : Cx} {U : Wx}
theorem ix_idxW : IxR X (rOf X.K U fun S x y => idxW S x y) := by
  intro va sl pins s σ H x y v u Q I rx ry h hsub
  obtain ⟨S, μ, wx, wy, hS, hx, hy, hp⟩ := h
  unfold idxW at hp
  cases e1 : rdC S wx with
  | none => simp only [e1] at hp; exact hp.elim
  | some dx =>
    cases wy with
    | dat dy =>
      simp only [e1] at hp
      have tx := rdC_rep hS hx e1
      cases e3 : idxD dx dy with
      | none => rw [e3] at hp; exact hp.elim
      | some d =>
        rw [e3] at hp
        have hy : RepD X.K H μ dy y := hy
        cases dx <;> cases dy <;> simp only [idxD] at e3 <;> try cases e3
        · cases hy
          obtain rfl := tx.str
          split at e3
          · obtain ⟨c, e4, rfl⟩ := Option.map_eq_some_iff.mp e3
            exact ix_str va sl pins s σ H _ _ v u Q I rx ry ⟨_, _, c, rfl, rfl, by assumption, e4, vp_here hS hp (.str _)⟩ hsub
          · cases e3
        · cases hy
          obtain ⟨a, vs, rfl, ha, hr⟩ := tx.lst
          obtain ⟨z, e4, rz⟩ := atI_rep hr e3
          exact ix_list va sl pins s σ H _ _ v u Q I rx ry ⟨_, _, _, z, rfl, rfl, SqL.of ha, e4, vp_here hS hp rz⟩ hsub
        · cases hy
          obtain ⟨a, vs, rfl, ha, hr⟩ := tx.tup
          obtain ⟨z, e4, rz⟩ := atI_rep hr e3
          exact ix_tup va sl pins s σ H _ _ v u Q I rx ry ⟨_, _, _, z, rfl, rfl, ha, e4, vp_here hS hp rz⟩ hsub
    | obj p => simp only [e1] at hp; exact hp.elim
    | scr p => simp only [e1] at hp; exact hp.elim
    | cst p => simp only [e1] at hp; exact hp.elim
def r3Of (K : PySem.W.Frag) (U : Wx) : V → Option Int → Option Int → Hp → VK → Prop := fun v lo hi H Q => ∃ S μ x, StoRep K H S μ ∧ RepW K H μ x v ∧ PostE K U H μ (slcW S x lo hi) (VP K Q)
theorem sl_slcW : SlR X (r3Of X.K U) := by
  intro pins s σ H x v vl vu lo hi sl Q I rx hs pl pu h
  obtain ⟨S, μ, wx, hS, hx, hp⟩ := h
  unfold slcW at hp
  cases e1 : rdD S wx with
  | none => simp only [e1] at hp; exact hp.elim
  | some dx =>
    simp only [e1] at hp
    have tx := rdD_rep hS hx e1
    cases dx with
    | list ds =>
      obtain ⟨a, vs, rfl, ha, hr⟩ := tx.lst
      exact sl_list pins s σ H _ v vl vu lo hi sl Q I rx hs pl pu ⟨_, _, rfl, SqL.of ha, vp_lst hS hp (cut_rep hr lo hi)⟩
    | tuple ds =>
      obtain ⟨a, vs, rfl, ha, hr⟩ := tx.tup
      refine sl_tupA pins s σ H _ v vl vu lo hi sl Q I rx hs pl pu ⟨_, _, rfl, ha, fun e => ?_, fun _ => vp_tup hS hp (cut_rep hr lo hi)⟩
      have ed : cutD ds lo hi = ds := by
        rw [← hr.length] at e
        unfold cutD
        rw [e.1, e.2]
        simp
      have hp : PostE X.K U H μ (.ok (.dat (.tuple (cutD ds lo hi))) S) (VP X.K Q) := hp
      rw [ed] at hp
      exact vp_here hS hp (rdD_tup hx e1)
    | _ => exact hp.elim
def biF : BI → Value
  | .len => .builtin "len" | .abs => .builtin "abs" | .min => .builtin "min" | .max => .builtin "max" | .int => .type "int" | .list => .type "list" | .tuple => .type "tuple"
  | .sum => .builtin "sum" | .sorted => .builtin "sorted" | .all => .builtin "all" | .any => .builtin "any"
theorem mk_dat {K : PySem.W.Frag} {H : Hp} {μ : Mu} {m : Bool} {d : D} {S : Sto} {Q : VK} {v : V} (hS : StoRep K H S μ) (hp : PostE K U H μ (mk m d S) (VP K Q)) (r : RepD K H μ d v) (nl : ∀ ds, d ≠ .list ds) : Q v H := by
  cases m with
  | false => exact vp_here hS hp r
  | true =>
    cases d with
    | list ds => exact absurd rfl (nl ds)
    | _ => exact hp.elim
theorem mk_tup {K : PySem.W.Frag} {H : Hp} {μ : Mu} {m : Bool} {ds : List D} {vs : List V} {S : Sto} {Q : VK} (hS : StoRep K H S μ) (hp : PostE K U H μ (mk m (.tuple ds) S) (VP K Q)) (r : RepDs K H μ ds vs) : ∀ p, H p = none → Q (.ref p) (upd H p (.tup vs)) := by
  cases m with
  | false => exact vp_tup hS hp r
  | true => exact hp.elim
theorem cr_biW (hc : X.calm = true) (b : BI) (m : Bool) : CallR X (biF b) (rOfL X.K U fun S ws => biW S b m ws) := by
  intro pins s σ H vs us Q I r h
  obtain ⟨S, μ, ws, hS, hw, hp⟩ := h
  have hnc : ∀ ds, ¬ (b = .tuple ∧ ws = [.cst ds]) := fun ds z => by
    obtain ⟨z1, z2⟩ := z
    subst z1 z2
    exact hp
  have hp : PostE X.K U H μ (biW0 S b m ws) (VP X.K Q) := by
    have e : biW S b m ws = biW0 S b m ws := by
      unfold biW
      split
      · exact absurd ⟨rfl, rfl⟩ (hnc _)
      · rfl
    rw [← e]
    exact hp
  unfold biW0 at hp
  cases e1 : rdDs S ws with
  | none => simp only [e1] at hp; exact hp.elim
  | some ds =>
    simp only [e1] at hp
    cases e2 : biD b ds with
    | none => simp only [e2] at hp; exact hp.elim
    | some d =>
      simp only [e2] at hp
      unfold biD at e2
      split at e2
      · obtain ⟨w, v, rfl, rfl, q1, q2⟩ := rdDs_one e1 hw
        obtain ⟨a, xs, rfl, ha, hr⟩ := (rdC_rep hS q2 q1).lst
        cases e2
        exact call_len_seq pins s σ H _ us Q I r ⟨_, _, rfl, .inl (SqL.of ha), by rw [← hr.length]; exact mk_dat hS hp (.int _) (fun _ z => by cases z)⟩
      · obtain ⟨w, v, rfl, rfl, q1, q2⟩ := rdDs_one e1 hw
        obtain ⟨a, xs, rfl, ha, hr⟩ := (rdC_rep hS q2 q1).tup
        cases e2
        exact call_len_seq pins s σ H _ us Q I r ⟨_, _, rfl, .inr ha, by rw [← hr.length]; exact mk_dat hS hp (.int _) (fun _ z => by cases z)⟩
      · obtain ⟨w, v, rfl, rfl, q1, q2⟩ := rdDs_one e1 hw
        obtain rfl := (rdC_rep hS q2 q1).str
        split at e2
        · cases e2
          exact call_len_str pins s σ H _ us Q I r ⟨_, rfl, by assumption, mk_dat hS hp (.int _) (fun _ z => by cases z)⟩
        · cases e2
      · obtain ⟨w, v, rfl, rfl, q1, q2⟩ := rdDs_one e1 hw
        obtain rfl := (rdC_rep hS q2 q1).int
        cases e2
        exact call_abs pins s σ H _ us Q I r ⟨_, rfl, mk_dat hS hp (.int _) (fun _ z => by cases z)⟩
      · obtain ⟨w, v, w', v', rfl, rfl, q1, q2, q3, q4⟩ := rdDs_two e1 hw
        obtain rfl := (rdC_rep hS q3 q1).int
        obtain rfl := (rdC_rep hS q4 q2).int
        cases e2
        exact call_min2 hc pins s σ H _ us Q I r ⟨_, _, rfl, mk_dat hS hp (.int _) (fun _ z => by cases z)⟩
      · obtain ⟨w, v, w', v', rfl, rfl, q1, q2, q3, q4⟩ := rdDs_two e1 hw
        obtain rfl := (rdC_rep hS q3 q1).int
        obtain rfl := (rdC_rep hS q4 q2).int
        cases e2
        exact call_max2 hc pins s σ H _ us Q I r ⟨_, _, rfl, mk_dat hS hp (.int _) (fun _ z => by cases z)⟩
      · obtain ⟨w, v, rfl, rfl, q1, q2⟩ := rdDs_one e1 hw
        obtain ⟨a, xs, rfl, ha, hr⟩ := (rdC_rep hS q2 q1).lst
        split at e2
        · rename_i ns e3
          obtain ⟨k, e4, rfl⟩ := Option.map_eq_some_iff.mp e2
          obtain ⟨rfl, _⟩ := intsD_rep hr e3
          obtain ⟨m1, m2⟩ := maxI_is e4
          refine cr_max hc pins s σ H _ us Q I r ⟨_, ns, rfl, SqL.of ha, List.length_pos_of_mem m1, fun m' h1 h2 => ?_⟩
          have : m' = k := Int.le_antisymm (m2 m' h1) (h2 k m1)
          subst this
          exact mk_dat hS hp (.int _) (fun _ z => by cases z)
        · cases e2
      · obtain ⟨w, v, rfl, rfl, q1, q2⟩ := rdDs_one e1 hw
        obtain rfl := (rdC_rep hS q2 q1).int
        cases e2
        exact call_int1 pins s σ H _ us Q I r (.inl ⟨_, rfl, mk_dat hS hp (.int _) (fun _ z => by cases z)⟩)
      · obtain ⟨w, v, rfl, rfl, q1, q2⟩ := rdDs_one e1 hw
        obtain rfl := (rdC_rep hS q2 q1).bl
        cases e2
        exact call_int1 pins s σ H _ us Q I r (.inr ⟨_, rfl, mk_dat hS hp (.int _) (fun _ z => by cases z)⟩)
      · obtain ⟨w, v, rfl, rfl, q1, q2⟩ := rdDs_one e1 hw
        obtain ⟨a, xs, rfl, ha, hr⟩ := (rdC_rep hS q2 q1).lst
        cases e2
        exact call_list_of pins s σ H _ us Q I r ⟨_, _, rfl, .inl (SqL.of ha), vp_mk hS hp hr⟩
      · obtain ⟨w, v, rfl, rfl, q1, q2⟩ := rdDs_one e1 hw
        obtain ⟨a, xs, rfl, ha, hr⟩ := (rdC_rep hS q2 q1).tup
        cases e2
        exact call_list_of pins s σ H _ us Q I r ⟨_, _, rfl, .inr ha, vp_mk hS hp hr⟩
      · obtain ⟨w, v, rfl, rfl, q1, q2⟩ := rdDs_one e1 hw
        obtain ⟨a, xs, rfl, ha, hr⟩ := (rdC_rep hS q2 q1).lst
        cases e2
        exact call_tuple_of pins s σ H _ us Q I r ⟨_, _, rfl, .inl ⟨SqL.of ha, mk_tup hS hp hr⟩⟩
      · obtain ⟨w, v, rfl, rfl, q1, q2⟩ := rdDs_one e1 hw
        cases w with
        | dat d' =>
          have tt := rdC_rep hS q2 q1
          obtain ⟨a, xs, rfl, ha, hr⟩ := tt.tup
          cases e2
          cases q1
          exact call_tuple_of pins s σ H _ us Q I r ⟨_, _, rfl, .inr ⟨ha, mk_dat hS hp q2 (fun _ z => by cases z)⟩⟩
        | cst d' => exact absurd ⟨rfl, rfl⟩ (hnc _)
        | scr d' => cases q1
        | obj p =>
          have q1 : obD S[p]? = _ := q1
          unfold obD at q1
          split at q1 <;> cases q1
      · obtain ⟨w, v, rfl, rfl, q1, q2⟩ := rdDs_one e1 hw
        obtain ⟨a, xs, rfl, ha, hr⟩ := (rdC_rep hS q2 q1).lst
        obtain ⟨ns, e3, rfl⟩ := Option.map_eq_some_iff.mp e2
        obtain ⟨rfl, _⟩ := intsD_rep hr e3
        exact cr_sum hc pins s σ H _ us Q I r ⟨_, ns, rfl, SqL.of ha, mk_dat hS hp (.int _) (fun _ z => by cases z)⟩
      · obtain ⟨w, v, rfl, rfl, q1, q2⟩ := rdDs_one e1 hw
        obtain ⟨a, xs, rfl, ha, hr⟩ := (rdC_rep hS q2 q1).lst
        obtain ⟨ns, e3, rfl⟩ := Option.map_eq_some_iff.mp e2
        obtain rfl := boolsD_rep hr e3
        exact cr_all hc pins s σ H _ us Q I r ⟨_, ns, rfl, SqL.of ha, mk_dat hS hp (.bl _) (fun _ z => by cases z)⟩
      · obtain ⟨w, v, rfl, rfl, q1, q2⟩ := rdDs_one e1 hw
        obtain ⟨a, xs, rfl, ha, hr⟩ := (rdC_rep hS q2 q1).lst
        obtain ⟨ns, e3, rfl⟩ := Option.map_eq_some_iff.mp e2
        obtain rfl := boolsD_rep hr e3
        exact cr_any hc pins s σ H _ us Q I r ⟨_, ns, rfl, SqL.of ha, mk_dat hS hp (.bl _) (fun _ z => by cases z)⟩
      · obtain ⟨w, v, rfl, rfl, q1, q2⟩ := rdDs_one e1 hw
        obtain ⟨a, xs, rfl, ha, hr⟩ := (rdC_rep hS q2 q1).lst
        split at e2
        · rename_i ns e3
          cases e2
          obtain ⟨rfl, _⟩ := intsD_rep hr e3
          refine cr_sortedI pins s σ H _ us Q I r ⟨_, ns, rfl, SqL.of ha, fun ns' p h1 h2 hn => ?_⟩
          rw [sortI_eq h1 h2]
          exact vp_mk hS hp (reps_ints _) p hn
        · split at e2
          · rename_i ps e3
            cases e2
            obtain ⟨ep, _, hall⟩ := pairsD_rep hr e3
            refine cr_sortedPO pins s σ H _ us Q I r ⟨_, xs, pairAt H, rfl, SqL.of ha, hall, fun ys p h1 h2 hn => ?_⟩
            have hys : ∀ x ∈ ys, ∃ t, x = V.ref t ∧ H t = some (.tup [.int (pairAt H x).1, .int (pairAt H x).2]) := fun x m => hall x (h2.perm.mem_iff.mp m)
            have e4 : ys.map (pairAt H) = sortP ps := by
              rw [ep]
              refine sortP_eq (h2.perm.map _) (List.pairwise_map.mpr (h1.imp fun {x y} h => ?_))
              have := SrtO.lexB_no.mp h
              rw [leP_iff]
              omega
            have := reps_pairs (K := X.K) (H := H) (μ' := μ) hys
            rw [e4] at this
            exact vp_mk hS hp this p hn
          · cases e2
      · cases e2
/-! ### methods -/
def mtId : MT → String
  | .append => "list.append" | .pop => "list.pop" | .popAt => "list.pop" | .count => "list.count" | .index => "list.index"
def rMOf (K : PySem.W.Frag) (U : Wx) (m : MT) : V → List V → Hp → VK → Prop := fun v vs H Q => ∃ S μ x ws, StoRep K H S μ ∧ RepW K H μ x v ∧ RepWs K H μ ws vs ∧ PostE K U H μ (mthW S m x ws) (VP K Q)
theorem ws_nil {K : PySem.W.Frag} {H : Hp} {μ : Mu} {vs : List V} (h : RepWs K H μ [] vs) : vs = [] := by cases h; rfl
theorem ws_one {K : PySem.W.Frag} {H : Hp} {μ : Mu} {w : W} {vs : List V} (h : RepWs K H μ [w] vs) : ∃ v, vs = [v] ∧ RepW K H μ w v := by
  cases h with
  | cons r t => cases t; exact ⟨_, rfl, r⟩
theorem mt_mthW (m : MT) : MtR X (mtId m) (rMOf X.K U m) := by
  intro pins s σ H x xs v us Q I rx rs h
  obtain ⟨S, μ, wx, ws, hS, hx, hw, hp⟩ := h
  unfold mthW at hp
  split at hp
  · rename_i p d
    obtain ⟨y, rfl, ry⟩ := ws_one hw
    split at hp
    · rename_i ds e
      split at hp
      · rename_i hz
        obtain ⟨a, vs, rfl, hm, ha, hr⟩ := obj_lst hS hx e
        rw [hr.length] at hz
        have ex := Ext.write (o := .lst (vs ++ [y])) hS hm
        exact mt_append pins s σ H _ _ v us Q I rx rs ⟨a, vs, y, rfl, rfl, ha, hz, vp_put hS hm (ob := .lst (ds ++ [d])) ⟨_, upd_same, (hr.up ex).append (.cons (RepD.up ex ry) .nil)⟩ hp .non⟩
      · exact hp.elim
    · exact hp.elim
  · rename_i p
    obtain rfl := ws_nil hw
    split at hp
    · rename_i ds e
      split at hp
      · rename_i d e2
        obtain ⟨a, vs, rfl, hm, ha, hr⟩ := obj_lst hS hx e
        obtain ⟨y, e3, ry⟩ := hr.get e2
        have ex := Ext.write (o := .lst vs.dropLast) hS hm
        exact mt_pop pins s σ H _ _ v us Q I rx rs ⟨a, vs, y, rfl, rfl, ha, by rw [← hr.length]; exact e3, vp_put hS hm (ob := .lst ds.dropLast) ⟨_, upd_same, (hr.up ex).dropLast⟩ hp (RepD.up ex ry)⟩
      · exact hp.elim
    · exact hp.elim
  · rename_i p i
    obtain ⟨y, rfl, ry⟩ := ws_one hw
    have ry : RepD X.K H μ (.int i) y := ry
    cases ry
    split at hp
    · rename_i ds e
      split at hp
      · rename_i hi
        split at hp
        · rename_i d e2
          obtain ⟨a, vs, rfl, hm, ha, hr⟩ := obj_lst hS hx e
          obtain ⟨y, e3, ry⟩ := hr.get e2
          have ex := Ext.write (o := .lst (vs.eraseIdx i.toNat)) hS hm
          have hlt : i.toNat < vs.length := (List.getElem?_eq_some_iff.mp e3).1
          have hsi : seqIndex? i vs.length = some i.toNat := by
            have e4 : ixN vs.length i = some i.toNat := by
              unfold ixN
              rw [if_pos hi.1, if_pos (by omega)]
            exact (ixN_seq e4).1
          exact mt_popAt pins s σ H _ _ v us Q I rx rs ⟨a, vs, i, i.toNat, y, rfl, rfl, ha, by omega, by omega, hsi, e3, vp_put hS hm (ob := .lst (ds.eraseIdx i.toNat)) ⟨_, upd_same, (hr.up ex).eraseIdx _⟩ hp (RepD.up ex ry)⟩
        · exact hp.elim
      · exact hp.elim
    · exact hp.elim
  · exact hp.elim
/-! ### truth -/
theorem tru_truW {H : Hp} {x : V} {μ : Mu} {w : W} {S : Sto} {Q : Bool → Hp → Prop} (hS : StoRep X.K H S μ) (hw : RepW X.K H μ w x)
    (hp : PostE X.K U H μ (truW S w) fun w H' _ _ => ∃ b, w = .dat (.bool b) ∧ Q b H') : ∃ k, TruV X.K x H k ∧ Q k H := by
  unfold truW at hp
  cases e1 : rdC S w with
  | none => simp only [e1] at hp; exact hp.elim
  | some d =>
    simp only [e1] at hp
    have t := rdC_rep hS hw e1
    cases e2 : truD d with
    | none => simp only [e2] at hp; exact hp.elim
    | some c =>
      simp only [e2] at hp
      obtain ⟨b, eb, q⟩ := hp H μ (Ext.refl H μ) hS
      cases eb
      refine ⟨c, ?_, q⟩
      cases d with
      | none => obtain rfl := t.non; cases e2; rfl
      | bool b => obtain rfl := t.bl; cases e2; rfl
      | int i => obtain rfl := t.int; cases e2; rfl
      | str z =>
        obtain rfl := t.str
        have e2 : (if z.length ≤ sizeLine then some (z.length != 0) else none) = some c := e2
        split at e2
        · have e2 := Option.some.inj e2
          subst e2
          refine ⟨by assumption, ?_⟩
          rw [bne, bne]
          congr 1
          by_cases h0 : z.length = 0
          · rw [h0]; rfl
          · rw [beq_eq_false_iff_ne.mpr h0, beq_eq_false_iff_ne.mpr (by omega)]
        · cases e2
      | list ds =>
        obtain ⟨a, vs, rfl, ha, hr⟩ := t.lst
        have e2 := Option.some.inj e2
        subst e2
        exact .inl ⟨vs, SqL.of ha, by cases hr <;> rfl⟩
      | tuple ds =>
        obtain ⟨a, vs, rfl, ha, hr⟩ := t.tup
        have e2 := Option.some.inj e2
        subst e2
        exact .inr (.inl ⟨vs, ha, by cases hr <;> rfl⟩)
      | dict _ => cases e2
/-- isinstance -/
theorem cr_isiW (T : Ty5) : CallR X (.builtin "isinstance") (fun vs H Q => ∃ v, vs = [v, .ty (tyN T)] ∧ rOf1 X.K U (fun S x => isiW S T x) v H Q) := by
  intro pins s σ H vs us Q I r h
  obtain ⟨v, rfl, S, μ, wx, hS, hx, hp⟩ := h
  unfold isiW at hp
  cases e1 : rdC S wx with
  | none => simp only [e1] at hp; exact hp.elim
  | some d =>
    simp only [e1] at hp
    obtain ⟨t, h1, h2⟩ := isi_ty T (rdC_rep hS hx e1)
    exact call_isi pins s σ H _ us Q I r ⟨v, .ty (tyN T), t, .type (tyN T), isiD T d, rfl, .ty _, h1, h2, vp_here hS hp (.bl _)⟩
end
end MP
set_option Elab.async false
set_option linter.all false
set_option maxRecDepth 100000
set_option maxHeartbeats 4000000
/-! The text of an expression and its meaning. -/
namespace MP
open PySem PySem.Spec PyProof.Rows L2

/-! ### the look -/
/-- the names of a def by slot; what the numbers of constants and defs mean; the built-ins that are still built in -/
structure Ck where
  N : List Str
  gl : Nat → Option Str
  fn : Nat → Option Str
  blt : List Str
def noStar : Expr → Bool | .Starred .. => false | _ => true
def noSlice : Expr → Bool | .Slice .. => false | _ => true
def noSet : Expr → Bool | .Set .. => false | _ => true
def noSuper : Expr → Bool | .Call (.Name _ _) [] [] _ => false | _ => true
def plainT : Expr → Bool
  | .UnaryOp .Not _ _ => false
  | .BoolOp .. => false
  | .IfExp .. => false
  | .Compare .. => false
  | _ => true
def visB (sc : Scope) (x : Str) : Bool := match sc.names.lookup x with
  | some .local => true
  | some .cell => true
  | some .free => true
  | _ => false
def locB (top : Bool) (sc : Scope) (x : Str) : Bool := match sc.names.lookup x with
  | some .local => true
  | some .cell => top
  | _ => false
def glB (sc : Scope) (x : Str) : Bool := decide (sc.names.lookup x = some .globalImplicit)
def plainN (x : Str) : Bool := !(x == ("__debug__" : Str)) && !(x == ("__classdict__" : Str)) && decide (x ≠ ("__name__" : Str))
def biN : BI → Str
  | .len => "len" | .abs => "abs" | .min => "min" | .max => "max" | .int => "int" | .list => "list" | .tuple => "tuple" | .sum => "sum" | .sorted => "sorted" | .all => "all" | .any => "any"
def tyS : Ty5 → Str
  | .int => "int" | .bool => "bool" | .str => "str" | .tuple => "tuple" | .list => "list"
def mtN : MT → Str
  | .append => "append" | .pop => "pop" | .popAt => "pop" | .count => "count" | .index => "index"
def mt0 : MT → Bool
  | .pop => true
  | _ => false
/-- a built-in's name here -/
def bltB (C : Ck) (sc : Scope) (x : Str) : Bool := glB sc x && plainN x && decide (x ∈ C.blt)
def ownOf (C : Ck) (vs : List Nat) : List (Str × Nat) := vs.map fun v => (C.N.getD v "", v)

/-! one look a kind: p, q look at the parts -/
abbrev LkE := Scope → Expr → Bool
def kInt (i : Int) : Expr → Bool | .Constant (.int j) _ _ => decide (i = j) | _ => false
def kBl (b : Bool) : Expr → Bool | .Constant (.bool c) _ _ => decide (b = c) | _ => false
def kNon : Expr → Bool | .Constant .none _ _ => true | _ => false
def kStr (s : Str) : Expr → Bool | .Constant (.str t) _ _ => decide (s = t) | _ => false
def kVar (C : Ck) (k : Nat) (sc : Scope) : Expr → Bool | .Name x _ => decide (C.N[k]? = some x) && visB sc x && plainN x | _ => false
def kGlb (C : Ck) (g : Nat) (sc : Scope) : Expr → Bool | .Name x _ => decide (C.gl g = some x) && glB sc x && plainN x | _ => false
def kBin (op : BO) (p q : Expr → Bool) : Expr → Bool | .BinOp x o y _ => decide (o = opOf op) && p x && q y | _ => false
def kNeg (p : Expr → Bool) : Expr → Bool | .UnaryOp .USub x _ => p x | _ => false
def kCmp (op : CO) (p q : Expr → Bool) : Expr → Bool | .Compare x [o] [y] _ => decide (o = cmpOf op) && p x && q y && !behindInMarks o y | _ => false
def kChn (o1 o2 : CO) (p q r : Expr → Bool) : Expr → Bool | .Compare x [p1, p2] [y, z] _ => decide (p1 = cmpOf o1) && decide (p2 = cmpOf o2) && p x && q y && r z && !behindInMarks p2 z | _ => false
def kOne (p : Expr → Bool) : Expr → Bool | .BoolOp _ [x] _ => p x | _ => false
def kAnd (p q : Expr → Bool) : Expr → Bool | .BoolOp .And (x :: y :: r) pos => p x && q (.BoolOp .And (y :: r) pos) | _ => false
def kOr (p q : Expr → Bool) : Expr → Bool | .BoolOp .Or (x :: y :: r) pos => p x && q (.BoolOp .Or (y :: r) pos) | _ => false
def kNot (p : Expr → Bool) : Expr → Bool | .UnaryOp .Not x _ => p x | _ => false
def kIfx (t p q : Expr → Bool) : Expr → Bool | .IfExp a b c _ => t a && p b && q c | _ => false
def kTup (p : List Expr → Bool) : Expr → Bool | .Tuple xs _ _ => p xs | _ => false
def kLst (p : List Expr → Bool) : Expr → Bool | .List xs _ => p xs | _ => false
def kSlc (p : Expr → Bool) (q r : Option Expr → Bool) : Expr → Bool | .Subscript x (.Slice l h none _) _ => p x && q l && r h | _ => false
def kIdx (p q : Expr → Bool) : Expr → Bool | .Subscript x y _ => p x && q y && noSlice y | _ => false
def kCall (C : Ck) (f : Nat) (sc : Scope) (p : List Expr → Bool) : Expr → Bool | .Call (.Name x _) xs [] _ => decide (C.fn f = some x) && glB sc x && plainN x && p xs | _ => false
def kBi (C : Ck) (b : BI) (sc : Scope) (p : List Expr → Bool) : Expr → Bool | .Call (.Name x _) (y :: ys) [] _ => decide (x = biN b) && bltB C sc x && p (y :: ys) | _ => false
def kIsi (C : Ck) (T : Ty5) (sc : Scope) (p : Expr → Bool) : Expr → Bool | .Call (.Name x _) [y, .Name t _] [] _ => decide (x = "isinstance") && bltB C sc x && decide (t = tyS T) && bltB C sc t && p y && noStar y | _ => false
def kMth (m : MT) (p : Expr → Bool) (q : List Expr → Bool) : Expr → Bool
  | .Call (.Attribute y name apos) xs [] cpos => decide (name = mtN m) && p y && noSuper y && (apos.endLine == cpos.line) && (if mt0 m then xs.isEmpty else decide (0 < xs.length) && decide (xs.length < 20)) && q xs
  | _ => false
def kTrev (C : Ck) (sc : Scope) (p : Expr → Bool) : Expr → Bool | .Call (.Name x _) [.Call (.Name z _) [y] [] _] [] _ => decide (x = "tuple") && bltB C sc x && decide (z = "reversed") && bltB C sc z && p y && noStar y | _ => false
def kLrng (C : Ck) (sc : Scope) (p : Expr → Bool) : Expr → Bool | .Call (.Name x _) [.Call (.Name z _) [y] [] _] [] _ => decide (x = "list") && bltB C sc x && decide (z = "range") && bltB C sc z && p y && noStar y | _ => false
def kComp (C : Ck) (vs : List Nat) (tg : E) (sc : Scope) (pi : Expr → Bool) (pg : LkE) (pt : Scope → List Expr → Bool) (pe : LkE) : Expr → Bool
  | .ListComp elt' [⟨tg', it', ifs, 0⟩] scope _ => blkC C.N sc scope (ownOf C vs) && (tslots tg).all (fun k => decide (k ∈ vs)) && noSet it' && pi it' && pg (relS scope sc) tg' && pt (relS scope sc) ifs && pe (relS scope sc) elt'
  | _ => false
def kTv (p : Expr → Bool) (x : Expr) : Bool := p x && plainT x
def kNil : List Expr → Bool | [] => true | _ => false
def kCons (p : Expr → Bool) (q : List Expr → Bool) : List Expr → Bool | x :: xs => p x && noStar x && q xs | [] => false
def kOpt (p : Expr → Bool) : Option Expr → Bool | some x => p x | none => false
def kNone : Option Expr → Bool | none => true | _ => false
def kTs1 (p : Expr → Bool) : List Expr → Bool | [x] => p x | _ => false
def kRg1 (C : Ck) (sc : Scope) (nm : Str) (p : Expr → Bool) : Expr → Bool | .Call (.Name x _) [y] [] _ => decide (x = nm) && bltB C sc x && p y && noStar y | _ => false
def kRg2 (C : Ck) (sc : Scope) (p q : Expr → Bool) : Expr → Bool | .Call (.Name x _) [y, z] [] _ => decide (x = "range") && bltB C sc x && p y && noStar y && q z && noStar z | _ => false
def kRg3 (C : Ck) (sc : Scope) (p q r : Expr → Bool) : Expr → Bool | .Call (.Name x _) [y, z, u] [] _ => decide (x = "range") && bltB C sc x && p y && noStar y && q z && noStar z && r u && noStar u | _ => false
def kNm (C : Ck) (top : Bool) (k : Nat) (sc : Scope) : Expr → Bool | .Name x _ => decide (C.N[k]? = some x) && locB top sc x | _ => false

mutual
def okE (C : Ck) (top : Bool) : E → Scope → Expr → Bool
  | .int i, _, x => kInt i x
  | .bl b, _, x => kBl b x
  | .non, _, x => kNon x
  | .str s, _, x => kStr s x
  | .var k, sc, x => kVar C k sc x
  | .glb g, sc, x => kGlb C g sc x
  | .bin op a b, sc, x => kBin op (okE C top a sc) (okE C top b sc) x
  | .neg a, sc, x => kNeg (okE C top a sc) x
  | .cmp op a b, sc, x => kCmp op (okE C top a sc) (okE C top b sc) x
  | .chn o1 o2 a b c, sc, x => kChn o1 o2 (okE C top a sc) (okE C top b sc) (okE C top c sc) x
  | .one a, sc, x => kOne (okE C top a sc) x
  | .and a b, sc, x => kAnd (okE C top a sc) (okE C top b sc) x
  | .or a b, sc, x => kOr (okE C top a sc) (okE C top b sc) x
  | .not a, sc, x => kNot (okE C top a sc) x
  | .ifx t a b, sc, x => kIfx (okT C top t sc) (okE C top a sc) (okE C top b sc) x
  | .tup es, sc, x => kTup (okA C top es sc) x
  | .lst _ es, sc, x => kLst (okA C top es sc) x
  | .slc a lo hi, sc, x => kSlc (okE C top a sc) (okO C top lo sc) (okO C top hi sc) x
  | .idx a b, sc, x => kIdx (okE C top a sc) (okE C top b sc) x
  | .call f es, sc, x => kCall C f sc (okA C top es sc) x
  | .bi b _ es, sc, x => kBi C b sc (okA C top es sc) x
  | .isi T a, sc, x => kIsi C T sc (okE C top a sc) x
  | .mth m o es, sc, x => kMth m (okE C top o sc) (okA C top es sc) x
  | .trev a, sc, x => kTrev C sc (okE C top a sc) x
  | .lrng _ a, sc, x => kLrng C sc (okE C top a sc) x
  | .comp _ vs elt tg it tst, sc, x => kComp C vs tg sc (okI C top it sc) (okG C false tg) (okTs C false tst) (okE C false elt) x
  | _, _, _ => false
def okT (C : Ck) (top : Bool) : E → Scope → Expr → Bool
  | .tv e, sc, x => kTv (okE C top e sc) x
  | .tcmp op a b, sc, x => kCmp op (okE C top a sc) (okE C top b sc) x
  | .tchn o1 o2 a b c, sc, x => kChn o1 o2 (okE C top a sc) (okE C top b sc) (okE C top c sc) x
  | .one a, sc, x => kOne (okT C top a sc) x
  | .tand a b, sc, x => kAnd (okT C top a sc) (okT C top b sc) x
  | .tor a b, sc, x => kOr (okT C top a sc) (okT C top b sc) x
  | .tnot a, sc, x => kNot (okT C top a sc) x
  | _, _, _ => false
def okA (C : Ck) (top : Bool) : E → Scope → List Expr → Bool
  | .nil, _, x => kNil x
  | .cons e es, sc, x => kCons (okE C top e sc) (okA C top es sc) x
  | _, _, _ => false
def okO (C : Ck) (top : Bool) : E → Scope → Option Expr → Bool
  | .nil, _, x => kNone x
  | .cons e _, sc, x => kOpt (okE C top e sc) x
  | _, _, _ => false
def okTs (C : Ck) (top : Bool) : E → Scope → List Expr → Bool
  | .nil, _, x => kNil x
  | .cons e _, sc, x => kTs1 (okT C top e sc) x
  | _, _, _ => false
def okI (C : Ck) (top : Bool) : E → Scope → Expr → Bool
  | .isq e, sc, x => okE C top e sc x
  | .irg1 a, sc, x => kRg1 C sc "range" (okE C top a sc) x
  | .irg2 a b, sc, x => kRg2 C sc (okE C top a sc) (okE C top b sc) x
  | .irg3 a b c, sc, x => kRg3 C sc (okE C top a sc) (okE C top b sc) (okE C top c sc) x
  | .irev e, sc, x => kRg1 C sc "reversed" (okE C top e sc) x
  | _, _, _ => false
def okG (C : Ck) (top : Bool) : E → Scope → Expr → Bool
  | .tnm k, sc, x => kNm C top k sc x
  | .tsub o i, sc, x => kIdx (okE C top o sc) (okE C top i sc) x
  | .ttup ts, sc, x => kTup (okGs C top ts sc) x
  | _, _, _ => false
def okGs (C : Ck) (top : Bool) : E → Scope → List Expr → Bool
  | .nil, _, x => kNil x
  | .cons e es, sc, x => kCons (okG C top e sc) (okGs C top es sc) x
  | _, _, _ => false
end
end MP
set_option Elab.async false
set_option linter.all false
set_option maxRecDepth 100000
set_option maxHeartbeats 4000000
/-! An expression does what it means. -/
namespace MP
open PySem PySem.Spec PyProof.Rows L2

/-- no exception is wished for -/
abbrev U0 : Wx := fun _ _ => False
/-- a def's promise: what its meaning gives -/
def spF (K : PySem.W.Frag) (F : Fun') (f : Nat) : Sp := fun vs H Q _ => ∃ S μ ws, StoRep K H S μ ∧ RepWs K H μ ws vs ∧ PostE K U0 H μ (F f ws S) (VP K Q)
structure XF (X : Cx) (C : Ck) (G : Nat → Option W) (F : Fun') (n : Nat) : Prop where
  hN : X.N = C.N
  nd : C.N.Nodup
  calm : X.calm = true
  hr : Room n X.A
  glb : ∀ g x w, C.gl g = some x → G g = some w → ∃ v u, X.mg x = some u ∧ RelV v u ∧ ∀ H μ, RepW X.K H μ w v
  blt : ∀ x, x ∈ C.blt → X.mg x = none
  fns : ∀ f x, C.fn f = some x → ∃ fa fd ps, X.mg x = some (.ref fa) ∧ PySem.W.keepIn X.K (.ref fa) = true ∧ Binds X.K fd ps [] ∧ FnOk X.prog X.w X.K X.mg X.base CX0 n fa fd ps (spF X.K F f)
theorem XF.blk {X : Cx} {C : Ck} {G : Nat → Option W} {F : Fun'} {n : Nat} (x : XF X C G F n) (s : Shared) (H : Hp) (scope : Scope) (cenv : Env) (fp : List Addr) : XF (X.blk s H scope cenv fp) C G F n :=
  ⟨x.hN, x.nd, x.calm, x.hr, x.glb, x.blt, x.fns⟩

/-! ### small facts of the look -/
theorem and_of {a b : Bool} (h : (a && b) = true) : a = true ∧ b = true := by simpa using h
theorem dec_of {p : Prop} [Decidable p] (h : decide p = true) : p := of_decide_eq_true h
theorem not_of' {b : Bool} (h : (!b) = true) : b = false := by simpa using h
theorem star_cons {e : Expr} {es : List Expr} {env : Env} (h : noStar e = true) : starEach (e :: es) env = (false, eval e env) :: starEach es env := by
  cases e <;> first | rfl | cases h
theorem visB_vis {sc : Scope} {x : Str} (h : visB sc x = true) : Vis sc x := by
  unfold visB at h
  split at h
  · exact .inl (by assumption)
  · exact .inr (.inl (by assumption))
  · exact .inr (.inr (by assumption))
  · cases h
theorem plainN_d {x : Str} (h : plainN x = true) : (x == ("__debug__" : Str)) = false := not_of' (and_of (and_of h).1).1
theorem plainN_c {x : Str} (h : plainN x = true) : (x == ("__classdict__" : Str)) = false := not_of' (and_of (and_of h).1).2
theorem plainN_n {x : Str} (h : plainN x = true) : x ≠ ("__name__" : Str) := dec_of (and_of h).2
theorem glB_gl {X : Cx} {sc : Scope} {x : Str} (hs : X.env.scope = sc) (h : glB sc x = true) : Gl X x := by
  show X.env.scope.names.lookup x = some .globalImplicit
  rw [hs]; exact dec_of h
theorem nostar_all {C : Ck} {top : Bool} {env : Env} {sc : Scope} (pos : Pos) : ∀ (es : E) (xs : List Expr), okA C top es sc xs = true → ((backTo pos (starEach xs env)).any (·.1) = false ∧ (backTo pos (starEach xs env)).all (fun x => !x.1) = true) := by
  intro es
  induction es with
  | nil =>
    intro xs h
    cases xs with
    | nil => exact ⟨rfl, rfl⟩
    | cons _ _ => cases h
  | cons e es _ ih =>
    intro xs h
    cases xs with
    | nil => cases h
    | cons x xs =>
      have h : (okE C top e sc x && noStar x && okA C top es sc xs) = true := h
      obtain ⟨h1, h2⟩ := and_of h
      obtain ⟨a, b⟩ := ih xs h2
      rw [star_cons (and_of h1).2]
      constructor
      · show (false || (backTo pos (starEach xs env)).any (·.1)) = false
        rw [a] <;> rfl
      · show (!false && (backTo pos (starEach xs env)).all (fun x => !x.1)) = true
        rw [b] <;> rfl
  | _ => intro xs h; cases h
theorem plain_true {e : Expr} {env : Env} (h : plainT e = true) : ∀ whole, isTrue e env whole = (do let v ← whole; standAt e.pos; holding [v] (truthy v)) := by
  intro whole
  cases e with
  | UnaryOp op a p => cases op <;> first | rfl | cases h
  | BoolOp => cases h
  | IfExp => cases h
  | Compare => cases h
  | _ => rfl
theorem ix_plain {e : Expr} (h : noSlice e = true) : PlainIx e := by
  intro o i
  cases e <;> first | rfl | cases h
theorem noset_fold {e : Expr} {env : Env} (h : noSet e = true) : ∀ x, foldedSetIterable e env x = pure x := by
  intro x
  cases e <;> first | rfl | cases h
theorem super_base {o : Expr} {attr : Str} {env : Env} {w : Sem Value} (h : noSuper o = true) : attributeBase o attr env w = w := by
  unfold attributeBase
  split
  · cases h
  · rfl
theorem marks_two {o1 o2 : CmpOp} {a b : Expr} (h : behindInMarks o2 b = false) : lastMarks [o1, o2] [a, b] = false := h

/-! ### readings -/
section
variable {K : PySem.W.Frag} {U : Wx} {σ : L2.St} {H : Hp} {Q : VK}
def TOof (K : PySem.W.Frag) (U : Wx) (r : Loc → Sto → Rs (Option Int)) : TO := fun σ H Q => ∃ l S μ, LocRep K H μ l σ ∧ StoRep K H S μ ∧ PostE K U H μ (r l S) fun o H' _ _ => Q o H'
def TBof (K : PySem.W.Frag) (U : Wx) (r : Loc → Sto → Rs Bool) : TT := fun σ H Q => ∃ l S μ, LocRep K H μ l σ ∧ StoRep K H S μ ∧ PostE K U H μ (r l S) fun o H' _ _ => Q o H'
/-- a target -/
def TGof (K : PySem.W.Frag) (U : Wx) (ts : List Nat) (r : W → Loc → Sto → Rs Loc) : TG := fun v σ H Q => ∃ l S μ w, LocRep K H μ l σ ∧ StoRep K H S μ ∧ RepW K H μ w v ∧ PostE K U H μ (r w l S) fun l' H' μ' S' => ∀ σ', LocRep K H' μ' l' σ' → (σ'.length = σ.length ∧ ∀ i, i ∉ ts → σ'[i]? = σ[i]?) → Q σ' H'
def TGsof (K : PySem.W.Frag) (U : Wx) (ts : List Nat) (r : List D → Loc → Sto → Rs Loc) : TGs := fun vs σ H Q => ∃ l S μ ds, LocRep K H μ l σ ∧ StoRep K H S μ ∧ RepDs K H μ ds vs ∧ PostE K U H μ (r ds l S) fun l' H' μ' S' => ∀ σ', LocRep K H' μ' l' σ' → (σ'.length = σ.length ∧ ∀ i, i ∉ ts → σ'[i]? = σ[i]?) → Q σ' H'
theorem te_pure {w : W} {v : V} {σ : L2.St} {H : Hp} {Q : VK} (hr : ∀ H μ, RepW K H μ w v) (h : TEof K U (fun _ S => .ok w S) σ H Q) : tC v σ H Q := by
  obtain ⟨l, S, μ, hl, hS, hp⟩ := h
  exact hp H μ (Ext.refl H μ) hS v (hr H μ)
theorem te_var {k : Nat} {σ : L2.St} {H : Hp} {Q : VK} (h : TEof K U (fun l S => getV l k S) σ H Q) : tVar k σ H Q := by
  obtain ⟨l, S, μ, hl, hS, hp⟩ := h
  have hp : PostE K U H μ (getV l k S) (VP K Q) := hp
  unfold getV at hp
  split at hp
  · rename_i w e
    obtain ⟨v, e2, rv⟩ := hl.2 k w e
    exact ⟨v, e2, hp H μ (Ext.refl H μ) hS v rv⟩
  · exact hp.elim
/-- an answer that is a bool -/
theorem bool_rep {w : W} {H : Hp} {μ : Mu} {b : Bool} (h : RepW K H μ w (.bl b)) (e : ∃ c, w = .dat (.bool c)) : w = .dat (.bool b) := by
  obtain ⟨c, rfl⟩ := e
  have h : RepD K H μ (.bool c) (.bl b) := h
  cases h
  rfl
theorem ifW_at {α : Type} {w : W} {A B : Rs α} {H : Hp} {μ : Mu} {R : α → Hp → Mu → Sto → Prop} (h : PostE K U H μ (ifW w A B) R) : ∃ b : Bool, w = .dat (.bool b) ∧ PostE K U H μ (if b = true then A else B) R := by
  unfold ifW at h
  split at h
  · exact ⟨true, rfl, h⟩
  · exact ⟨false, rfl, h⟩
  · exact h.elim
theorem post_if {α : Type} {b : Bool} {A B : Rs α} {H : Hp} {μ : Mu} {R : α → Hp → Mu → Sto → Prop} {P P' : Prop} (h : PostE K U H μ (if b = true then A else B) R) (h1 : PostE K U H μ A R → P) (h2 : PostE K U H μ B R → P') : if b = true then P else P' := by
  cases b with
  | true => rw [if_pos rfl] at h ⊢; exact h1 h
  | false => rw [if_neg Bool.false_ne_true] at h ⊢; exact h2 h
theorem blrep {H : Hp} {μ : Mu} {b : Bool} {v : V} (h : RepW K H μ (.dat (.bool b)) v) : v = .bl b := by
  have h : RepD K H μ (.bool b) v := h
  cases h; rfl
theorem te_args2 {ra : Loc → Sto → Rs (List W)} {f : List W → Sto → Rs W} (h : TEof K U (fun l S => (ra l S).bind f) σ H Q) : TAof K U ra σ H fun vs H1 => rOfL K U (fun S ws => f ws S) vs H1 Q := by
  obtain ⟨l, S, μ, hl, hS, hp⟩ := h
  exact ⟨l, S, μ, hl, hS, hp.bind.imp fun x H1 μ1 S1 e1 s1 q1 v rv => ⟨S1, μ1, x, s1, rv, q1⟩⟩
theorem dsOf_rep : ∀ {ws : List W} {vs : List V} {ds : List D} {H : Hp} {μ : Mu}, dsOf ws = some ds → RepWs K H μ ws vs → RepDs K H μ ds vs
  | [], _, ds, _, _, e, h => by
    cases h
    cases e
    exact .nil
  | w :: ws, _, ds, H, μ, e, h => by
    cases h with
    | cons r t =>
      unfold dsOf at e
      cases w with
      | dat d =>
        cases e2 : dsOf ws with
        | none => simp only [dOf, e2] at e; cases e
        | some xs =>
          simp only [dOf, e2] at e
          cases e
          exact .cons r (dsOf_rep e2 t)
      | obj p => simp only [dOf] at e; cases e
      | scr p => simp only [dOf] at e; cases e
      | cst p => simp only [dOf] at e; cases e
theorem wipe_rep {H : Hp} {μ : Mu} {l : Loc} {σ : L2.St} (h : LocRep K H μ l σ) : ∀ vs : List Nat, LocRep K H μ (wipeL l vs) (wipe σ vs)
  | [] => h
  | v :: vs => by
    have ih := wipe_rep h vs
    show LocRep K H μ ((wipeL l vs).set v none) ((wipe σ vs).set v none)
    refine ⟨by simp [ih.1], fun i w q => ?_⟩
    by_cases e : v = i
    · subst e
      by_cases hv : v < (wipeL l vs).length
      · rw [List.getElem?_set_self hv] at q; cases q
      · rw [List.getElem?_eq_none (by simpa using hv)] at q; cases q
    · rw [List.getElem?_set_ne e] at q ⊢
      exact ih.2 i w q
end

/-! ### what is walked -/
structure Walks (K : PySem.W.Frag) (J : It) (ds : List D) (A : Hp → Mu → Prop) : Prop where
  up : ∀ {H μ H' μ'}, A H μ → Ext H μ H' μ' → A H' μ'
  grow : ∀ {H μ p xs ys}, A H μ → H p = some (.lst xs) → p ∈ μ.hid → A (upd H p (.lst ys)) μ
  go : ∀ {H μ} {i : Nat}, A H μ → i < ds.length → J.go i H
  yld : ∀ {H μ} {i : Nat} {x H' d}, A H μ → J.yld i H x H' → ds[i]? = some d → Ext H μ H' μ ∧ (∀ S, StoRep K H S μ → StoRep K H' S μ) ∧ RepD K H' μ d x
  stop : ∀ {H μ} {i : Nat}, A H μ → ds.length ≤ i → J.stop i H
def TIof (K : PySem.W.Frag) (U : Wx) (r : Loc → Sto → Rs (List D)) : TI := fun σ H R => ∃ l S μ, LocRep K H μ l σ ∧ StoRep K H S μ ∧ PostE K U H μ (r l S) fun ds H' μ' _ => ∀ J A, Walks K J ds A → A H' μ' → R J H'
section
variable {K : PySem.W.Frag}
theorem sqL_one {H : Hp} {μ : Mu} {w : W} {a : Addr} {ds : List D} (h : RepW K H μ w (.ref a)) (hw : w = .dat (.list ds) ∨ w = .scr ds) : ∃ vs, SqL K H a vs ∧ RepDs K H μ ds vs := by
  rcases hw with rfl | rfl
  · have h : RepD K H μ (.list ds) (.ref a) := h
    cases h with
    | lst ha _ _ r => exact ⟨_, SqL.of ha, r⟩
  · obtain ⟨b, vs, e, q, r⟩ := h
    cases e
    rcases q with ⟨o, q⟩ | q
    · exact ⟨vs, .inl (.inr ⟨o, q⟩), r⟩
    · exact ⟨vs, .inr q, r⟩
/-- a list's items, from the list at a that does not change -/
theorem walks_l {w : W} {a : Addr} {ds : List D} (hw : w = .dat (.list ds) ∨ w = .scr ds) : Walks K (Itl K a) ds fun H μ => RepW K H μ w (.ref a) where
  up := fun h e => RepW.up e h
  grow := fun h hp hh => RepW.grow hp hh h
  go := fun {H μ i} h hi => by
    obtain ⟨vs, q, r⟩ := sqL_one h hw
    have : i < vs.length := by rw [← r.length]; exact hi
    exact ⟨vs, vs[i], q, List.getElem?_eq_getElem this⟩
  yld := fun {H μ i x H' d} h y e => by
    obtain ⟨vs, q, r⟩ := sqL_one h hw
    obtain ⟨e1, y⟩ := y
    subst e1
    obtain ⟨v, e2, rv⟩ := r.get e
    have e3 := y vs q
    rw [e2] at e3
    cases e3
    exact ⟨Ext.refl _ _, fun _ s => s, rv⟩
  stop := fun {H μ i} h hi => by
    obtain ⟨vs, q, r⟩ := sqL_one h hw
    exact ⟨vs, q, by rw [← r.length]; exact hi⟩
theorem sqT_one {H : Hp} {μ : Mu} {w : W} {a : Addr} {ds : List D} (h : RepW K H μ w (.ref a)) (hw : w = .dat (.tuple ds) ∨ w = .cst ds) : ∃ vs, SqT K H a vs ∧ RepDs K H μ ds vs := by
  rcases hw with rfl | rfl
  · have h : RepD K H μ (.tuple ds) (.ref a) := h
    cases h with
    | tup ha r => exact ⟨_, SqT.of ha, r⟩
  · obtain ⟨b, vs, e, q, r⟩ := h
    cases e
    exact ⟨vs, .inr q, r⟩
theorem walks_t {w : W} {a : Addr} {ds : List D} (hw : w = .dat (.tuple ds) ∨ w = .cst ds) : Walks K (Itt K a) ds fun H μ => RepW K H μ w (.ref a) where
  up := fun h e => RepW.up e h
  grow := fun h hp hh => RepW.grow hp hh h
  go := fun {H μ i} h hi => by
    obtain ⟨vs, q, r⟩ := sqT_one h hw
    have : i < vs.length := by rw [← r.length]; exact hi
    exact ⟨vs, vs[i], q, List.getElem?_eq_getElem this⟩
  yld := fun {H μ i x H' d} h y e => by
    obtain ⟨vs, q, r⟩ := sqT_one h hw
    obtain ⟨e1, y⟩ := y
    subst e1
    obtain ⟨v, e2, rv⟩ := r.get e
    have e3 := y vs q
    rw [e2] at e3
    cases e3
    exact ⟨Ext.refl _ _, fun _ s => s, rv⟩
  stop := fun {H μ i} h hi => by
    obtain ⟨vs, q, r⟩ := sqT_one h hw
    exact ⟨vs, q, by rw [← r.length]; exact hi⟩
theorem rng_len (lo c : Int) : ∀ n, (rng lo c n).length = n
  | 0 => rfl
  | n + 1 => by show (rng (lo + c) c n).length + 1 = n + 1; rw [rng_len]
theorem rng_get : ∀ (n : Nat) (lo c : Int) (i : Nat), i < n → (rng lo c n)[i]? = some (.int (lo + i * c))
  | 0, _, _, _, h => absurd h (Nat.not_lt_zero _)
  | n + 1, lo, c, 0, _ => by show some (PyData.int lo) = _; simp
  | n + 1, lo, c, i + 1, h => by
    show (rng (lo + c) c n)[i]? = _
    rw [rng_get n (lo + c) c i (by omega)]
    congr 2
    have : ((i + 1 : Nat) : Int) * c = i * c + c := by rw [Int.natCast_succ, Int.add_mul, Int.one_mul]
    rw [this]
    omega
theorem walks_r {lo : Int} {n : Nat} : Walks K (Itr lo n) (rng lo 1 n) fun _ _ => True where
  up := fun _ _ => trivial
  grow := fun _ _ _ => trivial
  go := fun _ hi => by rw [rng_len] at hi; exact hi
  yld := fun {H μ i x H' d} _ y e => by
    obtain ⟨e1, y⟩ := y
    subst e1 y
    have hi : i < n := by rw [← rng_len lo 1 n]; exact (List.getElem?_eq_some_iff.mp e).1
    rw [rng_get n lo 1 i hi] at e
    cases e
    refine ⟨Ext.refl _ _, fun _ s => s, ?_⟩
    rw [Int.mul_one]
    exact .int _
  stop := fun _ hi => by rw [rng_len] at hi; exact hi
theorem walks_c {lo c : Int} {n : Nat} : Walks K (Itc lo c n) (rng lo c n) fun _ _ => True where
  up := fun _ _ => trivial
  grow := fun _ _ _ => trivial
  go := fun _ hi => by rw [rng_len] at hi; exact hi
  yld := fun {H μ i x H' d} _ y e => by
    obtain ⟨e1, y⟩ := y
    subst e1 y
    have hi : i < n := by rw [← rng_len lo c n]; exact (List.getElem?_eq_some_iff.mp e).1
    rw [rng_get n lo c i hi] at e
    cases e
    exact ⟨Ext.refl _ _, fun _ s => s, .int _⟩
  stop := fun _ hi => by rw [rng_len] at hi; exact hi
theorem walks_vl {a : Addr} {ds : List D} : Walks K (Itv K a ds.length) ds.reverse fun H μ => RepD K H μ (.list ds) (.ref a) where
  up := fun h e => RepD.up e h
  grow := fun h hp hh => RepD.grow hp hh _ _ h
  go := fun {H μ i} h hi => by
    obtain ⟨vs, q, r⟩ := sqL_one (w := .dat (.list ds)) h (.inl rfl)
    rw [List.length_reverse] at hi
    have : ds.length - 1 - i < vs.length := by rw [← r.length]; omega
    exact ⟨hi, vs, vs[ds.length - 1 - i], q, List.getElem?_eq_getElem this⟩
  yld := fun {H μ i x H' d} h y e => by
    obtain ⟨vs, q, r⟩ := sqL_one (w := .dat (.list ds)) h (.inl rfl)
    obtain ⟨e1, y⟩ := y
    subst e1
    have hi : i < ds.length := by have := (List.getElem?_eq_some_iff.mp e).1; rw [List.length_reverse] at this; exact this
    rw [List.getElem?_reverse hi] at e
    obtain ⟨v, e2, rv⟩ := r.get e
    have e3 := y vs q
    rw [e2] at e3
    cases e3
    exact ⟨Ext.refl _ _, fun _ s => s, rv⟩
  stop := fun {H μ i} h hi => by rw [List.length_reverse] at hi; exact hi
theorem walks_vt {a : Addr} {ds : List D} : Walks K (RT.ItvT K a ds.length) ds.reverse fun H μ => RepD K H μ (.tuple ds) (.ref a) where
  up := fun h e => RepD.up e h
  grow := fun h hp hh => RepD.grow hp hh _ _ h
  go := fun {H μ i} h hi => by
    obtain ⟨vs, q, r⟩ := sqT_one (w := .dat (.tuple ds)) h (.inl rfl)
    rw [List.length_reverse] at hi
    have : ds.length - 1 - i < vs.length := by rw [← r.length]; omega
    exact ⟨hi, vs, vs[ds.length - 1 - i], q, List.getElem?_eq_getElem this⟩
  yld := fun {H μ i x H' d} h y e => by
    obtain ⟨vs, q, r⟩ := sqT_one (w := .dat (.tuple ds)) h (.inl rfl)
    obtain ⟨e1, y⟩ := y
    subst e1
    have hi : i < ds.length := by have := (List.getElem?_eq_some_iff.mp e).1; rw [List.length_reverse] at this; exact this
    rw [List.getElem?_reverse hi] at e
    obtain ⟨v, e2, rv⟩ := r.get e
    have e3 := y vs q
    rw [e2] at e3
    cases e3
    exact ⟨Ext.refl _ _, fun _ s => s, rv⟩
  stop := fun {H μ i} h hi => by rw [List.length_reverse] at hi; exact hi
end

/-! ### the theorem -/
section
variable (C : Ck) (G : Nat → Option W) (F : Fun') (n : Nat)
structure Snd (e : E) : Prop where
  ee : ∀ (top : Bool) (sc : Scope) (x : Expr) (X : Cx), XF X C G F n → X.env.scope = sc → (top = true → ∀ y, X.fn y = true) → okE C top e sc x = true → PE X x (TEof X.K U0 (ev G F e))
  tt : ∀ (top : Bool) (sc : Scope) (x : Expr) (X : Cx), XF X C G F n → X.env.scope = sc → (top = true → ∀ y, X.fn y = true) → okT C top e sc x = true → PT X x (TTof X.K U0 (ev G F e))
  ww : ∀ (top : Bool) (sc : Scope) (op : BoolOp) (y : Expr) (r : List Expr) (pos : Pos) (X : Cx), XF X C G F n → X.env.scope = sc → (top = true → ∀ y, X.fn y = true) → okT C top e sc (.BoolOp op (y :: r) pos) = true → PW X (.BoolOp op (y :: r) pos) (TTof X.K U0 (ev G F e))
  aa : ∀ (top : Bool) (sc : Scope) (xs : List Expr) (X : Cx), XF X C G F n → X.env.scope = sc → (top = true → ∀ y, X.fn y = true) → okA C top e sc xs = true → PA X xs (TAof X.K U0 (evs G F e))
  oo : ∀ (top : Bool) (sc : Scope) (x : Option Expr) (X : Cx), XF X C G F n → X.env.scope = sc → (top = true → ∀ y, X.fn y = true) → okO C top e sc x = true → PO X x (TOof X.K U0 (evo G F e))
  ts : ∀ (top : Bool) (sc : Scope) (xs : List Expr) (X : Cx), XF X C G F n → X.env.scope = sc → (top = true → ∀ y, X.fn y = true) → okTs C top e sc xs = true → PTs X xs (TBof X.K U0 (evt G F e))
  ii : ∀ (tg : Expr) (top : Bool) (sc : Scope) (x : Expr) (X : Cx), XF X C G F n → X.env.scope = sc → (top = true → ∀ y, X.fn y = true) → okI C top e sc x = true → PI X tg x (TIof X.K U0 (evi G F e))
  gg : ∀ (top : Bool) (sc : Scope) (x : Expr) (X : Cx), XF X C G F n → X.env.scope = sc → (top = true → ∀ y, X.fn y = true) → okG C top e sc x = true → PG X x (TGof X.K U0 (tslots e) (asg G F e))
  gs : ∀ (top : Bool) (sc : Scope) (xs : List Expr) (X : Cx), XF X C G F n → X.env.scope = sc → (top = true → ∀ y, X.fn y = true) → okGs C top e sc xs = true → PGs X xs (TGsof X.K U0 (tslots e) (asgs G F e))
end
end MP
set_option Elab.async false
set_option linter.all false
set_option maxRecDepth 100000
set_option maxHeartbeats 4000000
/-! tuple(reversed(a tuple)). -/
namespace RTT
open PySem PySem.Spec PyProof.Rows L2 RT

theorem no_len : typeLookup (.type "reversed") "__len__" = pure none := by rw [typeLookup_type, builtinLookup_eq_fast]; kernel_rfl
theorem slot_hint : Slot "reversed" "__length_hint__" "reversed.__length_hint__" :=
  Slot.of (owner := "reversed") (n := "__length_hint__") (by rw [typeLookup_type, builtinLookup_eq_fast]; kernel_rfl) (by decide +kernel) (by decide +kernel) (by decide +kernel) (by first | exact .inr (by decide +kernel) | exact .inl (by decide +kernel)) sub_self
where sub_self : isSubtype (.type "reversed") (.type "reversed") = pure true := by rw [isSubtype_type]; kernel_rfl
theorem entry_hint : entryFor table "reversed.__length_hint__" = some Builtin.«reversed.__length_hint__» := entryFor_of_tree (by kernel_rfl)
theorem args_hint (a : Value) : argsOk "reversed.__length_hint__" ⟨[a], []⟩ := by
  have e := signature?_of (id := "reversed.__length_hint__") (n := ['_', '_', 't', 'n', 'i', 'h', '_', 'h', 't', 'g', 'n', 'e', 'l', '_', '_']) (o := ['d', 'e', 's', 'r', 'e', 'v', 'e', 'r']) (by kernel_rfl) owner_rt
  rw [argsOk, e]
  kernel_rfl
section
variable {prog : Program} {w : World} {A : Around} {E : Value → Shared → Prop} {s : Shared}
/-- how many there still are -/
theorem call_hint {it t : Addr} {items : Array Value} {Q : Value → Shared → Prop} (hit : IsRt s.heap it t ((items.size : Int) - 1)) (ht : IsTup s.heap t items) (hz : (items.size : Int) < 2 ^ 63)
    (h : ∀ tk u, Q (.int items.size u) { s with toks := tk }) : wpAny (model prog w) A (call (.builtin "reversed.__length_hint__") [.ref it]) Q E s := by
  obtain ⟨o, ho, hc, hd⟩ := id hit
  refine wpAny_call_entry slot_hint hit.typeIs entry_hint ?_ (args_hint _)
  unfold Builtin.«reversed.__length_hint__»
  refine wpAny_bind (wpAny_of_eq (a := Value.ref it) rfl (wpAny_bind (wpAny_field ho hd (x := .ref t) rfl ?_)))
  rw [if_neg (show ¬ (Value.ref t == Value.none) = true by simp)]
  try dsimp only
  refine wpAny_bind (len_tuple ht hz (wpAny_bind (wpAny_of_eq (a := some (items.size : Int)) rfl ?_)))
  refine wpAny_bind (wpAny_field (s := { s with toks := s.toks + 1 + 1 }) ho hd (x := rawInt ((items.size : Int) - 1)) rfl ?_)
  have e : (items.size : Int) - 1 + 1 = items.size := by omega
  show wpAny _ _ (if (items.size : Int) < (items.size : Int) - 1 + 1 then _ else _) _ _ _
  rw [if_neg (by omega), e]
  exact wpAny_bind (wpAny_mkInt (wpAny_pure ⟨_, rfl, h _ _⟩))
/-- what list.extend asks ahead of its turns -/
theorem hint_len {it t : Addr} {items : Array Value} {Q : Bool → Shared → Prop} (hit : IsRt s.heap it t ((items.size : Int) - 1)) (ht : IsTup s.heap t items) (hz : items.size ≤ sizeLine)
    (h : ∀ tk b, Q b { s with toks := tk }) : wpAny (model prog w) A (Builtin.List.listLengthHint (.ref it)) Q E s := by
  have hT := hit.typeIs
  have h63 : (items.size : Int) < 2 ^ 63 := by rw [sizeLine_eq] at hz; omega
  unfold Builtin.List.listLengthHint
  refine wpAny_bind (wpAny_specialOf hT no_len ?_)
  show wpAny _ A (specialOf (Value.ref it) (Str.ofString "__length_hint__") >>= _) _ _ s
  refine wpAny_bind (wpAny_specialOf hT slot_hint.lookup ?_)
  have hs : splitId "reversed.__length_hint__" = some ("reversed", "__length_hint__") := by decide +kernel
  have hf : Builtin.List.listFitsIndex (items.size : Int) = true := by
    unfold Builtin.List.listFitsIndex
    simp
    omega
  have hl : Builtin.List.listTooLong ((items.size : Int).toNat) = false := by
    unfold Builtin.List.listTooLong
    simp
    omega
  have sub : isSubtype (.type "reversed") (.type "reversed") = pure true := by rw [isSubtype_type]; kernel_rfl
  generalize hid : ("reversed.__length_hint__" : String) = id0
  rw [hid] at hs
  dsimp only
  rw [hs]
  dsimp only
  refine wpAny_bind (wpAny_isInstance (b := true) hT sub ?_)
  subst hid
  rw [if_neg (by decide), if_neg (by decide +kernel)]
  refine wpAny_bind (wpAny_rule ?_)
  rw [slot_hint.bind]
  refine wpAny_bind (wpAny_pure ?_)
  try dsimp only
  refine wpAny_bind ?_
  refine wpAny_attempt ?_
  refine call_hint (s := s) hit ht h63 fun tk u => ?_
  have ha : asInt? (Value.int (items.size : Int) u) = pure (some (items.size : Int)) := rfl
  try dsimp only
  rw [ha, pure_bind]
  simp only [hf, hl, Bool.not_true, Bool.false_eq_true, if_false]
  rw [if_neg (by omega)]
  exact wpAny_pure (h _ _)
/-- where the iterator stands, the tuple, the count of places behind -/
theorem walks {it t : Addr} {items : Array Value} (hh : A.handled = none) (hne : t ≠ it) (hz : items.size ≤ sizeLine) :
    Walks prog w A it [it, t] [it] items.size (fun i v => items[items.size - 1 - i]? = some v) fun i h => i ≤ items.size ∧ IsRt h it t ((items.size : Int) - 1 - (i : Int)) ∧ IsTup h t items where
  sub := by simp
  frame := fun i h h' x k => ⟨x.1, x.2.1.at fun o e => k it (by simp) o e, by
    obtain ⟨o, e, r⟩ := x.2.2
    exact ⟨o, k t (by simp) o e, r⟩⟩
  item := by
    rintro i s Q E hi ⟨_, x1, x2⟩ k
    have ei : (items.size : Int) - 1 - (i : Int) = ((items.size - 1 - i : Nat) : Int) := by omega
    have en : ((items.size - 1 - i : Nat) : Int) - 1 = (items.size : Int) - 1 - ((i + 1 : Nat) : Int) := by omega
    rw [ei] at x1
    have hx := Array.getElem?_eq_getElem (xs := items) (i := items.size - 1 - i) (by omega)
    refine next_rt_item x1 x2 hx hz fun h' x3 sb => k _ h' _ hx ⟨hi, en ▸ x3, ?_⟩ fun b o hb e => ?_
    · obtain ⟨o, e, r⟩ := x2
      exact ⟨o, (sb.2 t hne).trans e, r⟩
    · exact (sb.2 b (by simpa using hb)).trans e
  done := by
    rintro s Q E ⟨_, x1, x2⟩ k
    have en : (items.size : Int) - 1 - (items.size : Int) = -1 := by omega
    rw [en] at x1
    exact next_rt_end hh x1 fun h' eb => k h' _ fun b o hb e => eb b o (by simpa using hb) e
  self := fun i s Q E x k => iter_rt x.2.1 k
theorem collect_rt {it t : Addr} {items : Array Value} {Q : List Value → Shared → Prop} (hh : A.handled = none) (hit : IsRt s.heap it t ((items.size : Int) - 1)) (ht : IsTup s.heap t items) (hne : t ≠ it) (hz : items.size ≤ sizeLine)
    (hQ : ∀ (h' : Heap) (tk : Nat) (acc : Array Value), (∀ b o, b ≠ it → s.heap.get? b = some o → h'.get? b = some o) → ItemsOf (fun i v => items[items.size - 1 - i]? = some v) acc items.size → Q acc.toList { s with heap := h', toks := tk }) :
    wpAny (model prog w) A (collect (.ref it)) Q E s := by
  let L := s.heap.objs.size
  obtain ⟨oi, hoi, _⟩ := id hit
  obtain ⟨ot, hot, _⟩ := id ht
  have n1 : L ≠ it := Nat.ne_of_gt (Heap.lt_size hoi)
  have n2 : L ≠ t := Nat.ne_of_gt (Heap.lt_size hot)
  let l0 : Obj := { cls := .type "list", data := .seq ([] : List Value).toArray }
  let s1 : Shared := { s with heap := s.heap.push l0 }
  have hit1 : IsRt s1.heap it t ((items.size : Int) - 1) := hit.at fun o e => Heap.get?_push_of_some _ e
  have ht1 : IsTup s1.heap t items := let ⟨o, e, r⟩ := ht; ⟨o, Heap.get?_push_of_some _ e, r⟩
  have hL1 : s1.heap.get? L = some l0 := Heap.get?_push_size _ rfl
  have tT := IsRt.typeIs (s := s1) hit1
  -- the turns, wherever the empty list's room stands
  have turns : ∀ (h2 : Heap) (tk c : Nat), (∀ b o, b ≠ L → s1.heap.get? b = some o → h2.get? b = some o) → h2.get? L = some { cls := .type "list", dict := none, data := .seq #[] c, slots := #[] } →
      ∀ R : Result → Shared → Prop, (∀ (h' : Heap) (tk c : Nat) (acc : Array Value), (∀ b o, b ≠ it → s.heap.get? b = some o → h'.get? b = some o) → h'.get? L = some { cls := .type "list", dict := none, data := .seq acc c, slots := #[] } → ItemsOf (fun i v => items[items.size - 1 - i]? = some v) acc items.size → R (.ok (.ret (.ref L))) { s with heap := h', toks := tk }) →
      codeAny (model prog w) A (.builtin "list.extend.loop" ⟨[.ref L, .ref it, .ref L], []⟩) R { s with heap := h2, toks := tk } := by
    intro h2 tk c kp hL R k
    have W := (walks (prog := prog) (w := w) (A := A.in1) (it := it) (t := t) (items := items) hh hne hz).toS
    have hLf : L ∉ [it, t] := by simp [n1, n2]
    have e0 : (items.size : Int) - 1 - ((0 : Nat) : Int) = (items.size : Int) - 1 := by omega
    refine codeAny_extend_loopS W hz L hLf _ items.size 0 _ #[] c rfl (Nat.zero_le _) ⟨Nat.zero_le _, ?_, ?_⟩ hL (ItemsOf.nil _) fun s' acc c' hm hS hi => ?_
    · rw [e0]
      exact hit1.at fun o e => kp it o (Ne.symm n1) e
    · obtain ⟨o, e, r⟩ := ht1
      exact ⟨o, kp t o (Ne.symm n2) e, r⟩
    · rw [Moved.eq_with hm]
      refine k s'.heap s'.toks c' acc (fun b o hb e => ?_) hS hi
      have hbL : b ≠ L := Nat.ne_of_lt (Heap.lt_size e)
      exact hm.heap b o (by simp [hb, hbL]) (kp b o hbL (Heap.get?_push_of_some _ e))
  unfold collect
  refine wpAny_bind (wpAny_runValue (codeAny_builtin F.entry_proto_collect ?_))
  rw [Around.under_plainId F.plain_proto_collect]
  refine wpAny_bind (m := newList []) (wpAny_newObj_type (wpAny_pure ⟨plainId_quiet F.plain_list_iadd _, codeAny_builtin F.entry_list_iadd ?_⟩))
  rw [Around.under_plainId F.plain_list_iadd]
  have ld : ∀ (h' : Heap) (tk c : Nat) (acc : Array Value), (∀ b o, b ≠ it → s.heap.get? b = some o → h'.get? b = some o) → h'.get? L = some { cls := .type "list", dict := none, data := .seq acc c, slots := #[] } → ItemsOf (fun i v => items[items.size - 1 - i]? = some v) acc items.size →
      wpAny (model prog w) A (do let o ← load L; match o.data with | .seq xs _ => pure xs.toList | _ => unsupported "internal:collect") Q E { s with heap := h', toks := tk } := fun h' tk c acc k1 k2 k3 => by
    refine wpAny_bind (wpAny_load k2 ?_)
    exact wpAny_pure (hQ h' tk acc k1 k3)
  show wpAny _ A.in1 (Builtin.List.listExtendWith (.ref L) (.ref it) (.ref L)) _ _ s1
  have same : Builtin.List.listSameRef (.ref L) (.ref it) = false := by simp [Builtin.List.listSameRef, n1]
  unfold Builtin.List.listExtendWith
  refine wpAny_bind (wpAny_typeOf tT ?_)
  rw [if_neg (by rw [same]; decide)]
  refine wpAny_bind (iter_rt (s := s1) hit1 ?_)
  refine wpAny_bind (wpAny_holding (hint_len (s := s1) hit1 ht1 hz fun tk b => ?_))
  have q := plainId_quiet F.plain_extend_loop
  dsimp only
  split
  · refine wpAny_bind (wpAny_rule (wpAny_bind ?_))
    refine wpAny_bind (wpAny_updateSeq hL1 rfl ?_)
    have g2 := Heap.get?_update_self (Obj.mapSeq (·.push Value.none)) hL1 rfl
    refine wpAny_updateSeq g2 rfl ?_
    have g3 := Heap.get?_update_self (Obj.mapSeq (·.pop)) g2 rfl
    exact wpAny_pure ⟨q _, turns _ tk _ (fun b o hb e => (Heap.get?_update_other _ _ (Ne.symm hb)).trans ((Heap.get?_update_other _ _ (Ne.symm hb)).trans e)) g3 _ ld⟩
  · exact wpAny_pure ⟨q _, turns _ tk _ (fun b o _ e => e) hL1 _ ld⟩
theorem call_tuple_rt {it t : Addr} {items : Array Value} {Q : Value → Shared → Prop} (hh : A.handled = none) (hit : IsRt s.heap it t ((items.size : Int) - 1)) (ht : IsTup s.heap t items) (hne : t ≠ it) (hz : items.size ≤ sizeLine)
    (hQ : ∀ (h' : Heap) (tk : Nat) (acc : Array Value), (∀ b o, b ≠ it → s.heap.get? b = some o → h'.get? b = some o) → ItemsOf (fun i v => items[items.size - 1 - i]? = some v) acc items.size →
      Q (.ref h'.objs.size) { s with heap := h'.push { cls := .type "tuple", data := .seq acc }, toks := tk }) : wpAny (model prog w) A (call (.type "tuple") [.ref it]) Q E s := by
  have new : codeAny (model prog w) A.in1 (.call (.builtin "tuple.__new__") ⟨[.type "tuple", .ref it], []⟩) (wants (fun obj s₁ => s₁.TypeIs obj "tuple" ∧ Q obj s₁) E) s := by
    refine codeAny_of_tree (wpAny_bind (wpAny_of_eq (F.newCall_tuple_1 _) (wpAny_pure ⟨plainId_quiet F.plain_tuple_new _, codeAny_builtin F.entry_tuple_new ?_⟩)))
    rw [Around.under_plainId F.plain_tuple_new]
    have f1 := sub_tuple_self
    have f2 := init_tuple_lookup
    have f3 := madeHere_tuple
    have tT := hit.typeIs
    wp_walk using wpAny_typeOf tT, collect_rt (A := A.in1.in1) hh hit ht hne hz
    intro h' tk acc k hi
    have ea : acc.toList.toArray = acc := by simp
    show wpAny _ _ (Builtin.Tuple.tupleExact acc.toList.toArray >>= fun v => ret v) _ _ _
    rw [ea]
    unfold Builtin.Tuple.tupleExact
    exact wpAny_bind (wpAny_newObj_type (wpAny_pure ⟨⟨_, Heap.get?_push_size _ rfl, rfl⟩, hQ h' tk acc k hi⟩) (by show acc.size ≤ sizeLine; rw [hi.1]; exact hz))
  exact callType_codes F.called_tuple (F.typeCall_tuple_1 _) F.entry_object_init new fun obj s₁ h₁ => ⟨h₁.1, F.args_object_init_2 obj _, object_init_meets F.called_tuple.init.lookup F.called_tuple.made (by decide) prog w A.in1 _ s₁ ⟨h₁.1, rfl, h₁.2⟩⟩
end
/-- tuple(reversed(x)), x a tuple: a new tuple -/
def tTupRevT (K : PySem.W.Frag) (te : TE) : TE := fun σ H Q => te σ H fun v H1 => ∃ (a : Addr) (xs : List V), v = .ref a ∧ (SqT K H1 a xs ∧ ∀ q, H1 q = none → Q (.ref q) (upd H1 q (.tup xs.reverse)))
section
variable {X : Cx}
theorem pe_or {e : Expr} {t u : TE} (h1 : PE X e t) (h2 : PE X e u) : PE X e fun σ H Q => t σ H Q ∨ u σ H Q :=
  ⟨fun pins s σ H Q I h => h.elim (fun q => h1.run pins s σ H Q I q) fun q => h2.run pins s σ H Q I q⟩
theorem pe_tupRevT {e : Expr} {te : TE} {p p2 pos pos2 : Pos} (hc : X.calm = true) (hg : Gl X "tuple") (hm : X.mg "tuple" = none) (hg2 : Gl X "reversed") (hm2 : X.mg "reversed" = none) (he : PE X e te)
    (hs : starEach [e] X.env = (false, eval e X.env) :: starEach [] X.env := by rfl)
    (hs2 : starEach [.Call (.Name "reversed" p2) [e] [] pos2] X.env = (false, eval (.Call (.Name "reversed" p2) [e] [] pos2) X.env) :: starEach [] X.env := by rfl) :
    PE X (.Call (.Name "tuple" p) [.Call (.Name "reversed" p2) [e] [] pos2] [] pos) (tTupRevT X.K te) := by
  refine ⟨fun pins s σ H Q I h => ?_⟩
  refine Call_ (ld_blt I hg hm boot_tuple (PyProof.Rows.callWith_type1 (args_cons ?_ hs2) hs2 rfl))
  refine Call_ (ld_blt I hg2 hm2 PyProof.Rows.boot_reversed (PyProof.Rows.callWith_type1 (args_cons (thn (he.run pins s σ H _ I h) fun u s1 q => args_nil ?_) hs) hs rfl))
  obtain ⟨v, H1, I1, r1, a, xs, ev, hx, k⟩ := q
  subst ev
  obtain rfl : u = Value.ref a := r1
  obtain ⟨its, rv, pt, hz⟩ := I1.tuple hx
  have hn : its.toArray.size ≤ sizeLine := by rw [List.size_toArray, ← rv.length]; exact hz
  have h63 := line63
  refine call_reversed_tup pt (fun A E Q k => len_tuple pt (by simp only [List.size_toArray] at hn ⊢; omega) k) (args_nil ?_)
  let s2 : Shared := { s1 with heap := s1.heap.push (rtObj a ((its.toArray.size : Int) - 1)), toks := s1.toks + 1 + 1 }
  have I2 : Inv X pins σ H1 s2 := I1.kept (t' := s1.toks + 1 + 1) fun b o e => Heap.get?_push_of_some _ e
  obtain ⟨f0, f1, f2, f3, f4, f5⟩ := I1.fpOk (H' := H1) (b := s1.heap.objs.size) (Nat.le_refl _) (I1.hok.fresh (Nat.le_refl _))
  obtain ⟨ot, hot, rt⟩ := id pt
  have hne : a ≠ s1.heap.objs.size := Nat.ne_of_lt (Heap.lt_size hot)
  refine call_tuple_rt (s := s2) (I1.ok.hd hc) ⟨_, Heap.get?_push_size _ rfl, rfl, rfl⟩ ⟨ot, Heap.get?_push_of_some _ hot, rt⟩ hne hn fun h' tk acc kp hi => ?_
  have I3 : Inv X pins σ H1 { s1 with heap := h', toks := tk } := I2.turned (t' := tk) (fun b o hb e => kp b o hb e) f0 f1 f3 f4 f5
  refine ⟨.ref h'.objs.size, upd H1 h'.objs.size (.tup xs.reverse), I3.laid (t' := tk) (fun c o e => Heap.get?_push_of_some _ e) (Nat.le_refl _) ⟨by rw [List.length_reverse]; exact hz, acc.toList, vals_rev rv hi, ?_⟩, rfl, k _ (I3.hok.fresh (Nat.le_refl _))⟩
  have := IsTup.new h' acc
  simpa using this
end
end RTT
set_option Elab.async false
set_option linter.all false
set_option maxRecDepth 100000
set_option maxHeartbeats 8000000
/-! An expression does what it means: the induction. -/
namespace MP
open PySem PySem.Spec PyProof.Rows L2 RT

section
variable {C : Ck} {G : Nat → Option W} {F : Fun'} {n : Nat}
theorem XF.hu {X : Cx} (xf : XF X C G F n) : X.A.units + 64 < cLine := xf.hr.units
theorem XF.hu0 {X : Cx} (xf : XF X C G F n) : X.A.units < cLine := xf.hr.units0
theorem bltB_gl {X : Cx} {sc : Scope} {x : Str} (xf : XF X C G F n) (hs : X.env.scope = sc) (h : bltB C sc x = true) : Gl X x ∧ X.mg x = none ∧ x ≠ "__name__" ∧ (x == ("__debug__" : Str)) = false := by
  have a := and_of h
  have b := and_of a.1
  exact ⟨glB_gl hs b.1, xf.blt x (dec_of a.2), plainN_n b.2, plainN_d b.2⟩
theorem boot_bi : ∀ b : BI, bootBuiltins (biN b) = some (biF b) := by intro b; cases b <;> decide +kernel
theorem boot_isi : bootBuiltins ("isinstance" : Str) = some (.builtin "isinstance") := by decide +kernel
theorem boot_ty : ∀ T : Ty5, bootBuiltins (tyS T) = some (.type (tyN T)) := by intro T; cases T <;> decide +kernel
theorem slot_mt : ∀ m : MT, Slot "list" (mtN m) (mtId m)
  | .append => PySem.F.slot_list_append
  | .pop => PySem.F.slot_list_pop
  | .popAt => PySem.F.slot_list_pop
  | .count => PySem.F.slot_list_count
  | .index => PySem.F.slot_list_index
theorem type_mt : ∀ m : MT, typeOf (.builtin (mtId m)) = pure (.type "method_descriptor")
  | .append => PySem.F.type_list_append
  | .pop => PySem.F.type_list_pop
  | .popAt => PySem.F.type_list_pop
  | .count => PySem.F.type_list_count
  | .index => PySem.F.type_list_index
/-- a call of a def -/
theorem pe_callF {X : Cx} {sc : Scope} {f : Nat} {x : Str} {p pos : Pos} {es : E} {xs : List Expr} {top : Bool} (xf : XF X C G F n) (hs : X.env.scope = sc) (h1 : C.fn f = some x) (h2 : glB sc x = true) (h3 : plainN x = true) (h4 : okA C top es sc xs = true)
    (ha : PA X xs (TAof X.K U0 (evs G F es))) : PE X (.Call (.Name x p) xs [] pos) (TEof X.K U0 fun l S => (evs G F es l S).bind fun ws S1 => F f ws S1) := by
  obtain ⟨fa, fd, ps, hm, hk, hb, hf⟩ := xf.fns f x h1
  cases xs with
  | nil =>
    refine PE.imp (pe_call0 hf xf.hr (glB_gl hs h2) hm hk hb .nil pass0 (plainN_d h3)) fun σ H Q h => ?_
    obtain ⟨l, S, μ, hl, hS, hp⟩ := h
    cases es with
    | nil => exact ⟨S, μ, [], hS, .nil, hp⟩
    | _ => cases h4
  | cons y ys =>
    have hst : noStar y = true := by
      cases es with
      | cons e es => exact (and_of (and_of h4).1).2
      | _ => cases h4
    have hpl : ∀ env : Env, (backTo pos (starEach ys env)).any (·.1) = false := fun env => by
      cases es with
      | cons e es => exact (nostar_all (C := C) (top := top) (sc := sc) pos es ys (and_of h4).2).1
      | _ => cases h4
    refine PE.imp (pe_call hf xf.hr (glB_gl hs h2) hm hk hb .nil pass0 ha (plainN_d h3) (star_cons hst) (hpl X.env)) fun σ H Q h => ?_
    obtain ⟨l, S, μ, hl, hS, hp⟩ := h
    refine ⟨l, S, μ, hl, hS, hp.bind.imp fun ws H1 μ1 S1 e1 s1 q1 vs rv => ?_⟩
    show spF X.K F f (vs ++ []) H1 Q E0
    rw [List.append_nil]
    exact ⟨S1, μ1, ws, s1, rv, q1⟩
theorem cr_range1 {X : Cx} : CallR X (.type "range") (fun vs H Q => ∃ j, vs = [V.int j] ∧ ∀ p, H p = none → Q (.ref p) (upd H p (.rng 0 j))) := by
  intro pins s σ H vs us Q I r h
  obtain ⟨j, rfl, q⟩ := h
  obtain ⟨u1, rfl, ri⟩ := vals1 r
  obtain ⟨t, rfl⟩ := ri
  refine call_range_1 ⟨.ref s.heap.objs.size, upd H s.heap.objs.size (.rng 0 j), I.laid (t' := s.toks + 1 + 1) (fun b o e => Heap.get?_push_of_some _ e) (Nat.le_refl _) ?_, rfl, q _ (I.hok.fresh (Nat.le_refl _))⟩
  exact ⟨s.toks, t, s.toks + 1, Heap.get?_push_size _ rfl⟩
/-- a range's numbers -/
def rngV (lo : Int) (n : Nat) : List V := (List.range n).map fun i => .int (lo + (i : Nat))
theorem rng_rep {K : PySem.W.Frag} {H : Hp} {μ : Mu} : ∀ (lo : Int) (n : Nat), RepDs K H μ (rng lo 1 n) (rngV lo n)
  | lo, 0 => .nil
  | lo, n + 1 => by
    have e : rngV lo (n + 1) = .int lo :: rngV (lo + 1) n := by
      unfold rngV
      rw [List.range_succ_eq_map, List.map_cons, List.map_map]
      congr 1
      · simp
      · refine List.map_congr_left fun i _ => ?_
        simp only [Function.comp, Nat.succ_eq_add_one]
        congr 1
        omega
    rw [e]
    exact .cons (.int lo) (rng_rep (lo + 1) n)
theorem vals_rng {acc : Array Value} {n : Nat} {lo : Int} (h : ItemsOf (fun i v => ∃ t, v = .int (lo + i * 1) t) acc n) : Vals (rngV lo n) acc.toList := by
  have el : acc.toList.length = acc.size := by simp
  refine vals_of_at (by rw [el, h.1]; simp [rngV]) fun j x w h1 h2 => ?_
  obtain ⟨t, rfl⟩ := h.2 j w (by rw [← Array.getElem?_toList]; exact h2)
  unfold rngV at h1
  rw [List.getElem?_map] at h1
  obtain ⟨k, hk, rfl⟩ := Option.map_eq_some_iff.mp h1
  obtain ⟨hlt, e⟩ := List.getElem?_eq_some_iff.mp hk
  rw [List.getElem_range] at e
  subst e
  exact ⟨t, by rw [Int.mul_one]⟩
theorem cr_listR {X : Cx} (hc : X.calm = true) : CallR X (.type "list") (fun vs H Q => ∃ r j, vs = [V.ref r] ∧ H r = some (.rng 0 j) ∧ smallI j = true ∧ j ≤ 1000000 ∧ ∀ p, H p = none → Q (.ref p) (upd H p (.lst (rngV 0 j.toNat)))) := by
  intro pins s σ H vs us Q I r h
  obtain ⟨a, j, rfl, ha, hs, hj, q⟩ := h
  obtain ⟨u, rfl, rx⟩ := vals1 r
  obtain rfl : u = Value.ref a := rx
  obtain ⟨t, u, v, e⟩ := (show ObjOk X.prog X.w H s.heap a (.rng 0 j) from I.hok a _ ha)
  unfold smallI at hs
  rw [Bool.and_eq_true, decide_eq_true_eq, decide_eq_true_eq] at hs
  have hsz : Builtin.Range.rangeSize 0 j 1 = ((j.toNat : Nat) : Int) := by rw [rangeSize_one]; split <;> omega
  refine call_list_range (n := j.toNat) (I.ok.hd hc) e (small_one (by decide) (by decide) hs.1 hs.2) hsz (by omega) fun h' tk acc c' hk he hi => ?_
  have hv := vals_rng (lo := 0) hi
  refine ⟨.ref s.heap.objs.size, _, I.laid hk (Nat.le_refl _) (show ObjOk X.prog X.w _ h' _ (.lst (rngV 0 j.toNat)) from ⟨?_, acc.toList, c', hv, by simpa using he⟩), rfl, q _ (I.hok.fresh (Nat.le_refl _))⟩
  have : j.toNat ≤ 1000000 := by omega
  simp only [rngV, List.length_map, List.length_range]
  exact Nat.le_trans this (by decide)
theorem pe_biW {X : Cx} {sc : Scope} {b : BI} {m : Bool} {x : Str} {p pos : Pos} {es : E} {y : Expr} {ys : List Expr} {top : Bool} (xf : XF X C G F n) (hs : X.env.scope = sc) (h1 : x = biN b) (h2 : bltB C sc x = true) (h4 : okA C top es sc (y :: ys) = true)
    (ha : PA X (y :: ys) (TAof X.K U0 (evs G F es))) : PE X (.Call (.Name x p) (y :: ys) [] pos) (TEof X.K U0 fun l S => (evs G F es l S).bind fun ws S1 => biW S1 b m ws) := by
  obtain ⟨g1, g2, g3, g4⟩ := bltB_gl xf hs h2
  subst h1
  have hst : noStar y = true := by
    cases es with
    | cons e es => exact (and_of (and_of h4).1).2
    | _ => cases h4
  have hpl : (backTo pos (starEach ys X.env)).any (·.1) = false := by
    cases es with
    | cons e es => exact (nostar_all (C := C) (top := top) (sc := sc) pos es ys (and_of h4).2).1
    | _ => cases h4
  have hcr := cr_biW (X := X) (U := U0) xf.calm b m
  have hbt := boot_bi b
  have fin : ∀ σ H Q, TEof X.K U0 (fun l S => (evs G F es l S).bind fun ws S1 => biW S1 b m ws) σ H Q → tCB (rOfL X.K U0 fun S ws => biW S b m ws) (TAof X.K U0 (evs G F es)) σ H Q := fun σ H Q h => te_args2 h
  cases b with
  | int => exact PE.imp (pe_callTy hcr g1 g2 hbt ha g3 g4 (star_cons hst) hpl) fin
  | list => exact PE.imp (pe_callTy hcr g1 g2 hbt ha g3 g4 (star_cons hst) hpl) fin
  | tuple => exact PE.imp (pe_callTy hcr g1 g2 hbt ha g3 g4 (star_cons hst) hpl) fin
  | _ => exact PE.imp (pe_callB hcr g1 g2 hbt ha g3 g4 (star_cons hst) hpl) fin
theorem recv_ok {K : PySem.W.Frag} {H : Hp} {μ : Mu} {S : Sto} {x : W} {v : V} {R : W → Hp → Mu → Sto → Prop} (hS : StoRep K H S μ) (hx : RepW K H μ x v) (h : PostE K U0 H μ (recvW S x) R) : tyV K "list" v H ∧ R x H μ S := by
  unfold recvW at h
  split at h
  · rename_i ds e
    obtain ⟨a, vs, rfl, ha, _⟩ := (rdD_rep hS hx e).lst
    exact ⟨.inl ⟨rfl, _, SqL.of ha⟩, h H μ (Ext.refl H μ) hS⟩
  · exact h.elim
theorem pe_mthW {X : Cx} {sc : Scope} {m : MT} {o es : E} {y : Expr} {xs : List Expr} {apos cpos : Pos} {top : Bool} (xf : XF X C G F n) (hs : X.env.scope = sc) (h1 : noSuper y = true) (h2 : (apos.endLine == cpos.line) = true)
    (h3 : (if mt0 m then xs.isEmpty else decide (0 < xs.length) && decide (xs.length < 20)) = true) (h4 : okA C top es sc xs = true) (ho : PE X y (TEof X.K U0 (ev G F o))) (ha : PA X xs (TAof X.K U0 (evs G F es))) :
    PE X (.Call (.Attribute y (mtN m) apos) xs [] cpos) (TEof X.K U0 fun l S => (ev G F o l S).bind fun x S1 => (recvW S1 x).bind fun x1 S2 => (evs G F es l S2).bind fun ws S3 => mthW S3 m x1 ws) := by
  cases xs with
  | nil =>
    refine PE.imp (pe_bm0 PySem.F.plainAttrs_list (slot_mt m) (type_mt m) (mt_mthW (U := U0) m) ho (super_base h1) h2) fun σ H Q h => ?_
    obtain ⟨l, S, μ, hl, hS, hp⟩ := h
    refine ⟨l, S, μ, hl, hS, hp.bind.imp fun x H1 μ1 S1 e1 s1 q1 v rv => ?_⟩
    obtain ⟨t, q2⟩ := recv_ok s1 rv q1.bind
    cases es with
    | nil => exact ⟨t, S1, μ1, x, [], s1, rv, .nil, q2⟩
    | _ => cases h4
  | cons z zs =>
    have hm : mt0 m = false := by
      cases e : mt0 m with
      | false => rfl
      | true => rw [e] at h3; cases h3
    rw [hm] at h3
    have h3 := and_of (show (decide (0 < (z :: zs).length) && decide ((z :: zs).length < 20)) = true from h3)
    have hst : noStar z = true := by
      cases es with
      | cons e es => exact (and_of (and_of h4).1).2
      | _ => cases h4
    have hpl : (backTo cpos (starEach zs X.env)).any (·.1) = false := by
      cases es with
      | cons e es => exact (nostar_all (C := C) (top := top) (sc := sc) cpos es zs (and_of h4).2).1
      | _ => cases h4
    have hall := (nostar_all (C := C) (top := top) (sc := sc) (env := X.env) cpos es (z :: zs) h4).2
    have hlen : (z :: zs).length + 0 + 0 < 30 := by have := dec_of h3.2; omega
    refine PE.imp (pe_bm PySem.F.plainAttrs_list (slot_mt m) (type_mt m) (mt_mthW (U := U0) m) ho ha (super_base h1) ?_ h2 (star_cons hst) hpl) fun σ H Q h => ?_
    · rw [hall]
      show (true && true && decide ((z :: zs).length + 0 + 0 < 30)) = true
      rw [decide_eq_true hlen] <;> rfl
    · obtain ⟨l, S, μ, hl, hS, hp⟩ := h
      refine ⟨l, S, μ, hl, hS, hp.bind.imp fun x H1 μ1 S1 e1 s1 q1 v rv => ?_⟩
      obtain ⟨t, q2⟩ := recv_ok s1 rv q1.bind
      refine ⟨t, l, S1, μ1, hl.up e1, s1, q2.bind.imp fun ws H2 μ2 S2 e2 s2 q3 vs rvs => ?_⟩
      exact ⟨S2, μ2, x, ws, s2, RepW.up e2 rv, rvs, q3⟩
theorem pe_isiW {X : Cx} {sc : Scope} {T : Ty5} {a : E} {x t : Str} {p pt pos : Pos} {y : Expr} (xf : XF X C G F n) (hs : X.env.scope = sc) (h1 : x = "isinstance") (h2 : bltB C sc x = true) (h3 : t = tyS T) (h4 : bltB C sc t = true) (h5 : noStar y = true)
    (ha : PE X y (TEof X.K U0 (ev G F a))) : PE X (.Call (.Name x p) [y, .Name t pt] [] pos) (TEof X.K U0 fun l S => (ev G F a l S).bind fun x S1 => isiW S1 T x) := by
  obtain ⟨g1, g2, g3, g4⟩ := bltB_gl xf hs h2
  obtain ⟨k1, k2, k3, k4⟩ := bltB_gl xf hs h4
  subst h1 h3
  have pt := pe_bltn (X := X) (v := .ty (tyN T)) (pos := pt) k1 k2 (boot_ty T) rfl k3 k4
  have pa : PA X [y, .Name (tyS T) _] (tCons (TEof X.K U0 (ev G F a)) (tCons (tC (.ty (tyN T))) tNil)) := pa_cons ha (pa_cons pt pa_nil) (star_cons h5)
  refine PE.imp (pe_callB (cr_isiW (X := X) (U := U0) T) g1 g2 boot_isi pa g3 g4 (star_cons h5) rfl) fun σ H Q h => ?_
  obtain ⟨l, S, μ, hl, hS, hp⟩ := h
  exact ⟨l, S, μ, hl, hS, hp.bind.imp fun x H1 μ1 S1 e1 s1 q1 v rv => ⟨v, rfl, S1, μ1, x, s1, rv, q1⟩⟩
theorem pe_lrngW {X : Cx} {sc : Scope} {a : E} {m : Bool} {x z : Str} {p p2 pos pos2 : Pos} {y : Expr} (xf : XF X C G F n) (hs : X.env.scope = sc) (h1 : x = "list") (h2 : bltB C sc x = true) (h3 : z = "range") (h4 : bltB C sc z = true) (h5 : noStar y = true)
    (ha : PE X y (TEof X.K U0 (ev G F a))) : PE X (.Call (.Name x p) [.Call (.Name z p2) [y] [] pos2] [] pos) (TEof X.K U0 fun l S => (ev G F a l S).bind fun x S1 => lrngW m x S1) := by
  obtain ⟨g1, g2, g3, g4⟩ := bltB_gl xf hs h2
  obtain ⟨k1, k2, k3, k4⟩ := bltB_gl xf hs h4
  subst h1 h3
  have inner := pe_callTy (pos := pos2) (p := p2) (cr_range1 (X := X)) k1 k2 (by decide +kernel) (pa_cons ha pa_nil (star_cons h5)) k3 k4 (star_cons h5) rfl
  refine PE.imp (pe_callTy (cr_listR (X := X) xf.calm) g1 g2 (by decide +kernel) (pa_cons inner pa_nil (star_cons rfl)) g3 g4 (star_cons rfl) rfl) fun σ H Q h => ?_
  obtain ⟨l, S, μ, hl, hS, hp⟩ := h
  refine ⟨l, S, μ, hl, hS, hp.bind.imp fun x H1 μ1 S1 e1 s1 q1 v rv => ?_⟩
  unfold lrngW at q1
  split at q1
  · rename_i j
    obtain rfl : v = .int j := by cases (show RepD X.K H1 μ1 (.int j) v from rv); rfl
    split at q1
    · rename_i c
      refine ⟨j, rfl, fun r hr => ⟨r, j, rfl, upd_same, c.1, c.2, fun q hq => ?_⟩⟩
      have s2 := s1.fresh (o := .rng 0 j) hr
      refine vp_mk (m := m) s2 (PostE.up q1 (Ext.fresh hr)) ?_ q hq
      simpa using rng_rep (K := X.K) (H := upd H1 r (.rng 0 j)) (μ := μ1) 0 j.toNat
    · exact q1.elim
  · exact q1.elim
theorem pe_trevW {X : Cx} {sc : Scope} {a : E} {x z : Str} {p p2 pos pos2 : Pos} {y : Expr} (xf : XF X C G F n) (hs : X.env.scope = sc) (h1 : x = "tuple") (h2 : bltB C sc x = true) (h3 : z = "reversed") (h4 : bltB C sc z = true) (h5 : noStar y = true)
    (ha : PE X y (TEof X.K U0 (ev G F a))) : PE X (.Call (.Name x p) [.Call (.Name z p2) [y] [] pos2] [] pos) (TEof X.K U0 fun l S => (ev G F a l S).bind fun x S1 => revW x S1) := by
  obtain ⟨g1, g2, g3, g4⟩ := bltB_gl xf hs h2
  obtain ⟨k1, k2, k3, k4⟩ := bltB_gl xf hs h4
  subst h1 h3
  refine PE.imp (RTT.pe_or (pe_tupRev xf.calm g1 g2 k1 k2 ha (star_cons h5) (star_cons rfl)) (RTT.pe_tupRevT xf.calm g1 g2 k1 k2 ha (star_cons h5) (star_cons rfl))) fun σ H Q h => ?_
  obtain ⟨l, S, μ, hl, hS, hp⟩ := h
  replace hp : PostE X.K U0 H μ ((ev G F a l S).bind revW) (VP X.K Q) := hp
  have left : (∀ x S1, ev G F a l S = .ok x S1 → revW x S1 = revL x S1) → tTupRev X.K (TEof X.K U0 (ev G F a)) σ H Q := fun hx => by
    refine ⟨l, S, μ, hl, hS, ?_⟩
    have hp : PostE X.K U0 H μ ((ev G F a l S).bind revL) (VP X.K Q) := by
      cases er : ev G F a l S with
      | ok x S1 => rw [er] at hp; show PostE X.K U0 H μ (revL x S1) _; rw [← hx x S1 er]; exact hp
      | ex x S1 => rw [er] at hp; exact hp
      | no => rw [er] at hp; exact hp
    refine hp.bind.imp fun x H1 μ1 S1 e1 s1 q1 v rv => ?_
    unfold revL at q1
    cases e : rdL S1 x with
    | none => simp only [e] at q1; exact q1.elim
    | some ds =>
      simp only [e] at q1
      have ed : rdD S1 x = some (.list ds) := by
        cases x with
        | dat d => cases d <;> simp only [rdL] at e <;> try cases e
                   rfl
        | obj p =>
          simp only [rdL] at e
          show obD S1[p]? = _
          split at e
          · rename_i ds' e2
            cases e
            rw [e2] <;> rfl
          · cases e
        | scr _ => cases e
        | cst _ => cases e
      obtain ⟨b, vs, rfl, hb, hr⟩ := (rdD_rep s1 rv ed).lst
      exact ⟨b, vs, rfl, SqL.of hb, vp_tup s1 q1 hr.reverse⟩
  by_cases ht : ∃ ds S1, ev G F a l S = .ok (.dat (.tuple ds)) S1
  · obtain ⟨ds, S1, er⟩ := ht
    refine .inr ⟨l, S, μ, hl, hS, ?_⟩
    rw [er] at hp ⊢
    intro H1 μ1 e1 s1 v rv
    obtain ⟨b, vs, rfl, hb, hr⟩ := RepT.tup (.dat (show RepD X.K H1 μ1 (.tuple ds) v from rv))
    exact ⟨b, vs, rfl, hb, vp_tup s1 (PostE.up (show PostE X.K U0 H μ (.ok (.dat (.tuple ds.reverse)) S1) (VP X.K Q) from hp) e1) hr.reverse⟩
  · refine .inl (left fun x S1 er => ?_)
    unfold revW
    split
    · exact absurd ⟨_, _, er⟩ ht
    · rfl
theorem PostE.at {α β : Type} {K : PySem.W.Frag} {U : Wx} {H H1 : Hp} {μ μ1 : Mu} {r : Rs α} {f : α → Sto → Rs β} {R : β → Hp → Mu → Sto → Prop} {R' : α → Hp → Mu → Sto → Prop} (h : PostE K U H1 μ1 (r.bind f) R)
    (tr : ∀ H' μ' S', Ext H μ H' μ' → StoRep K H' S' μ' → ∃ μ2, Ext H1 μ1 H' μ2 ∧ StoRep K H' S' μ2)
    (k : ∀ a S', PostE K U H1 μ1 (f a S') R → ∀ H' μ', Ext H μ H' μ' → StoRep K H' S' μ' → R' a H' μ' S') : PostE K U H μ r R' := by
  cases r with
  | ok a S' => exact fun H' μ' e s => k a S' h H' μ' e s
  | ex x S' => exact fun H' μ' e s => let ⟨μ2, e2, s2⟩ := tr H' μ' S' e s; h H' μ2 e2 s2
  | no => exact h
theorem wipe_get (σ : L2.St) {i : Nat} : ∀ {vs : List Nat}, i ∉ vs → (wipe σ vs)[i]? = σ[i]?
  | [], _ => rfl
  | v :: vs, h => by
    simp only [List.mem_cons, not_or] at h
    show ((wipe σ vs).set v none)[i]? = _
    rw [List.getElem?_set_ne (Ne.symm h.1)]
    exact wipe_get σ h.2
theorem wipe_in (σ : L2.St) {i : Nat} : ∀ {vs : List Nat}, i ∈ vs → i < σ.length → (wipe σ vs)[i]? = some none
  | v :: vs, h, hl => by
    show ((wipe σ vs).set v none)[i]? = _
    by_cases e : v = i
    · subst e
      exact List.getElem?_set_self (by rw [wipe_length]; exact hl)
    · rw [List.getElem?_set_ne e]
      exact wipe_in σ ((List.mem_cons.mp h).resolve_left fun z => e z.symm) hl
theorem wipe_same {σ σ2 : L2.St} {vs ts : List Nat} (hl : σ2.length = σ.length) (hs : ∀ k, k ∈ ts → k ∈ vs) (h : ∀ i, i ∉ ts → σ2[i]? = (wipe σ vs)[i]?) : wipe σ2 vs = wipe σ vs := by
  refine List.ext_getElem? fun i => ?_
  by_cases hi : i ∈ vs
  · by_cases hl2 : i < σ.length
    · rw [wipe_in σ hi hl2, wipe_in σ2 hi (by rw [hl]; exact hl2)]
    · rw [List.getElem?_eq_none (by rw [wipe_length]; omega), List.getElem?_eq_none (by rw [wipe_length]; omega)]
  · rw [wipe_get σ2 hi, h i (fun z => hi (hs i z))]
/-- a comprehension's turns -/
theorem lc_turns {K : PySem.W.Frag} {J : It} {ds : List D} {A : Hp → Mu → Prop} (wk : Walks K J ds A) {m : Bool} {vs : List Nat} {elt tg tst : E} {l : Loc} {σ : L2.St} {Dr : Addr} {H1 : Hp} {μ1 : Mu} {S1 : Sto} {Q : VK}
    (hl : LocRep K H1 μ1 l σ) (hS : StoRep K H1 S1 μ1) (hA : A H1 μ1) (hD : H1 Dr = none) (hts : ∀ k, k ∈ tslots tg → k ∈ vs)
    (hp : PostE K U0 H1 μ1 ((forC (fun d S2 => (asg G F tg (.dat d) (wipeL l vs) S2).bind fun l2 S3 => (evt G F tst l2 S3).bind fun c S4 => if c = true then (ev G F elt l2 S4).bind fun y S5 => datW y S5 else .ok none S4) ds [] S1).bind fun ys S2 => mk m (.list ys) S2) (VP K Q)) :
    ∃ W' : Nat → Nat → Hp → Prop, (∃ k, W' 0 k (upd H1 Dr (.lst []))) ∧ ∀ i k H, W' i k H →
      (J.stop i H ∧ Q (.ref Dr) H) ∨ (J.go i H ∧ ∃ Nx : Hp → Prop, (∀ H', Nx H' → ∃ m', m' < k ∧ W' (i + 1) m' H') ∧ ∀ x H', J.yld i H x H' → TGof K U0 (tslots tg) (asg G F tg) x (wipe σ vs) H' fun σ2 H2 => wipe σ2 vs = wipe σ vs ∧ TBof K U0 (evt G F tst) σ2 H2 fun b H3 =>
        if b = true then TEof K U0 (ev G F elt) σ2 H3 fun y H4 => ∃ acc, H4 Dr = some (.lst acc) ∧ acc.length < sizeLine ∧ Nx (upd H4 Dr (.lst (acc ++ [y]))) else Nx H3) := by
  generalize hb : (fun d S2 => (asg G F tg (.dat d) (wipeL l vs) S2).bind fun l2 S3 => (evt G F tst l2 S3).bind fun c S4 => if c = true then (ev G F elt l2 S4).bind fun y S5 => datW y S5 else .ok none S4) = body at hp
  have hDh := hS.nohid hD
  -- what stands ahead of turn i, the items acc made so far
  let Iv (i : Nat) (H : Hp) : Prop := ∃ S μ acc vacc, Dr ∈ μ.hid ∧ (∀ a, a ∈ μ1.hid → a ∈ μ.hid) ∧ StoRep K H S μ ∧ LocRep K H μ (wipeL l vs) (wipe σ vs) ∧ A H μ ∧ H Dr = some (.lst vacc) ∧ RepDs K H μ acc vacc ∧ Ext H1 μ1 H (μ.show μ1.hid) ∧
    PostE K U0 H1 μ1 ((forC body (ds.drop i) acc S).bind fun ys S2 => mk m (.list ys) S2) (VP K Q)
  refine ⟨fun i k H => k = ds.length - i ∧ i ≤ ds.length ∧ Iv i H, ⟨_, rfl, Nat.zero_le _, ?_⟩, ?_⟩
  · have e := Ext.hide (μ := μ1) (o := .lst []) hD
    exact ⟨S1, μ1.hide Dr, [], [], List.mem_cons_self, fun a h => List.mem_cons_of_mem _ h, hS.hide hD, wipe_rep (hl.up e) vs, wk.up hA e, upd_same, .nil, Ext.made hD (Ext.refl _ _), hp⟩
  · rintro i k H ⟨rfl, hi, S, μ, acc, vacc, h1, h2, h3, h4, h5, h6, h7, h8, h9⟩
    -- a later state is one behind the beginning
    have tr : ∀ H' μ' S', Ext H μ H' μ' → StoRep K H' S' μ' → ∃ μ2, Ext H1 μ1 H' μ2 ∧ StoRep K H' S' μ2 := fun H' μ' S' e s =>
      ⟨μ'.show μ1.hid, h8.trans (e.both μ1.hid), s.less fun a z => e.hid a (h2 a z)⟩
    by_cases hlt : i < ds.length
    · refine .inr ⟨wk.go h5 hlt, Iv (i + 1), fun H' q => ⟨_, (by omega), rfl, hlt, q⟩, fun x H' y => ?_⟩
      obtain ⟨ey, sy, ry⟩ := wk.yld h5 y (List.getElem?_eq_getElem hlt)
      rw [List.drop_eq_getElem_cons hlt] at h9
      have h9 : PostE K U0 H1 μ1 (((body ds[i] S).bind fun r S1 => match r with | some y => if acc.length < sizeLine then forC body (ds.drop (i + 1)) (acc ++ [y]) S1 else .no | none => forC body (ds.drop (i + 1)) acc S1).bind fun ys S2 => mk m (.list ys) S2) (VP K Q) := h9
      have hbi : body ds[i] S = (asg G F tg (.dat ds[i]) (wipeL l vs) S).bind fun l2 S3 => (evt G F tst l2 S3).bind fun c S4 => if c = true then (ev G F elt l2 S4).bind fun y S5 => datW y S5 else .ok none S4 := by rw [← hb]
      rw [hbi] at h9
      have bb : ∀ {α β γ : Type} (r : Rs α) (f : α → Sto → Rs β) (g : β → Sto → Rs γ), (r.bind f).bind g = r.bind fun a S => (f a S).bind g := fun r f g => by cases r <;> rfl
      simp only [bb] at h9
      refine ⟨wipeL l vs, S, μ, .dat ds[i], h4.up ey, sy S h3, ry, ?_⟩
      refine PostE.at h9 (fun H2 μ2 S2 e s => tr H2 μ2 S2 (ey.trans e) s) fun l2 S3 p3 H3 μ3 e3 s3 σ2 hl2 hag => ?_
      have e03 := ey.trans e3
      refine ⟨wipe_same (by rw [hag.1, wipe_length]) hts hag.2, ?_⟩
      refine ⟨l2, S3, μ3, hl2, s3, ?_⟩
      refine PostE.at p3 (fun H4 μ4 S4 e s => tr H4 μ4 S4 (e03.trans e) s) fun c S4 p4 H4 μ4 e4 s4 => ?_
      have e04 := e03.trans e4
      cases c with
      | false =>
        refine iteF ?_
        exact ⟨S4, μ4, acc, vacc, e04.hid _ h1, fun a z => e04.hid a (h2 a z), s4, h4.up e04, wk.up h5 e04, e04.keep _ _ h6 (h3.hid Dr h1).1, h7.up e04, h8.trans (e04.both _), p4⟩
      | true =>
        refine iteT ?_
        refine ⟨l2, S4, μ4, hl2.up e4, s4, ?_⟩
        rw [if_pos rfl, bb] at p4
        refine PostE.at p4 (fun H5 μ5 S5 e s => tr H5 μ5 S5 (e04.trans e) s) fun yv S5 p5 H5 μ5 e5 s5 y5 r5 => ?_
        have e05 := e04.trans e5
        cases yv with
        | dat dv =>
          have p5 : PostE K U0 H1 μ1 ((if acc.length < sizeLine then forC body (ds.drop (i + 1)) (acc ++ [dv]) S5 else .no).bind fun ys S2 => mk m (.list ys) S2) (VP K Q) := p5
          have hz : acc.length < sizeLine := by
            by_cases z : acc.length < sizeLine
            · exact z
            · rw [if_neg z] at p5; exact p5.elim
          rw [if_pos hz] at p5
          have k6 : H5 Dr = some (.lst vacc) := e05.keep _ _ h6 (h3.hid Dr h1).1
          have k1 : Dr ∈ μ5.hid := e05.hid _ h1
          have k7 := h7.up e05
          refine ⟨vacc, k6, by rw [← h7.length]; exact hz, S5, μ5, acc ++ [dv], vacc ++ [y5], k1, fun a z => e05.hid a (h2 a z), s5.grow k6 k1, (h4.up e05).grow k6 k1, wk.grow (wk.up h5 e05) k6 k1, upd_same,
            (RepDs.grow k6 k1 _ _ k7).append (.cons (RepD.grow k6 k1 _ _ r5) .nil), Ext.made hD (h8.trans (e05.both _)), p5⟩
        | obj _ => exact p5.elim
        | scr _ => exact p5.elim
        | cst _ => exact p5.elim
    · have e : i = ds.length := by omega
      subst e
      refine .inl ⟨wk.stop h5 (Nat.le_refl _), ?_⟩
      rw [List.drop_length] at h9
      have h9 : PostE K U0 H1 μ1 (mk m (.list acc) S) (VP K Q) := h9
      have hno := (h3.hid Dr h1).1
      cases m with
      | false => exact h9 H (μ.show μ1.hid) h8 (h3.less h2) (.ref Dr) (.lst h6 hno hDh (RepDs.less h2 h7))
      | true =>
        refine h9 H ((μ.show μ1.hid).push Dr) (Ext.liveP hD h8) (h3.liveP h1 h2 hDh ⟨vacc, h6, RepDs.live h1 h2 h7⟩) (.ref Dr) ?_
        show RepA (μ.ob ++ [some Dr])[S.length]? (.ref Dr)
        rw [h3.len, List.getElem?_append_right (Nat.le_refl _)]
        simp [RepA]
end
end MP
set_option Elab.async false
set_option linter.all false
set_option maxRecDepth 100000
set_option maxHeartbeats 8000000
/-! An expression does what it means: all of them. -/
namespace MP
open PySem PySem.Spec PyProof.Rows L2 RT

section
variable {C : Ck} {G : Nat → Option W} {F : Fun'} {n : Nat}
/-- a part of syntax that is none of a kind -/
theorem Snd.mk0 {e : E} (ee : ∀ (top : Bool) (sc : Scope) (x : Expr) (X : Cx), XF X C G F n → X.env.scope = sc → (top = true → ∀ y, X.fn y = true) → okE C top e sc x = true → PE X x (TEof X.K U0 (ev G F e)))
    (tt : ∀ top sc x, okT C top e sc x = false) (aa : ∀ top sc x, okA C top e sc x = false) (oo : ∀ top sc x, okO C top e sc x = false) (ts : ∀ top sc x, okTs C top e sc x = false) (ii : ∀ top sc x, okI C top e sc x = false)
    (gg : ∀ top sc x, okG C top e sc x = false) (gs : ∀ top sc x, okGs C top e sc x = false) : Snd C G F n e where
  ee := ee
  tt := fun top sc x X _ _ _ h => by rw [tt] at h; cases h
  ww := fun top sc op y r pos X _ _ _ h => by rw [tt] at h; cases h
  aa := fun top sc xs X _ _ _ h => by rw [aa] at h; cases h
  oo := fun top sc x X _ _ _ h => by rw [oo] at h; cases h
  ts := fun top sc x X _ _ _ h => by rw [ts] at h; cases h
  ii := fun tg top sc x X _ _ _ h => by rw [ii] at h; cases h
  gg := fun top sc x X _ _ _ h => by rw [gg] at h; cases h
  gs := fun top sc x X _ _ _ h => by rw [gs] at h; cases h
/-- a test -/
theorem Snd.mkT {e : E} (tt : ∀ (top : Bool) (sc : Scope) (x : Expr) (X : Cx), XF X C G F n → X.env.scope = sc → (top = true → ∀ y, X.fn y = true) → okT C top e sc x = true → PT X x (TTof X.K U0 (ev G F e)))
    (ww : ∀ (top : Bool) (sc : Scope) (op : BoolOp) (y : Expr) (r : List Expr) (pos : Pos) (X : Cx), XF X C G F n → X.env.scope = sc → (top = true → ∀ y, X.fn y = true) → okT C top e sc (.BoolOp op (y :: r) pos) = true → PW X (.BoolOp op (y :: r) pos) (TTof X.K U0 (ev G F e)))
    (ee : ∀ top sc x, okE C top e sc x = false) (aa : ∀ top sc x, okA C top e sc x = false) (oo : ∀ top sc x, okO C top e sc x = false) (ts : ∀ top sc x, okTs C top e sc x = false) (ii : ∀ top sc x, okI C top e sc x = false)
    (gg : ∀ top sc x, okG C top e sc x = false) (gs : ∀ top sc x, okGs C top e sc x = false) : Snd C G F n e where
  ee := fun top sc x X _ _ _ h => by rw [ee] at h; cases h
  tt := tt
  ww := ww
  aa := fun top sc xs X _ _ _ h => by rw [aa] at h; cases h
  oo := fun top sc x X _ _ _ h => by rw [oo] at h; cases h
  ts := fun top sc x X _ _ _ h => by rw [ts] at h; cases h
  ii := fun tg top sc x X _ _ _ h => by rw [ii] at h; cases h
  gg := fun top sc x X _ _ _ h => by rw [gg] at h; cases h
  gs := fun top sc x X _ _ _ h => by rw [gs] at h; cases h
theorem Snd.mkI {e : E} (ii : ∀ (tg : Expr) (top : Bool) (sc : Scope) (x : Expr) (X : Cx), XF X C G F n → X.env.scope = sc → (top = true → ∀ y, X.fn y = true) → okI C top e sc x = true → PI X tg x (TIof X.K U0 (evi G F e)))
    (ee : ∀ top sc x, okE C top e sc x = false) (tt : ∀ top sc x, okT C top e sc x = false) (aa : ∀ top sc x, okA C top e sc x = false) (oo : ∀ top sc x, okO C top e sc x = false) (ts : ∀ top sc x, okTs C top e sc x = false)
    (gg : ∀ top sc x, okG C top e sc x = false) (gs : ∀ top sc x, okGs C top e sc x = false) : Snd C G F n e where
  ee := fun top sc x X _ _ _ h => by rw [ee] at h; cases h
  tt := fun top sc x X _ _ _ h => by rw [tt] at h; cases h
  ww := fun top sc op y r pos X _ _ _ h => by rw [tt] at h; cases h
  aa := fun top sc xs X _ _ _ h => by rw [aa] at h; cases h
  oo := fun top sc x X _ _ _ h => by rw [oo] at h; cases h
  ts := fun top sc x X _ _ _ h => by rw [ts] at h; cases h
  ii := ii
  gg := fun top sc x X _ _ _ h => by rw [gg] at h; cases h
  gs := fun top sc x X _ _ _ h => by rw [gs] at h; cases h
theorem Snd.mkG {e : E} (gg : ∀ (top : Bool) (sc : Scope) (x : Expr) (X : Cx), XF X C G F n → X.env.scope = sc → (top = true → ∀ y, X.fn y = true) → okG C top e sc x = true → PG X x (TGof X.K U0 (tslots e) (asg G F e)))
    (ee : ∀ top sc x, okE C top e sc x = false) (tt : ∀ top sc x, okT C top e sc x = false) (aa : ∀ top sc x, okA C top e sc x = false) (oo : ∀ top sc x, okO C top e sc x = false) (ts : ∀ top sc x, okTs C top e sc x = false)
    (ii : ∀ top sc x, okI C top e sc x = false) (gs : ∀ top sc x, okGs C top e sc x = false) : Snd C G F n e where
  ee := fun top sc x X _ _ _ h => by rw [ee] at h; cases h
  tt := fun top sc x X _ _ _ h => by rw [tt] at h; cases h
  ww := fun top sc op y r pos X _ _ _ h => by rw [tt] at h; cases h
  aa := fun top sc xs X _ _ _ h => by rw [aa] at h; cases h
  oo := fun top sc x X _ _ _ h => by rw [oo] at h; cases h
  ts := fun top sc x X _ _ _ h => by rw [ts] at h; cases h
  ii := fun tg top sc x X _ _ _ h => by rw [ii] at h; cases h
  gg := gg
  gs := fun top sc x X _ _ _ h => by rw [gs] at h; cases h
/-- a test's end is a bool that a value stands for -/
theorem tt_of_te {X : Cx} {r : Loc → Sto → Rs W} {f : W → Sto → Rs W} (hf : ∀ w S R H μ, PostE X.K U0 H μ (f w S) R → ∃ b, w = .dat (.bool b) ∧ PostE X.K U0 H μ (.ok (.dat (.bool b)) S) R) {σ : L2.St} {H : Hp} {Q : Bool → Hp → Prop}
    (h : TTof X.K U0 (fun l S => (r l S).bind f) σ H Q) : TEof X.K U0 r σ H fun x H1 => ∃ k, x = .bl k ∧ Q k H1 := by
  obtain ⟨l, S, μ, hl, hS, hp⟩ := h
  refine ⟨l, S, μ, hl, hS, hp.bind.imp fun w H1 μ1 S1 e1 s1 q1 v rv => ?_⟩
  obtain ⟨b, rfl, q⟩ := hf w S1 _ _ _ q1
  obtain ⟨c, ec, qc⟩ := q H1 μ1 (Ext.refl _ _) s1
  cases ec
  exact ⟨b, blrep rv, qc⟩
theorem blW_at {K : PySem.W.Frag} {w : W} {S : Sto} {R : W → Hp → Mu → Sto → Prop} {H : Hp} {μ : Mu} (h : PostE K U0 H μ (blW w S) R) : ∃ b, w = .dat (.bool b) ∧ PostE K U0 H μ (.ok (.dat (.bool b)) S) R := by
  unfold blW at h
  split at h
  · exact ⟨_, rfl, h⟩
  · exact h.elim
/-- a name -/
theorem pe_varE {X : Cx} {k : Nat} {x : Str} {pos : Pos} {sc : Scope} (xf : XF X C G F n) (hs : X.env.scope = sc) (h1 : C.N[k]? = some x) (h2 : visB sc x = true) (h3 : plainN x = true) : PE X (.Name x pos) (TEof X.K U0 (ev G F (.var k))) :=
  PE.imp (pe_var (i := k) (by rw [xf.hN]; exact h1) (by rw [hs]; exact visB_vis h2) (plainN_d h3) (plainN_c h3)) fun σ H Q h => te_var h
theorem pe_glbE {X : Cx} {g : Nat} {x : Str} {pos : Pos} {sc : Scope} (xf : XF X C G F n) (hs : X.env.scope = sc) (h1 : C.gl g = some x) (h2 : glB sc x = true) (h3 : plainN x = true) : PE X (.Name x pos) (TEof X.K U0 (ev G F (.glb g))) := by
  cases e : G g with
  | none =>
    refine ⟨fun pins s σ H Q I h => ?_⟩
    obtain ⟨l, S, μ, hl, hS, hp⟩ := h
    have hp : PostE X.K U0 H μ (opt (G g) S) (VP X.K Q) := hp
    rw [e] at hp
    exact hp.elim
  | some w =>
    obtain ⟨v, u, hm, r, hr⟩ := xf.glb g x w h1 e
    refine PE.imp (pe_glob (glB_gl hs h2) hm r (plainN_d h3)) fun σ H Q h => ?_
    obtain ⟨l, S, μ, hl, hS, hp⟩ := h
    have hp : PostE X.K U0 H μ (opt (G g) S) (VP X.K Q) := hp
    rw [e] at hp
    exact hp H μ (Ext.refl _ _) hS v (hr H μ)
theorem pe_andE {X : Cx} {ra rb : Loc → Sto → Rs W} {x y : Expr} {r : List Expr} {pos : Pos} (ha : PE X x (TEof X.K U0 ra)) (hb : PE X (.BoolOp .And (y :: r) pos) (TEof X.K U0 rb)) :
    PE X (.BoolOp .And (x :: y :: r) pos) (TEof X.K U0 fun l S => (ra l S).bind fun x S1 => ifW x (rb l S1) (.ok (.dat (.bool false)) S1)) :=
  PE.imp (pe_and ha hb) fun σ H Q h => by
    obtain ⟨l, S, μ, hl, hS, hp⟩ := h
    refine ⟨l, S, μ, hl, hS, hp.bind.imp fun w H1 μ1 S1 e1 s1 q1 v rv => ?_⟩
    obtain ⟨b, rfl, q⟩ := ifW_at q1
    exact ⟨b, blrep rv, post_if q (fun q => ⟨l, S1, μ1, hl.up e1, s1, q⟩) fun q => vp_here s1 q (.bl false)⟩
theorem pe_orE {X : Cx} {ra rb : Loc → Sto → Rs W} {x y : Expr} {r : List Expr} {pos : Pos} (ha : PE X x (TEof X.K U0 ra)) (hb : PE X (.BoolOp .Or (y :: r) pos) (TEof X.K U0 rb)) :
    PE X (.BoolOp .Or (x :: y :: r) pos) (TEof X.K U0 fun l S => (ra l S).bind fun x S1 => ifW x (.ok (.dat (.bool true)) S1) (rb l S1)) :=
  PE.imp (pe_or ha hb) fun σ H Q h => by
    obtain ⟨l, S, μ, hl, hS, hp⟩ := h
    refine ⟨l, S, μ, hl, hS, hp.bind.imp fun w H1 μ1 S1 e1 s1 q1 v rv => ?_⟩
    obtain ⟨b, rfl, q⟩ := ifW_at q1
    exact ⟨b, blrep rv, post_if q (fun q => vp_here s1 q (.bl true)) fun q => ⟨l, S1, μ1, hl.up e1, s1, q⟩⟩
theorem pe_notE {X : Cx} {ra : Loc → Sto → Rs W} {x : Expr} {pos : Pos} (ha : PE X x (TEof X.K U0 ra)) : PE X (.UnaryOp .Not x pos) (TEof X.K U0 fun l S => (ra l S).bind fun x S1 => notW x S1) :=
  PE.imp (pe_not ha) fun σ H Q h => by
    obtain ⟨l, S, μ, hl, hS, hp⟩ := h
    refine ⟨l, S, μ, hl, hS, hp.bind.imp fun w H1 μ1 S1 e1 s1 q1 v rv => ?_⟩
    unfold notW at q1
    split at q1
    · exact ⟨_, blrep rv, vp_here s1 q1 (.bl _)⟩
    · exact q1.elim
theorem pe_ifxE {X : Cx} {rt ra rb : Loc → Sto → Rs W} {t x y : Expr} {pos : Pos} (ht : PT X t (TTof X.K U0 rt)) (ha : PE X x (TEof X.K U0 ra)) (hb : PE X y (TEof X.K U0 rb)) :
    PE X (.IfExp t x y pos) (TEof X.K U0 fun l S => (rt l S).bind fun x S1 => ifW x (ra l S1) (rb l S1)) :=
  PE.imp (pe_ifExp ht ha hb) fun σ H Q h => by
    obtain ⟨l, S, μ, hl, hS, hp⟩ := h
    refine ⟨l, S, μ, hl, hS, hp.bind.imp fun w H1 μ1 S1 e1 s1 q1 => ?_⟩
    obtain ⟨b, rfl, q⟩ := ifW_at q1
    exact ⟨b, rfl, post_if q (fun q => ⟨l, S1, μ1, hl.up e1, s1, q⟩) fun q => ⟨l, S1, μ1, hl.up e1, s1, q⟩⟩
theorem pe_tupE {X : Cx} {r : Loc → Sto → Rs (List W)} {xs : List Expr} {k : Nat} {pos : Pos} (ha : PA X xs (TAof X.K U0 r)) : PE X (.Tuple xs k pos) (TEof X.K U0 fun l S => (r l S).bind fun ws S1 => tupW ws S1) :=
  PE.imp (pe_tup ha) fun σ H Q h => by
    obtain ⟨l, S, μ, hl, hS, hp⟩ := h
    refine ⟨l, S, μ, hl, hS, hp.bind.imp fun ws H1 μ1 S1 e1 s1 q1 vs rv => ?_⟩
    unfold tupW at q1
    split at q1
    · rename_i ds e
      split at q1
      · have rd := dsOf_rep e rv
        exact ⟨by rw [← rd.length]; assumption, vp_tup s1 q1 rd⟩
      · exact q1.elim
    · exact q1.elim
theorem pe_lstE {X : Cx} {r : Loc → Sto → Rs (List W)} {m : Bool} {xs : List Expr} {pos : Pos} (ha : PA X xs (TAof X.K U0 r)) : PE X (.List xs pos) (TEof X.K U0 fun l S => (r l S).bind fun ws S1 => lstW m ws S1) :=
  PE.imp (pe_lst ha) fun σ H Q h => by
    obtain ⟨l, S, μ, hl, hS, hp⟩ := h
    refine ⟨l, S, μ, hl, hS, hp.bind.imp fun ws H1 μ1 S1 e1 s1 q1 vs rv => ?_⟩
    unfold lstW at q1
    split at q1
    · rename_i ds e
      split at q1
      · have rd := dsOf_rep e rv
        exact ⟨by rw [← rd.length]; assumption, vp_mk s1 q1 rd⟩
      · exact q1.elim
    · exact q1.elim
theorem te_chn {K : PySem.W.Frag} {ra rb rc : Loc → Sto → Rs W} {o1 o2 : CO} {σ : L2.St} {H : Hp} {Q : VK}
    (h : TEof K U0 (fun l S => (ra l S).bind fun x S1 => (rb l S1).bind fun y S2 => (cmpW S2 o1 x y).bind fun z S3 => ifW z ((rc l S3).bind fun u S4 => cmpW S4 o2 y u) (.ok (.dat (.bool false)) S3)) σ H Q) :
    tChain (rOf K U0 fun S x y => cmpW S o1 x y) (rOf K U0 fun S x y => cmpW S o2 x y) (TEof K U0 ra) (TEof K U0 rb) (TEof K U0 rc) σ H Q := by
  obtain ⟨l, S, μ, hl, hS, hp⟩ := h
  refine ⟨l, S, μ, hl, hS, hp.bind.imp fun x H1 μ1 S1 e1 s1 q1 v rv => ⟨l, S1, μ1, hl.up e1, s1, q1.bind.imp fun y H2 μ2 S2 e2 s2 q2 u ru => ⟨S2, μ2, x, y, s2, rv.up e2, ru, q2.bind.imp fun z H3 μ3 S3 e3 s3 q3 v3 r3 => ?_⟩⟩⟩
  obtain ⟨b, rfl, q⟩ := ifW_at q3
  have l3 := ((hl.up e1).up e2).up e3
  refine ⟨b, blrep r3, post_if q (fun q => ⟨l, S3, μ3, l3, s3, q.bind.imp fun w H4 μ4 S4 e4 s4 q4 v4 r4 => ⟨S4, μ4, y, w, s4, (ru.up e3).up e4, r4, q4⟩⟩) fun q => vp_here s3 q (.bl false)⟩
theorem pe_slcE {X : Cx} {ra : Loc → Sto → Rs W} {ro rh : Loc → Sto → Rs (Option Int)} {x : Expr} {lo hi : Option Expr} {p2 pos : Pos} (ha : PE X x (TEof X.K U0 ra)) (hl' : PO X lo (TOof X.K U0 ro)) (hh : PO X hi (TOof X.K U0 rh)) :
    PE X (.Subscript x (.Slice lo hi none p2) pos) (TEof X.K U0 fun l S => (ra l S).bind fun x S1 => (ro l S1).bind fun i S2 => (rh l S2).bind fun j S3 => slcW S3 x i j) :=
  PE.imp (pe_slice (sl_slcW (U := U0)) ha hl' hh) fun σ H Q h => by
    obtain ⟨l, S, μ, hl, hS, hp⟩ := h
    refine ⟨l, S, μ, hl, hS, hp.bind.imp fun x H1 μ1 S1 e1 s1 q1 v rv => ⟨l, S1, μ1, hl.up e1, s1, q1.bind.imp fun i H2 μ2 S2 e2 s2 q2 => ⟨l, S2, μ2, (hl.up e1).up e2, s2, q2.bind.imp fun j H3 μ3 S3 e3 s3 q3 => ⟨S3, μ3, x, s3, (rv.up e2).up e3, q3⟩⟩⟩⟩
theorem pa_consE {X : Cx} {ra : Loc → Sto → Rs W} {rs : Loc → Sto → Rs (List W)} {x : Expr} {xs : List Expr} (ha : PE X x (TEof X.K U0 ra)) (hs : PA X xs (TAof X.K U0 rs)) (hst : noStar x = true) :
    PA X (x :: xs) (TAof X.K U0 fun l S => (ra l S).bind fun w S1 => (rs l S1).bind fun ws S2 => .ok (w :: ws) S2) :=
  PA.imp (pa_cons ha hs (star_cons hst)) fun σ H Q h => by
    obtain ⟨l, S, μ, hl, hS, hp⟩ := h
    exact ⟨l, S, μ, hl, hS, hp.bind.imp fun w H1 μ1 S1 e1 s1 q1 v rv => ⟨l, S1, μ1, hl.up e1, s1, q1.bind.imp fun ws H2 μ2 S2 e2 s2 q2 vs rvs => q2 H2 μ2 (Ext.refl _ _) s2 (v :: vs) (.cons (rv.up e2) rvs)⟩⟩
end
end MP
set_option Elab.async false
set_option linter.all false
set_option maxRecDepth 100000
set_option maxHeartbeats 8000000
/-! Slices' parts, tests, targets, what is walked; the induction. -/
namespace MP
open PySem PySem.Spec PyProof.Rows L2 RT

section
variable {C : Ck} {G : Nat → Option W} {F : Fun'} {n : Nat}
theorem PO.imp {X : Cx} {e : Option Expr} {t t' : TO} (h : PO X e t) (i : ∀ σ H Q, t' σ H Q → t σ H Q) : PO X e t' := ⟨fun pins s σ H Q I q => h.run pins s σ H Q I (i σ H Q q)⟩
theorem PTs.imp {X : Cx} {e : List Expr} {t t' : TT} (h : PTs X e t) (i : ∀ σ H Q, t' σ H Q → t σ H Q) : PTs X e t' := ⟨fun pins s σ H Q I q => h.run pins s σ H Q I (i σ H Q q)⟩
theorem PW.imp {X : Cx} {e : Expr} {t t' : TT} (h : PW X e t) (i : ∀ σ H Q, t' σ H Q → t σ H Q) : PW X e t' := ⟨fun w pins s σ H Q I q => h.run w pins s σ H Q I (i σ H Q q)⟩
theorem PI.imp {X : Cx} {tg e : Expr} {t t' : TI} (h : PI X tg e t) (i : ∀ σ H Q, t' σ H Q → t σ H Q) : PI X tg e t' := ⟨fun pins s σ H Q I q => h.run pins s σ H Q I (i σ H Q q)⟩
theorem PG.imp {X : Cx} {e : Expr} {t t' : TG} (h : PG X e t) (i : ∀ v σ H Q, t' v σ H Q → t v σ H Q) : PG X e t' := ⟨fun pins s σ H v u Q I r q => h.run pins s σ H v u Q I r (i v σ H Q q)⟩
theorem PGs.imp {X : Cx} {e : List Expr} {t t' : TGs} (h : PGs X e t) (i : ∀ v σ H Q, t' v σ H Q → t v σ H Q) : PGs X e t' := ⟨fun pins s σ H v u Q I r q => h.run pins s σ H v u Q I r (i v σ H Q q)⟩

theorem po_noneE {X : Cx} : PO X none (TOof X.K U0 (evo G F .nil)) := PO.imp po_none fun σ H Q h => by
  obtain ⟨l, S, μ, hl, hS, hp⟩ := h
  exact hp H μ (Ext.refl _ _) hS
theorem po_someE {X : Cx} {ra : Loc → Sto → Rs W} {x : Expr} (ha : PE X x (TEof X.K U0 ra)) : PO X (some x) (TOof X.K U0 fun l S => (ra l S).bind fun x S1 => partW x S1) := PO.imp (po_some ha) fun σ H Q h => by
  obtain ⟨l, S, μ, hl, hS, hp⟩ := h
  refine ⟨l, S, μ, hl, hS, hp.bind.imp fun w H1 μ1 S1 e1 s1 q1 v rv => ?_⟩
  unfold partW at q1
  split at q1
  · rename_i i
    have rv : RepD X.K H1 μ1 (.int i) v := rv
    cases rv
    exact ⟨i, rfl, q1 H1 μ1 (Ext.refl _ _) s1⟩
  · exact q1.elim
theorem pa_nilE {X : Cx} : PA X [] (TAof X.K U0 (evs G F .nil)) := PA.imp pa_nil fun σ H Q q => by
  obtain ⟨l, S, μ, hl, hS, hp⟩ := q
  exact hp H μ (Ext.refl _ _) hS [] .nil
theorem pts_nilE {X : Cx} : PTs X [] (TBof X.K U0 (evt G F .nil)) := PTs.imp pts_nil fun σ H Q h => by
  obtain ⟨l, S, μ, hl, hS, hp⟩ := h
  exact hp H μ (Ext.refl _ _) hS
theorem pts_oneE {X : Cx} {r : Loc → Sto → Rs W} {x : Expr} (ht : PT X x (TTof X.K U0 r)) : PTs X [x] (TBof X.K U0 fun l S => (r l S).bind fun x S1 => boolW x S1) := PTs.imp (pts_one ht) fun σ H Q h => by
  obtain ⟨l, S, μ, hl, hS, hp⟩ := h
  refine ⟨l, S, μ, hl, hS, hp.bind.imp fun w H1 μ1 S1 e1 s1 q1 => ?_⟩
  unfold boolW at q1
  split at q1
  · exact ⟨_, rfl, q1 H1 μ1 (Ext.refl _ _) s1⟩
  · exact q1.elim
/-! tests -/
theorem pt_tvE {X : Cx} {r : Loc → Sto → Rs W} {x : Expr} (ha : PE X x (TEof X.K U0 r)) (h : plainT x = true) : PT X x (TTof X.K U0 fun l S => (r l S).bind fun x S1 => truW S1 x) := PT.imp (pt_truth ha (plain_true h)) fun σ H Q h => by
  obtain ⟨l, S, μ, hl, hS, hp⟩ := h
  exact ⟨l, S, μ, hl, hS, hp.bind.imp fun w H1 μ1 S1 e1 s1 q1 v rv => tru_truW s1 rv q1⟩
theorem tt_test {K : PySem.W.Frag} {r : Loc → Sto → Rs W} {σ : L2.St} {H : Hp} {Q : Bool → Hp → Prop} (h : TTof K U0 (fun l S => (r l S).bind fun x S1 => blW x S1) σ H Q) : TEof K U0 r σ H fun x H1 => ∃ k, x = .bl k ∧ Q k H1 := by
  obtain ⟨l, S, μ, hl, hS, hp⟩ := h
  refine ⟨l, S, μ, hl, hS, hp.bind.imp fun w H1 μ1 S1 e1 s1 q1 v rv => ?_⟩
  obtain ⟨b, rfl, q⟩ := blW_at q1
  obtain ⟨c, ec, qc⟩ := q H1 μ1 (Ext.refl _ _) s1
  cases ec
  exact ⟨b, blrep rv, qc⟩
theorem pw_oneE {X : Cx} {r : Loc → Sto → Rs W} {x : Expr} {op : BoolOp} {pos : Pos} (ha : PT X x (TTof X.K U0 r)) : PW X (.BoolOp op [x] pos) (TTof X.K U0 r) := by
  cases op with
  | And => exact pw_and1 ha
  | Or => exact pw_or1 ha
theorem pw_andE {X : Cx} {ra rb : Loc → Sto → Rs W} {x y : Expr} {r : List Expr} {pos : Pos} (ha : PT X x (TTof X.K U0 ra)) (hb : PW X (.BoolOp .And (y :: r) pos) (TTof X.K U0 rb)) :
    PW X (.BoolOp .And (x :: y :: r) pos) (TTof X.K U0 fun l S => (ra l S).bind fun x S1 => ifW x (rb l S1) (.ok (.dat (.bool false)) S1)) := PW.imp (pw_and ha hb) fun σ H Q h => by
  obtain ⟨l, S, μ, hl, hS, hp⟩ := h
  refine ⟨l, S, μ, hl, hS, hp.bind.imp fun w H1 μ1 S1 e1 s1 q1 => ?_⟩
  obtain ⟨b, rfl, q⟩ := ifW_at q1
  refine ⟨b, rfl, post_if q (fun q => ⟨l, S1, μ1, hl.up e1, s1, q⟩) fun q => ?_⟩
  obtain ⟨c, ec, qc⟩ := q H1 μ1 (Ext.refl _ _) s1
  cases ec; exact qc
theorem pw_orE {X : Cx} {ra rb : Loc → Sto → Rs W} {x y : Expr} {r : List Expr} {pos : Pos} (ha : PT X x (TTof X.K U0 ra)) (hb : PW X (.BoolOp .Or (y :: r) pos) (TTof X.K U0 rb)) :
    PW X (.BoolOp .Or (x :: y :: r) pos) (TTof X.K U0 fun l S => (ra l S).bind fun x S1 => ifW x (.ok (.dat (.bool true)) S1) (rb l S1)) := PW.imp (pw_or ha hb) fun σ H Q h => by
  obtain ⟨l, S, μ, hl, hS, hp⟩ := h
  refine ⟨l, S, μ, hl, hS, hp.bind.imp fun w H1 μ1 S1 e1 s1 q1 => ?_⟩
  obtain ⟨b, rfl, q⟩ := ifW_at q1
  refine ⟨b, rfl, post_if q (fun q => ?_) fun q => ⟨l, S1, μ1, hl.up e1, s1, q⟩⟩
  obtain ⟨c, ec, qc⟩ := q H1 μ1 (Ext.refl _ _) s1
  cases ec; exact qc
theorem pt_notE {X : Cx} {r : Loc → Sto → Rs W} {x : Expr} {pos : Pos} (ha : PT X x (TTof X.K U0 r)) : PT X (.UnaryOp .Not x pos) (TTof X.K U0 fun l S => (r l S).bind fun x S1 => notW x S1) := PT.imp (pt_not ha) fun σ H Q h => by
  obtain ⟨l, S, μ, hl, hS, hp⟩ := h
  refine ⟨l, S, μ, hl, hS, hp.bind.imp fun w H1 μ1 S1 e1 s1 q1 => ?_⟩
  unfold notW at q1
  split at q1
  · obtain ⟨c, ec, qc⟩ := q1 H1 μ1 (Ext.refl _ _) s1
    cases ec
    exact ⟨_, rfl, qc⟩
  · exact q1.elim
/-! what is walked -/
theorem pi_isqE {X : Cx} {tg x : Expr} {r : Loc → Sto → Rs W} (ha : PE X x (TEof X.K U0 r)) : PI X tg x (TIof X.K U0 fun l S => (r l S).bind fun w S1 => seqW w S1) := by
  refine ⟨fun pins s σ H R I h => ?_⟩
  obtain ⟨l, S, μ, hl, hS, hp⟩ := h
  have hp := hp.bind
  cases e : r l S with
  | no => rw [e] at hp; exact hp.elim
  | ex y S1 =>
    rw [e] at hp
    refine (pi_list ha).run pins s σ H R I ⟨l, S, μ, hl, hS, ?_⟩
    rw [e]
    exact hp
  | ok w S1 =>
    rw [e] at hp
    have asL : ∀ ds, (w = .dat (.list ds) ∨ w = .scr ds) → seqW w S1 = .ok ds S1 → iList X.K (TEof X.K U0 r) σ H R := fun ds hw es => by
      refine ⟨l, S, μ, hl, hS, ?_⟩
      rw [e]
      intro H1 μ1 e1 s1 v rv
      have q : PostE X.K U0 H1 μ1 (seqW w S1) (fun ds H' μ' _ => ∀ J A, Walks X.K J ds A → A H' μ' → R J H') := hp H1 μ1 e1 s1
      rw [es] at q
      have hv : ∃ a, v = .ref a := by
        rcases hw with rfl | rfl
        · have rv : RepD X.K H1 μ1 (.list ds) v := rv
          cases rv; exact ⟨_, rfl⟩
        · obtain ⟨a, _, z, _⟩ := rv; exact ⟨a, z⟩
      obtain ⟨a, rfl⟩ := hv
      obtain ⟨vs, q1, _⟩ := sqL_one rv hw
      exact ⟨a, rfl, ⟨vs, q1⟩, q H1 μ1 (Ext.refl _ _) s1 _ _ (walks_l (a := a) hw) rv⟩
    have asT : ∀ ds, (w = .dat (.tuple ds) ∨ w = .cst ds) → seqW w S1 = .ok ds S1 → iTup X.K (TEof X.K U0 r) σ H R := fun ds hw es => by
      refine ⟨l, S, μ, hl, hS, ?_⟩
      rw [e]
      intro H1 μ1 e1 s1 v rv
      have q : PostE X.K U0 H1 μ1 (seqW w S1) (fun ds H' μ' _ => ∀ J A, Walks X.K J ds A → A H' μ' → R J H') := hp H1 μ1 e1 s1
      rw [es] at q
      have hv : ∃ a, v = .ref a := by
        rcases hw with rfl | rfl
        · have rv : RepD X.K H1 μ1 (.tuple ds) v := rv
          cases rv; exact ⟨_, rfl⟩
        · obtain ⟨a, _, z, _⟩ := rv; exact ⟨a, z⟩
      obtain ⟨a, rfl⟩ := hv
      obtain ⟨vs, q1, _⟩ := sqT_one rv hw
      exact ⟨a, rfl, ⟨vs, q1⟩, q H1 μ1 (Ext.refl _ _) s1 _ _ (walks_t (a := a) hw) rv⟩
    have bad : (∀ H' μ', Ext H μ H' μ' → StoRep X.K H' S1 μ' → PostE X.K U0 H' μ' (seqW w S1) fun ds H' μ' _ => ∀ J A, Walks X.K J ds A → A H' μ' → R J H') → seqW w S1 = .no → iList X.K (TEof X.K U0 r) σ H R := fun _ es => by
      refine ⟨l, S, μ, hl, hS, ?_⟩
      rw [e]
      intro H1 μ1 e1 s1 v rv
      have q : PostE X.K U0 H1 μ1 (seqW w S1) (fun ds H' μ' _ => ∀ J A, Walks X.K J ds A → A H' μ' → R J H') := hp H1 μ1 e1 s1
      rw [es] at q
      exact q.elim
    cases w with
    | dat d =>
      cases d with
      | list ds => exact (pi_list ha).run pins s σ H R I (asL ds (.inl rfl) rfl)
      | tuple ds => exact (pi_tup ha).run pins s σ H R I (asT ds (.inl rfl) rfl)
      | _ => exact (pi_list ha).run pins s σ H R I (bad hp rfl)
    | scr ds => exact (pi_list ha).run pins s σ H R I (asL ds (.inr rfl) rfl)
    | cst ds => exact (pi_tup ha).run pins s σ H R I (asT ds (.inr rfl) rfl)
    | obj p => exact (pi_list ha).run pins s σ H R I (bad hp rfl)
theorem small_of {i : Int} (h : smallI i = true) : -(2 ^ 62) ≤ i ∧ i < 2 ^ 62 := by simpa [smallI] using h
theorem int_rep {K : PySem.W.Frag} {H : Hp} {μ : Mu} {i : Int} {v : V} (h : RepW K H μ (.dat (.int i)) v) : v = .int i := by
  have h : RepD K H μ (.int i) v := h
  cases h; rfl
theorem pi_irg1E {X : Cx} {tg y : Expr} {x : Str} {p pos : Pos} {sc : Scope} {r : Loc → Sto → Rs W} (xf : XF X C G F n) (hs : X.env.scope = sc) (h1 : x = "range") (h2 : bltB C sc x = true) (hst : noStar y = true) (ha : PE X y (TEof X.K U0 r)) :
    PI X tg (.Call (.Name x p) [y] [] pos) (TIof X.K U0 fun l S => (r l S).bind fun w S1 => rng1W w S1) := by
  obtain ⟨g1, g2, g3, g4⟩ := bltB_gl xf hs h2
  subst h1
  refine PI.imp (pi_range1 g1 g2 (pa_cons ha pa_nil (star_cons hst)) (star_cons hst)) fun σ H R h => ?_
  obtain ⟨l, S, μ, hl, hS, hp⟩ := h
  refine ⟨l, S, μ, hl, hS, hp.bind.imp fun w H1 μ1 S1 e1 s1 q1 v rv => ?_⟩
  unfold rng1W at q1
  split at q1
  · rename_i j
    split at q1
    · rename_i hj
      obtain rfl := int_rep rv
      obtain ⟨a, b⟩ := small_of hj
      exact ⟨j, rfl, a, b, q1 H1 μ1 (Ext.refl _ _) s1 _ _ walks_r trivial⟩
    · exact q1.elim
  · exact q1.elim
theorem pi_irg2E {X : Cx} {tg y z : Expr} {x : Str} {p pos : Pos} {sc : Scope} {r r2 : Loc → Sto → Rs W} (xf : XF X C G F n) (hs : X.env.scope = sc) (h1 : x = "range") (h2 : bltB C sc x = true) (hst : noStar y = true) (hst2 : noStar z = true) (ha : PE X y (TEof X.K U0 r)) (hb : PE X z (TEof X.K U0 r2)) :
    PI X tg (.Call (.Name x p) [y, z] [] pos) (TIof X.K U0 fun l S => (r l S).bind fun w S1 => (r2 l S1).bind fun u S2 => rng2W w u S2) := by
  obtain ⟨g1, g2, g3, g4⟩ := bltB_gl xf hs h2
  subst h1
  have e2 : starEach [y, z] X.env = [(false, eval y X.env), (false, eval z X.env)] := by rw [star_cons hst, star_cons hst2] <;> rfl
  refine PI.imp (pi_range2 g1 g2 (pa_cons ha (pa_cons hb pa_nil (star_cons hst2)) (star_cons hst)) e2 (star_cons hst2)) fun σ H R h => ?_
  obtain ⟨l, S, μ, hl, hS, hp⟩ := h
  refine ⟨l, S, μ, hl, hS, hp.bind.imp fun w H1 μ1 S1 e1 s1 q1 v rv => ⟨l, S1, μ1, hl.up e1, s1, q1.bind.imp fun u H2 μ2 S2 e2 s2 q2 v2 rv2 => ?_⟩⟩
  unfold rng2W at q2
  split at q2
  · rename_i i j
    split at q2
    · rename_i hj
      obtain rfl := int_rep rv
      obtain rfl := int_rep rv2
      obtain ⟨a, b⟩ := small_of hj.1
      obtain ⟨c, d⟩ := small_of hj.2
      exact ⟨i, j, rfl, ⟨a, b, c, d⟩, q2 H2 μ2 (Ext.refl _ _) s2 _ _ walks_r trivial⟩
    · exact q2.elim
  · exact q2.elim
theorem pi_irg3E {X : Cx} {tg y z t : Expr} {x : Str} {p pos : Pos} {sc : Scope} {r r2 r3 : Loc → Sto → Rs W} (xf : XF X C G F n) (hs : X.env.scope = sc) (h1 : x = "range") (h2 : bltB C sc x = true) (hst : noStar y = true) (hst2 : noStar z = true) (hst3 : noStar t = true)
    (ha : PE X y (TEof X.K U0 r)) (hb : PE X z (TEof X.K U0 r2)) (hc : PE X t (TEof X.K U0 r3)) :
    PI X tg (.Call (.Name x p) [y, z, t] [] pos) (TIof X.K U0 fun l S => (r l S).bind fun w S1 => (r2 l S1).bind fun u S2 => (r3 l S2).bind fun k S3 => rng3W w u k S3) := by
  obtain ⟨g1, g2, g3, g4⟩ := bltB_gl xf hs h2
  subst h1
  have hpl : (backTo pos (starEach [z, t] X.env)).any (·.1) = false := by rw [star_cons hst2, star_cons hst3] <;> rfl
  refine PI.imp (pi_range3 g1 g2 (pa_cons ha (pa_cons hb (pa_cons hc pa_nil (star_cons hst3)) (star_cons hst2)) (star_cons hst)) (star_cons hst) hpl) fun σ H R h => ?_
  obtain ⟨l, S, μ, hl, hS, hp⟩ := h
  refine ⟨l, S, μ, hl, hS, hp.bind.imp fun w H1 μ1 S1 e1 s1 q1 v rv => ⟨l, S1, μ1, hl.up e1, s1, q1.bind.imp fun u H2 μ2 S2 e2 s2 q2 v2 rv2 => ⟨l, S2, μ2, (hl.up e1).up e2, s2, q2.bind.imp fun k H3 μ3 S3 e3 s3 q3 v3 rv3 => ?_⟩⟩⟩
  unfold rng3W at q3
  split at q3
  · rename_i i j k
    split at q3
    · rename_i hj
      obtain ⟨hk, hi, hj⟩ := hj
      obtain rfl := int_rep rv
      obtain rfl := int_rep rv2
      obtain rfl := int_rep rv3
      obtain ⟨a, b⟩ := small_of hi
      obtain ⟨c, d⟩ := small_of hj
      subst hk
      exact ⟨i, j, -1, _, rfl, RgC.neg a b c d, q3 H3 μ3 (Ext.refl _ _) s3 _ _ walks_c trivial⟩
    · exact q3.elim
  · exact q3.elim
theorem pi_irevE {X : Cx} {tg y : Expr} {x : Str} {p pos : Pos} {sc : Scope} {r : Loc → Sto → Rs W} (xf : XF X C G F n) (hs : X.env.scope = sc) (h1 : x = "reversed") (h2 : bltB C sc x = true) (hst : noStar y = true) (ha : PE X y (TEof X.K U0 r)) :
    PI X tg (.Call (.Name x p) [y] [] pos) (TIof X.K U0 fun l S => (r l S).bind fun w S1 => irevW w S1) := by
  obtain ⟨g1, g2, g3, g4⟩ := bltB_gl xf hs h2
  subst h1
  refine PI.imp (pi_revA g1 g2 ha (star_cons hst)) fun σ H R h => ?_
  obtain ⟨l, S, μ, hl, hS, hp⟩ := h
  refine ⟨l, S, μ, hl, hS, hp.bind.imp fun w H1 μ1 S1 e1 s1 q1 v rv => ?_⟩
  unfold irevW at q1
  split at q1
  · rename_i ds
    have rv : RepD X.K H1 μ1 (.list ds) v := rv
    have q := q1 H1 μ1 (Ext.refl _ _) s1
    cases id rv with
    | @lst a vs _ ha hn hh hr =>
      refine ⟨a, vs, rfl, .inl ⟨SqL.of ha, ?_⟩⟩
      rw [← hr.length]
      exact q _ _ walks_vl rv
  · rename_i ds
    have rv : RepD X.K H1 μ1 (.tuple ds) v := rv
    have q := q1 H1 μ1 (Ext.refl _ _) s1
    cases id rv with
    | @tup a vs _ ha hr =>
      refine ⟨a, vs, rfl, .inr ⟨SqT.of ha, ?_⟩⟩
      rw [← hr.length]
      exact q _ _ walks_vt rv
  · exact q1.elim
/-! targets -/
theorem pg_nmE {X : Cx} {k : Nat} {x : Str} {pos : Pos} {sc : Scope} {top : Bool} (xf : XF X C G F n) (hs : X.env.scope = sc) (ht : top = true → ∀ y, X.fn y = true) (h1 : C.N[k]? = some x) (h2 : locB top sc x = true) :
    PG X (.Name x pos) (TGof X.K U0 [k] (asg G F (.tnm k))) := by
  have hl : (L2.Loc X.env.scope x) ∧ (X.fn x = true ∨ X.env.scope.names.lookup x = some .local) := by
    rw [hs]
    unfold locB at h2
    split at h2
    · exact ⟨.inl (by assumption), .inr (by assumption)⟩
    · exact ⟨.inr (by assumption), .inl (ht h2 x)⟩
    · cases h2
  refine PG.imp (pg_name (i := k) (by rw [xf.hN]; exact xf.nd) (by rw [xf.hN]; exact h1) hl.1 hl.2) fun v σ H Q h => ?_
  obtain ⟨l, S, μ, w, hl, hS, hw, hp⟩ := h
  refine hp H μ (Ext.refl _ _) hS _ (hl.set k hw) ⟨by simp, fun i hi => ?_⟩
  rw [List.getElem?_set_ne (fun z => hi (by simp [z]))]
theorem sub_assign {o i : Expr} {pos : Pos} {env : Env} (h : noSlice i = true) : ∀ v, assign (.Subscript o i pos) env v = (do
      let ov ← holding [v] (eval o env)
      let iv ← holding [v, ov] (eval i env)
      standAt pos
      holding [v, ov, iv] (setItem ov iv v)
      release [v, ov, iv] []) := by
  intro v
  cases i <;> first | rfl | cases h
def setOf (K : PySem.W.Frag) (U : Wx) : TSet := fun o i v H Q => ∃ S μ wo wi wv, StoRep K H S μ ∧ RepW K H μ wo o ∧ RepW K H μ wi i ∧ RepW K H μ wv v ∧ PostE K U H μ (setW S wo wi wv) fun _ H' _ _ => Q H'
theorem set_setW {X : Cx} : PSet X (setOf X.K U0) := by
  intro pins s σ H o i v ov iv u Q I ro ri rv h
  obtain ⟨S, μ, wo, wi, wv, hS, ho, hi, hv, hp⟩ := h
  unfold setW at hp
  split at hp
  · rename_i p k d
    obtain rfl := int_rep hi
    split at hp
    · rename_i ds e
      split at hp
      · rename_i j ej
        obtain ⟨a, vs, rfl, hm, ha, hr⟩ := obj_lst hS ho e
        rw [hr.length] at ej
        have ex := Ext.write (o := .lst (vs.set j v)) hS hm
        exact set_list pins s σ H _ _ v ov iv u Q I ro ri rv ⟨a, vs, k, j, rfl, rfl, ha, ej, hp _ μ ex (hS.write hm ⟨_, upd_same, (hr.up ex).set j (RepD.up ex hv)⟩)⟩
      · exact hp.elim
    · exact hp.elim
  · exact hp.elim
theorem pg_subE {X : Cx} {o i : Expr} {pos : Pos} {ro ri : Loc → Sto → Rs W} (h : noSlice i = true) (ho : PE X o (TEof X.K U0 ro)) (hi : PE X i (TEof X.K U0 ri)) :
    PG X (.Subscript o i pos) (TGof X.K U0 [] fun w l S => (ro l S).bind fun x S1 => (ri l S1).bind fun y S2 => (setW S2 x y w).bind fun _ S3 => .ok l S3) := by
  refine PG.imp (pg_sub ho hi set_setW (sub_assign h)) fun v σ H Q h => ?_
  obtain ⟨l, S, μ, w, hl, hS, hw, hp⟩ := h
  refine ⟨l, S, μ, hl, hS, hp.bind.imp fun x H1 μ1 S1 e1 s1 q1 v1 r1 => ⟨l, S1, μ1, hl.up e1, s1, q1.bind.imp fun y H2 μ2 S2 e2 s2 q2 v2 r2 => ?_⟩⟩
  refine ⟨S2, μ2, x, y, w, s2, r1.up e2, r2, (hw.up e1).up e2, q2.bind.imp fun _ H3 μ3 S3 e3 s3 q3 => ?_⟩
  exact q3 H3 μ3 (Ext.refl _ _) s3 σ (((hl.up e1).up e2).up e3) ⟨rfl, fun _ _ => rfl⟩
theorem asg_cons {e : Expr} {es : List Expr} {env : Env} (h : noStar e = true) : assignEach (e :: es) env = (false, assign e env) :: assignEach es env := by
  cases e <;> first | rfl | cases h
theorem pgs_consE {X : Cx} {t : Expr} {ts : List Expr} {a b : List Nat} {r : W → Loc → Sto → Rs Loc} {rs : List D → Loc → Sto → Rs Loc} (hst : noStar t = true) (h1 : PG X t (TGof X.K U0 a r)) (h2 : PGs X ts (TGsof X.K U0 b rs)) :
    PGs X (t :: ts) (TGsof X.K U0 (a ++ b) fun ds l S => match ds with | d :: ds => (r (.dat d) l S).bind fun l1 S1 => rs ds l1 S1 | [] => .no) := by
  refine PGs.imp (pgs_cons h1 h2 (by rw [asg_cons hst] <;> rfl)) fun vs σ H Q h => ?_
  obtain ⟨l, S, μ, ds, hl, hS, hd, hp⟩ := h
  cases hd with
  | nil => exact hp.elim
  | @cons d v ds vs hd hds =>
    have hp := PostE.bind hp
    refine ⟨v, vs, rfl, l, S, μ, .dat d, hl, hS, hd, hp.imp fun l1 H1 μ1 S1 e1 s1 q1 σ1 k1 a1 => ?_⟩
    refine ⟨l1, S1, μ1, ds, k1, s1, hds.up e1, q1.imp fun l2 H2 μ2 S2 e2 s2 q2 σ2 k2 a2 => ?_⟩
    refine q2 σ2 k2 ⟨a2.1.trans a1.1, fun i hi => ?_⟩
    rw [a2.2 i (fun z => hi (List.mem_append_right _ z)), a1.2 i (fun z => hi (List.mem_append_left _ z))]
theorem pgs_nilE {X : Cx} : PGs X [] (TGsof X.K U0 [] fun ds l S => match ds with | [] => .ok l S | _ => .no) := PGs.imp pgs_nil fun vs σ H Q h => by
  obtain ⟨l, S, μ, ds, hl, hS, hd, hp⟩ := h
  cases hd with
  | nil => exact ⟨rfl, hp H μ (Ext.refl _ _) hS σ hl ⟨rfl, fun _ _ => rfl⟩⟩
  | cons _ _ => exact hp.elim
theorem okGs_len {top : Bool} {sc : Scope} {env : Env} : ∀ (es : E) (xs : List Expr), okGs C top es sc xs = true → (assignEach xs env).length = elen es ∧ (assignEach xs env).findIdx? (·.1) = none := by
  intro es
  induction es with
  | nil =>
    intro xs h
    cases xs with
    | nil => exact ⟨rfl, rfl⟩
    | cons _ _ => cases h
  | cons e es _ ih =>
    intro xs h
    cases xs with
    | nil => cases h
    | cons x xs =>
      have h : (okG C top e sc x && noStar x && okGs C top es sc xs) = true := h
      obtain ⟨h1, h2⟩ := and_of h
      obtain ⟨a, b⟩ := ih xs h2
      rw [asg_cons (and_of h1).2]
      refine ⟨by rw [List.length_cons, a] <;> rfl, ?_⟩
      rw [List.findIdx?_cons]
      simp [b]
  | _ => intro xs h; cases h
theorem pg_tupE {X : Cx} {ts : E} {xs : List Expr} {top : Bool} {sc : Scope} {k : Nat} {pos : Pos} (xf : XF X C G F n) (h : okGs C top ts sc xs = true) (hg : PGs X xs (TGsof X.K U0 (tslots ts) (asgs G F ts))) :
    PG X (.Tuple xs k pos) (TGof X.K U0 (tslots (.ttup ts)) (asg G F (.ttup ts))) := by
  obtain ⟨h1, h2⟩ := okGs_len (env := X.env) ts xs h
  refine PG.imp (pg_tup xf.calm hg h1 h2) fun v σ H Q hh => ?_
  obtain ⟨l, S, μ, w, hl, hS, hw, hp⟩ := hh
  replace hp : PostE X.K U0 H μ (match w with | .dat (.tuple ds) => if ds.length = elen ts then asgs G F ts ds l S else .no | _ => .no) _ := hp
  split at hp
  · rename_i ds
    split at hp
    · rename_i hn
      have hw : RepD X.K H μ (.tuple ds) v := hw
      cases hw with
      | @tup a vs _ ha hr => exact ⟨a, vs, rfl, SqT.of ha, by rw [← hr.length]; exact hn, l, S, μ, ds, hl, hS, hr, hp⟩
    · exact hp.elim
  · exact hp.elim
/-- a comprehension -/
theorem pe_compE {X : Cx} {m : Bool} {vs : List Nat} {elt tg it tst : E} {elt' tg' it' : Expr} {ifs : List Expr} {scope : Scope} {pos : Pos} (xf : XF X C G F n) (ok : blkC C.N X.env.scope scope (ownOf C vs) = true) (hts : (tslots tg).all (fun k => decide (k ∈ vs)) = true) (hset : noSet it' = true)
    (hi : PI X tg' it' (TIof X.K U0 (evi G F it)))
    (hg : ∀ X', XF X' C G F n → X'.env.scope = relS scope X.env.scope → X'.K = X.K → PG X' tg' (TGof X'.K U0 (tslots tg) (asg G F tg)))
    (ht : ∀ X', XF X' C G F n → X'.env.scope = relS scope X.env.scope → X'.K = X.K → PTs X' ifs (TBof X'.K U0 (evt G F tst)))
    (he : ∀ X', XF X' C G F n → X'.env.scope = relS scope X.env.scope → X'.K = X.K → PE X' elt' (TEof X'.K U0 (ev G F elt))) :
    PE X (.ListComp elt' [⟨tg', it', ifs, 0⟩] scope pos) (TEof X.K U0 (ev G F (.comp m vs elt tg it tst))) := by
  have own : (ownOf C vs).map (·.2) = vs := by
    unfold ownOf
    rw [List.map_map]
    exact List.map_id vs
  refine PE.imp (pe_lc (own := ownOf C vs) (g := TGof X.K U0 (tslots tg) (asg G F tg)) (tt := TBof X.K U0 (evt G F tst)) (te := TEof X.K U0 (ev G F elt)) xf.calm (by rw [xf.hN]; exact xf.nd) hi (blkOk_by (by rw [xf.hN]; exact ok))
    (fun s H c cl fp => hg _ (xf.blk s H scope _ fp) rfl rfl) (fun s H c cl fp => ht _ (xf.blk s H scope _ fp) rfl rfl) (fun s H c cl fp => he _ (xf.blk s H scope _ fp) rfl rfl) (noset_fold hset)) fun σ H Q h => ?_
  obtain ⟨l, S, μ, hl, hS, hp⟩ := h
  have hp := PostE.bind (r := evi G F it l S) hp
  rw [own]
  refine ⟨l, S, μ, hl, hS, hp.imp fun ds H1 μ1 S1 e1 s1 q1 J A wk hA Dr hD => ?_⟩
  exact lc_turns wk (hl.up e1) s1 hA hD (fun k hk => dec_of (List.all_eq_true.mp hts k hk)) q1
end

/-! ### the induction -/
section
variable (C : Ck) (G : Nat → Option W) (F : Fun') (n : Nat)
theorem snd : ∀ e : E, Snd C G F n e := by
  intro e
  induction e with
  | int i =>
    refine Snd.mk0 (fun top sc x X xf hs ht h => ?_) (fun _ _ _ => rfl) (fun _ _ _ => rfl) (fun _ _ _ => rfl) (fun _ _ _ => rfl) (fun _ _ _ => rfl) (fun _ _ _ => rfl) (fun _ _ _ => rfl)
    replace h : kInt i x = true := h
    unfold kInt at h
    split at h
    · obtain rfl := dec_of h
      exact PE.imp pe_int fun σ H Q q => te_pure (w := .dat (.int i)) (fun _ _ => RepD.int i) q
    · cases h
  | bl b =>
    refine Snd.mk0 (fun top sc x X xf hs ht h => ?_) (fun _ _ _ => rfl) (fun _ _ _ => rfl) (fun _ _ _ => rfl) (fun _ _ _ => rfl) (fun _ _ _ => rfl) (fun _ _ _ => rfl) (fun _ _ _ => rfl)
    replace h : kBl b x = true := h
    unfold kBl at h
    split at h
    · obtain rfl := dec_of h
      exact PE.imp pe_bl fun σ H Q q => te_pure (w := .dat (.bool b)) (fun _ _ => RepD.bl b) q
    · cases h
  | non =>
    refine Snd.mk0 (fun top sc x X xf hs ht h => ?_) (fun _ _ _ => rfl) (fun _ _ _ => rfl) (fun _ _ _ => rfl) (fun _ _ _ => rfl) (fun _ _ _ => rfl) (fun _ _ _ => rfl) (fun _ _ _ => rfl)
    replace h : kNon x = true := h
    unfold kNon at h
    split at h
    · exact PE.imp pe_non fun σ H Q q => te_pure (w := .dat .none) (fun _ _ => RepD.non) q
    · cases h
  | str s =>
    refine Snd.mk0 (fun top sc x X xf hs ht h => ?_) (fun _ _ _ => rfl) (fun _ _ _ => rfl) (fun _ _ _ => rfl) (fun _ _ _ => rfl) (fun _ _ _ => rfl) (fun _ _ _ => rfl) (fun _ _ _ => rfl)
    replace h : kStr s x = true := h
    unfold kStr at h
    split at h
    · obtain rfl := dec_of h
      exact PE.imp pe_str fun σ H Q q => te_pure (w := .dat (.str s)) (fun _ _ => RepD.str s) q
    · cases h
  | var k =>
    refine Snd.mk0 (fun top sc x X xf hs ht h => ?_) (fun _ _ _ => rfl) (fun _ _ _ => rfl) (fun _ _ _ => rfl) (fun _ _ _ => rfl) (fun _ _ _ => rfl) (fun _ _ _ => rfl) (fun _ _ _ => rfl)
    replace h : kVar C k sc x = true := h
    unfold kVar at h
    split at h
    · obtain ⟨h1, h2⟩ := and_of h
      exact pe_varE xf hs (dec_of (and_of h1).1) (and_of h1).2 h2
    · cases h
  | glb g =>
    refine Snd.mk0 (fun top sc x X xf hs ht h => ?_) (fun _ _ _ => rfl) (fun _ _ _ => rfl) (fun _ _ _ => rfl) (fun _ _ _ => rfl) (fun _ _ _ => rfl) (fun _ _ _ => rfl) (fun _ _ _ => rfl)
    replace h : kGlb C g sc x = true := h
    unfold kGlb at h
    split at h
    · obtain ⟨h1, h2⟩ := and_of h
      exact pe_glbE xf hs (dec_of (and_of h1).1) (and_of h1).2 h2
    · cases h
  | bin op a b iha ihb =>
    refine Snd.mk0 (fun top sc x X xf hs ht h => ?_) (fun _ _ _ => rfl) (fun _ _ _ => rfl) (fun _ _ _ => rfl) (fun _ _ _ => rfl) (fun _ _ _ => rfl) (fun _ _ _ => rfl) (fun _ _ _ => rfl)
    replace h : kBin op (okE C top a sc) (okE C top b sc) x = true := h
    unfold kBin at h
    split at h
    · obtain ⟨h1, h2⟩ := and_of h
      obtain rfl := dec_of (and_of h1).1
      exact PE.imp (pe_op (or_binW op) (iha.ee top sc _ X xf hs ht (and_of h1).2) (ihb.ee top sc _ X xf hs ht h2)) fun σ H Q q => te_bin q
    · cases h
  | neg a iha =>
    refine Snd.mk0 (fun top sc x X xf hs ht h => ?_) (fun _ _ _ => rfl) (fun _ _ _ => rfl) (fun _ _ _ => rfl) (fun _ _ _ => rfl) (fun _ _ _ => rfl) (fun _ _ _ => rfl) (fun _ _ _ => rfl)
    replace h : kNeg (okE C top a sc) x = true := h
    unfold kNeg at h
    split at h
    · exact PE.imp (pe_un or_neg (iha.ee top sc _ X xf hs ht h)) fun σ H Q q => te_un q
    · cases h
  | cmp op a b iha ihb =>
    refine Snd.mk0 (fun top sc x X xf hs ht h => ?_) (fun _ _ _ => rfl) (fun _ _ _ => rfl) (fun _ _ _ => rfl) (fun _ _ _ => rfl) (fun _ _ _ => rfl) (fun _ _ _ => rfl) (fun _ _ _ => rfl)
    replace h : kCmp op (okE C top a sc) (okE C top b sc) x = true := h
    unfold kCmp at h
    split at h
    · obtain ⟨h1, h2⟩ := and_of h
      obtain ⟨h3, h4⟩ := and_of h1
      obtain rfl := dec_of (and_of h3).1
      exact PE.imp (pe_cmpR (or_cmpW xf.hu op) (iha.ee top sc _ X xf hs ht (and_of h3).2) (ihb.ee top sc _ X xf hs ht h4) (not_of' h2)) fun σ H Q q => te_bin q
    · cases h
  | chn o1 o2 a b c iha ihb ihc =>
    refine Snd.mk0 (fun top sc x X xf hs ht h => ?_) (fun _ _ _ => rfl) (fun _ _ _ => rfl) (fun _ _ _ => rfl) (fun _ _ _ => rfl) (fun _ _ _ => rfl) (fun _ _ _ => rfl) (fun _ _ _ => rfl)
    replace h : kChn o1 o2 (okE C top a sc) (okE C top b sc) (okE C top c sc) x = true := h
    unfold kChn at h
    split at h
    · obtain ⟨h1, h2⟩ := and_of h
      obtain ⟨h3, h4⟩ := and_of h1
      obtain ⟨h5, h6⟩ := and_of h3
      obtain ⟨h7, h8⟩ := and_of h5
      obtain rfl := dec_of (and_of h7).1
      obtain rfl := dec_of (and_of h7).2
      exact PE.imp (pe_chain (or_cmpW xf.hu o1) (or_cmpW xf.hu o2) (iha.ee top sc _ X xf hs ht h8) (ihb.ee top sc _ X xf hs ht h6) (ihc.ee top sc _ X xf hs ht h4) (not_of' h2)) fun σ H Q q => te_chn q
    · cases h
  | and a b iha ihb =>
    refine Snd.mk0 (fun top sc x X xf hs ht h => ?_) (fun _ _ _ => rfl) (fun _ _ _ => rfl) (fun _ _ _ => rfl) (fun _ _ _ => rfl) (fun _ _ _ => rfl) (fun _ _ _ => rfl) (fun _ _ _ => rfl)
    replace h : kAnd (okE C top a sc) (okE C top b sc) x = true := h
    unfold kAnd at h
    split at h
    · obtain ⟨h1, h2⟩ := and_of h
      exact pe_andE (iha.ee top sc _ X xf hs ht h1) (ihb.ee top sc _ X xf hs ht h2)
    · cases h
  | or a b iha ihb =>
    refine Snd.mk0 (fun top sc x X xf hs ht h => ?_) (fun _ _ _ => rfl) (fun _ _ _ => rfl) (fun _ _ _ => rfl) (fun _ _ _ => rfl) (fun _ _ _ => rfl) (fun _ _ _ => rfl) (fun _ _ _ => rfl)
    replace h : kOr (okE C top a sc) (okE C top b sc) x = true := h
    unfold kOr at h
    split at h
    · obtain ⟨h1, h2⟩ := and_of h
      exact pe_orE (iha.ee top sc _ X xf hs ht h1) (ihb.ee top sc _ X xf hs ht h2)
    · cases h
  | not a iha =>
    refine Snd.mk0 (fun top sc x X xf hs ht h => ?_) (fun _ _ _ => rfl) (fun _ _ _ => rfl) (fun _ _ _ => rfl) (fun _ _ _ => rfl) (fun _ _ _ => rfl) (fun _ _ _ => rfl) (fun _ _ _ => rfl)
    replace h : kNot (okE C top a sc) x = true := h
    unfold kNot at h
    split at h
    · exact pe_notE (iha.ee top sc _ X xf hs ht h)
    · cases h
  | ifx t a b iht iha ihb =>
    refine Snd.mk0 (fun top sc x X xf hs ht h => ?_) (fun _ _ _ => rfl) (fun _ _ _ => rfl) (fun _ _ _ => rfl) (fun _ _ _ => rfl) (fun _ _ _ => rfl) (fun _ _ _ => rfl) (fun _ _ _ => rfl)
    replace h : kIfx (okT C top t sc) (okE C top a sc) (okE C top b sc) x = true := h
    unfold kIfx at h
    split at h
    · obtain ⟨h1, h2⟩ := and_of h
      exact pe_ifxE (iht.tt top sc _ X xf hs ht (and_of h1).1) (iha.ee top sc _ X xf hs ht (and_of h1).2) (ihb.ee top sc _ X xf hs ht h2)
    · cases h
  | one a iha =>
    refine ⟨fun top sc x X xf hs ht h => ?_, fun top sc x X xf hs ht h => ?_, fun top sc op y r pos X xf hs ht h => ?_, fun top sc x X xf hs ht h => (nomatch h), fun top sc x X xf hs ht h => (nomatch h), fun top sc x X xf hs ht h => (nomatch h), fun tg top sc x X xf hs ht h => (nomatch h), fun top sc x X xf hs ht h => (nomatch h), fun top sc x X xf hs ht h => (nomatch h)⟩
    · replace h : kOne (okE C top a sc) x = true := h
      unfold kOne at h
      split at h
      · exact pe_one (iha.ee top sc _ X xf hs ht h)
      · cases h
    · replace h : kOne (okT C top a sc) x = true := h
      unfold kOne at h
      split at h
      · exact PW.pt (pw_oneE (iha.tt top sc _ X xf hs ht h))
      · cases h
    · replace h : kOne (okT C top a sc) (.BoolOp op (y :: r) pos) = true := h
      cases r with
      | nil => exact pw_oneE (iha.tt top sc _ X xf hs ht h)
      | cons _ _ => cases h
  | tup es ih =>
    refine Snd.mk0 (fun top sc x X xf hs ht h => ?_) (fun _ _ _ => rfl) (fun _ _ _ => rfl) (fun _ _ _ => rfl) (fun _ _ _ => rfl) (fun _ _ _ => rfl) (fun _ _ _ => rfl) (fun _ _ _ => rfl)
    replace h : kTup (okA C top es sc) x = true := h
    unfold kTup at h
    split at h
    · exact pe_tupE (ih.aa top sc _ X xf hs ht h)
    · cases h
  | lst m es ih =>
    refine Snd.mk0 (fun top sc x X xf hs ht h => ?_) (fun _ _ _ => rfl) (fun _ _ _ => rfl) (fun _ _ _ => rfl) (fun _ _ _ => rfl) (fun _ _ _ => rfl) (fun _ _ _ => rfl) (fun _ _ _ => rfl)
    replace h : kLst (okA C top es sc) x = true := h
    unfold kLst at h
    split at h
    · exact pe_lstE (ih.aa top sc _ X xf hs ht h)
    · cases h
  | idx a b iha ihb =>
    refine Snd.mk0 (fun top sc x X xf hs ht h => ?_) (fun _ _ _ => rfl) (fun _ _ _ => rfl) (fun _ _ _ => rfl) (fun _ _ _ => rfl) (fun _ _ _ => rfl) (fun _ _ _ => rfl) (fun _ _ _ => rfl)
    replace h : kIdx (okE C top a sc) (okE C top b sc) x = true := h
    unfold kIdx at h
    split at h
    · obtain ⟨h1, h2⟩ := and_of h
      exact PE.imp (pe_ix ix_idxW (iha.ee top sc _ X xf hs ht (and_of h1).1) (ihb.ee top sc _ X xf hs ht (and_of h1).2) (ix_plain h2)) fun σ H Q q => te_bin q
    · cases h
  | slc a lo hi iha ihl ihh =>
    refine Snd.mk0 (fun top sc x X xf hs ht h => ?_) (fun _ _ _ => rfl) (fun _ _ _ => rfl) (fun _ _ _ => rfl) (fun _ _ _ => rfl) (fun _ _ _ => rfl) (fun _ _ _ => rfl) (fun _ _ _ => rfl)
    replace h : kSlc (okE C top a sc) (okO C top lo sc) (okO C top hi sc) x = true := h
    unfold kSlc at h
    split at h
    · obtain ⟨h1, h2⟩ := and_of h
      exact pe_slcE (iha.ee top sc _ X xf hs ht (and_of h1).1) (ihl.oo top sc _ X xf hs ht (and_of h1).2) (ihh.oo top sc _ X xf hs ht h2)
    · cases h
  | call f es ih =>
    refine Snd.mk0 (fun top sc x X xf hs ht h => ?_) (fun _ _ _ => rfl) (fun _ _ _ => rfl) (fun _ _ _ => rfl) (fun _ _ _ => rfl) (fun _ _ _ => rfl) (fun _ _ _ => rfl) (fun _ _ _ => rfl)
    replace h : kCall C f sc (okA C top es sc) x = true := h
    unfold kCall at h
    split at h
    · obtain ⟨h1, h2⟩ := and_of h
      obtain ⟨h3, h4⟩ := and_of h1
      exact pe_callF xf hs (dec_of (and_of h3).1) (and_of h3).2 h4 h2 (ih.aa top sc _ X xf hs ht h2)
    · cases h
  | bi b m es ih =>
    refine Snd.mk0 (fun top sc x X xf hs ht h => ?_) (fun _ _ _ => rfl) (fun _ _ _ => rfl) (fun _ _ _ => rfl) (fun _ _ _ => rfl) (fun _ _ _ => rfl) (fun _ _ _ => rfl) (fun _ _ _ => rfl)
    replace h : kBi C b sc (okA C top es sc) x = true := h
    unfold kBi at h
    split at h
    · obtain ⟨h1, h2⟩ := and_of h
      exact pe_biW xf hs (dec_of (and_of h1).1) (and_of h1).2 h2 (ih.aa top sc _ X xf hs ht h2)
    · cases h
  | isi T a ih =>
    refine Snd.mk0 (fun top sc x X xf hs ht h => ?_) (fun _ _ _ => rfl) (fun _ _ _ => rfl) (fun _ _ _ => rfl) (fun _ _ _ => rfl) (fun _ _ _ => rfl) (fun _ _ _ => rfl) (fun _ _ _ => rfl)
    replace h : kIsi C T sc (okE C top a sc) x = true := h
    unfold kIsi at h
    split at h
    · obtain ⟨h1, h2⟩ := and_of h
      obtain ⟨h3, h4⟩ := and_of h1
      obtain ⟨h5, h6⟩ := and_of h3
      obtain ⟨h7, h8⟩ := and_of h5
      exact pe_isiW xf hs (dec_of (and_of h7).1) (and_of h7).2 (dec_of h8) h6 h2 (ih.ee top sc _ X xf hs ht h4)
    · cases h
  | mth m o es iho ihs =>
    refine Snd.mk0 (fun top sc x X xf hs ht h => ?_) (fun _ _ _ => rfl) (fun _ _ _ => rfl) (fun _ _ _ => rfl) (fun _ _ _ => rfl) (fun _ _ _ => rfl) (fun _ _ _ => rfl) (fun _ _ _ => rfl)
    replace h : kMth m (okE C top o sc) (okA C top es sc) x = true := h
    unfold kMth at h
    split at h
    · obtain ⟨h1, h2⟩ := and_of h
      obtain ⟨h3, h4⟩ := and_of h1
      obtain ⟨h5, h6⟩ := and_of h3
      obtain ⟨h7, h8⟩ := and_of h5
      obtain ⟨h9, hA⟩ := and_of h7
      obtain rfl := dec_of h9
      exact pe_mthW xf hs h8 h6 h4 h2 (iho.ee top sc _ X xf hs ht hA) (ihs.aa top sc _ X xf hs ht h2)
    · cases h
  | trev a ih =>
    refine Snd.mk0 (fun top sc x X xf hs ht h => ?_) (fun _ _ _ => rfl) (fun _ _ _ => rfl) (fun _ _ _ => rfl) (fun _ _ _ => rfl) (fun _ _ _ => rfl) (fun _ _ _ => rfl) (fun _ _ _ => rfl)
    replace h : kTrev C sc (okE C top a sc) x = true := h
    unfold kTrev at h
    split at h
    · obtain ⟨h1, h2⟩ := and_of h
      obtain ⟨h3, h4⟩ := and_of h1
      obtain ⟨h5, h6⟩ := and_of h3
      obtain ⟨h7, h8⟩ := and_of h5
      exact pe_trevW xf hs (dec_of (and_of h7).1) (and_of h7).2 (dec_of h8) h6 h2 (ih.ee top sc _ X xf hs ht h4)
    · cases h
  | lrng m a ih =>
    refine Snd.mk0 (fun top sc x X xf hs ht h => ?_) (fun _ _ _ => rfl) (fun _ _ _ => rfl) (fun _ _ _ => rfl) (fun _ _ _ => rfl) (fun _ _ _ => rfl) (fun _ _ _ => rfl) (fun _ _ _ => rfl)
    replace h : kLrng C sc (okE C top a sc) x = true := h
    unfold kLrng at h
    split at h
    · obtain ⟨h1, h2⟩ := and_of h
      obtain ⟨h3, h4⟩ := and_of h1
      obtain ⟨h5, h6⟩ := and_of h3
      obtain ⟨h7, h8⟩ := and_of h5
      exact pe_lrngW xf hs (dec_of (and_of h7).1) (and_of h7).2 (dec_of h8) h6 h2 (ih.ee top sc _ X xf hs ht h4)
    · cases h
  | comp m vs elt tg it tst ihe ihg ihi iht =>
    refine Snd.mk0 (fun top sc x X xf hs ht h => ?_) (fun _ _ _ => rfl) (fun _ _ _ => rfl) (fun _ _ _ => rfl) (fun _ _ _ => rfl) (fun _ _ _ => rfl) (fun _ _ _ => rfl) (fun _ _ _ => rfl)
    replace h : kComp C vs tg sc (okI C top it sc) (okG C false tg) (okTs C false tst) (okE C false elt) x = true := h
    unfold kComp at h
    split at h
    · obtain ⟨h1, h2⟩ := and_of h
      obtain ⟨h3, h4⟩ := and_of h1
      obtain ⟨h5, h6⟩ := and_of h3
      obtain ⟨h7, h8⟩ := and_of h5
      obtain ⟨h9, hA⟩ := and_of h7
      subst hs
      have nf : false = true → ∀ {X' : Cx} (y : Str), X'.fn y = true := fun z => nomatch z
      exact pe_compE xf (and_of h9).1 (and_of h9).2 hA (ihi.ii _ top _ _ X xf rfl ht h8) (fun X' xf' hs' _ => ihg.gg false _ _ X' xf' hs' (fun z => nf z) h6) (fun X' xf' hs' _ => iht.ts false _ _ X' xf' hs' (fun z => nf z) h4) (fun X' xf' hs' _ => ihe.ee false _ _ X' xf' hs' (fun z => nf z) h2)
    · cases h
  | tv e ih =>
    refine Snd.mkT (fun top sc x X xf hs ht h => ?_) (fun top sc op y r pos X xf hs ht h => ?_) (fun _ _ _ => rfl) (fun _ _ _ => rfl) (fun _ _ _ => rfl) (fun _ _ _ => rfl) (fun _ _ _ => rfl) (fun _ _ _ => rfl) (fun _ _ _ => rfl)
    · replace h : kTv (okE C top e sc) x = true := h
      obtain ⟨h1, h2⟩ := and_of h
      exact pt_tvE (ih.ee top sc _ X xf hs ht h1) h2
    · have h2 := (and_of (show (okE C top e sc (.BoolOp op (y :: r) pos) && plainT (.BoolOp op (y :: r) pos)) = true from h)).2
      cases h2
  | tcmp op a b iha ihb =>
    refine Snd.mkT (fun top sc x X xf hs ht h => ?_) (fun top sc op y r pos X xf hs ht h => ?_) (fun _ _ _ => rfl) (fun _ _ _ => rfl) (fun _ _ _ => rfl) (fun _ _ _ => rfl) (fun _ _ _ => rfl) (fun _ _ _ => rfl) (fun _ _ _ => rfl)
    · replace h : kCmp op (okE C top a sc) (okE C top b sc) x = true := h
      unfold kCmp at h
      split at h
      · obtain ⟨h1, h2⟩ := and_of h
        obtain ⟨h3, h4⟩ := and_of h1
        obtain rfl := dec_of (and_of h3).1
        exact PT.imp (pt_cmpR (or_cmpW xf.hu op) (iha.ee top sc _ X xf hs ht (and_of h3).2) (ihb.ee top sc _ X xf hs ht h4) (not_of' h2)) fun σ H Q q => te_bin (tt_test q)
      · cases h
    · cases h
  | tchn o1 o2 a b c iha ihb ihc =>
    refine Snd.mkT (fun top sc x X xf hs ht h => ?_) (fun top sc op y r pos X xf hs ht h => ?_) (fun _ _ _ => rfl) (fun _ _ _ => rfl) (fun _ _ _ => rfl) (fun _ _ _ => rfl) (fun _ _ _ => rfl) (fun _ _ _ => rfl) (fun _ _ _ => rfl)
    · replace h : kChn o1 o2 (okE C top a sc) (okE C top b sc) (okE C top c sc) x = true := h
      unfold kChn at h
      split at h
      · obtain ⟨h1, h2⟩ := and_of h
        obtain ⟨h3, h4⟩ := and_of h1
        obtain ⟨h5, h6⟩ := and_of h3
        obtain ⟨h7, h8⟩ := and_of h5
        obtain rfl := dec_of (and_of h7).1
        obtain rfl := dec_of (and_of h7).2
        exact PT.imp (pt_chain (or_cmpW xf.hu o1) (or_cmpW xf.hu o2) (iha.ee top sc _ X xf hs ht h8) (ihb.ee top sc _ X xf hs ht h6) (ihc.ee top sc _ X xf hs ht h4) (not_of' h2)) fun σ H Q q => te_chn (tt_test q)
      · cases h
    · cases h
  | tand a b iha ihb =>
    refine Snd.mkT (fun top sc x X xf hs ht h => ?_) (fun top sc op y r pos X xf hs ht h => ?_) (fun _ _ _ => rfl) (fun _ _ _ => rfl) (fun _ _ _ => rfl) (fun _ _ _ => rfl) (fun _ _ _ => rfl) (fun _ _ _ => rfl) (fun _ _ _ => rfl)
    · replace h : kAnd (okT C top a sc) (okT C top b sc) x = true := h
      unfold kAnd at h
      split at h
      · obtain ⟨h1, h2⟩ := and_of h
        exact PW.pt (pw_andE (iha.tt top sc _ X xf hs ht h1) (ihb.ww top sc _ _ _ _ X xf hs ht h2))
      · cases h
    · replace h : kAnd (okT C top a sc) (okT C top b sc) (.BoolOp op (y :: r) pos) = true := h
      cases r with
      | nil => cases op <;> cases h
      | cons z r =>
        cases op with
        | And =>
          obtain ⟨h1, h2⟩ := and_of h
          exact pw_andE (iha.tt top sc _ X xf hs ht h1) (ihb.ww top sc _ _ _ _ X xf hs ht h2)
        | Or => cases h
  | tor a b iha ihb =>
    refine Snd.mkT (fun top sc x X xf hs ht h => ?_) (fun top sc op y r pos X xf hs ht h => ?_) (fun _ _ _ => rfl) (fun _ _ _ => rfl) (fun _ _ _ => rfl) (fun _ _ _ => rfl) (fun _ _ _ => rfl) (fun _ _ _ => rfl) (fun _ _ _ => rfl)
    · replace h : kOr (okT C top a sc) (okT C top b sc) x = true := h
      unfold kOr at h
      split at h
      · obtain ⟨h1, h2⟩ := and_of h
        exact PW.pt (pw_orE (iha.tt top sc _ X xf hs ht h1) (ihb.ww top sc _ _ _ _ X xf hs ht h2))
      · cases h
    · replace h : kOr (okT C top a sc) (okT C top b sc) (.BoolOp op (y :: r) pos) = true := h
      cases r with
      | nil => cases op <;> cases h
      | cons z r =>
        cases op with
        | Or =>
          obtain ⟨h1, h2⟩ := and_of h
          exact pw_orE (iha.tt top sc _ X xf hs ht h1) (ihb.ww top sc _ _ _ _ X xf hs ht h2)
        | And => cases h
  | tnot a iha =>
    refine Snd.mkT (fun top sc x X xf hs ht h => ?_) (fun top sc op y r pos X xf hs ht h => ?_) (fun _ _ _ => rfl) (fun _ _ _ => rfl) (fun _ _ _ => rfl) (fun _ _ _ => rfl) (fun _ _ _ => rfl) (fun _ _ _ => rfl) (fun _ _ _ => rfl)
    · replace h : kNot (okT C top a sc) x = true := h
      unfold kNot at h
      split at h
      · exact pt_notE (iha.tt top sc _ X xf hs ht h)
      · cases h
    · cases h
  | nil =>
    refine ⟨fun top sc x X xf hs ht h => (nomatch h), fun top sc x X xf hs ht h => (nomatch h), fun top sc op y r pos X xf hs ht h => (nomatch h), fun top sc x X xf hs ht h => ?_, fun top sc x X xf hs ht h => ?_, fun top sc x X xf hs ht h => ?_, fun tg top sc x X xf hs ht h => (nomatch h), fun top sc x X xf hs ht h => (nomatch h), fun top sc x X xf hs ht h => ?_⟩
    · cases x with
      | nil => exact pa_nilE
      | cons _ _ => cases h
    · cases x with
      | none => exact po_noneE
      | some _ => cases h
    · cases x with
      | nil => exact pts_nilE
      | cons _ _ => cases h
    · cases x with
      | nil => exact pgs_nilE
      | cons _ _ => cases h
  | cons e es ihe ihs =>
    refine ⟨fun top sc x X xf hs ht h => (nomatch h), fun top sc x X xf hs ht h => (nomatch h), fun top sc op y r pos X xf hs ht h => (nomatch h), fun top sc x X xf hs ht h => ?_, fun top sc x X xf hs ht h => ?_, fun top sc x X xf hs ht h => ?_, fun tg top sc x X xf hs ht h => (nomatch h), fun top sc x X xf hs ht h => (nomatch h), fun top sc x X xf hs ht h => ?_⟩
    · cases x with
      | nil => cases h
      | cons y ys =>
        obtain ⟨h1, h2⟩ := and_of (show (okE C top e sc y && noStar y && okA C top es sc ys) = true from h)
        exact pa_consE (ihe.ee top sc _ X xf hs ht (and_of h1).1) (ihs.aa top sc _ X xf hs ht h2) (and_of h1).2
    · cases x with
      | none => cases h
      | some y => exact po_someE (ihe.ee top sc y X xf hs ht h)
    · cases x with
      | nil => cases h
      | cons y ys =>
        cases ys with
        | nil => exact pts_oneE (ihe.tt top sc y X xf hs ht h)
        | cons _ _ => cases h
    · cases x with
      | nil => cases h
      | cons y ys =>
        obtain ⟨h1, h2⟩ := and_of (show (okG C top e sc y && noStar y && okGs C top es sc ys) = true from h)
        exact pgs_consE (and_of h1).2 (ihe.gg top sc _ X xf hs ht (and_of h1).1) (ihs.gs top sc _ X xf hs ht h2)
  | isq e ih =>
    refine Snd.mkI (fun tg top sc x X xf hs ht h => ?_) (fun _ _ _ => rfl) (fun _ _ _ => rfl) (fun _ _ _ => rfl) (fun _ _ _ => rfl) (fun _ _ _ => rfl) (fun _ _ _ => rfl) (fun _ _ _ => rfl)
    exact pi_isqE (ih.ee top sc x X xf hs ht h)
  | irg1 a ih =>
    refine Snd.mkI (fun tg top sc x X xf hs ht h => ?_) (fun _ _ _ => rfl) (fun _ _ _ => rfl) (fun _ _ _ => rfl) (fun _ _ _ => rfl) (fun _ _ _ => rfl) (fun _ _ _ => rfl) (fun _ _ _ => rfl)
    replace h : kRg1 C sc "range" (okE C top a sc) x = true := h
    unfold kRg1 at h
    split at h
    · obtain ⟨h1, h2⟩ := and_of h
      obtain ⟨h3, h4⟩ := and_of h1
      exact pi_irg1E xf hs (dec_of (and_of h3).1) (and_of h3).2 h2 (ih.ee top sc _ X xf hs ht h4)
    · cases h
  | irg2 a b iha ihb =>
    refine Snd.mkI (fun tg top sc x X xf hs ht h => ?_) (fun _ _ _ => rfl) (fun _ _ _ => rfl) (fun _ _ _ => rfl) (fun _ _ _ => rfl) (fun _ _ _ => rfl) (fun _ _ _ => rfl) (fun _ _ _ => rfl)
    replace h : kRg2 C sc (okE C top a sc) (okE C top b sc) x = true := h
    unfold kRg2 at h
    split at h
    · obtain ⟨h1, h2⟩ := and_of h
      obtain ⟨h3, h4⟩ := and_of h1
      obtain ⟨h5, h6⟩ := and_of h3
      obtain ⟨h7, h8⟩ := and_of h5
      exact pi_irg2E xf hs (dec_of (and_of h7).1) (and_of h7).2 h6 h2 (iha.ee top sc _ X xf hs ht h8) (ihb.ee top sc _ X xf hs ht h4)
    · cases h
  | irg3 a b c iha ihb ihc =>
    refine Snd.mkI (fun tg top sc x X xf hs ht h => ?_) (fun _ _ _ => rfl) (fun _ _ _ => rfl) (fun _ _ _ => rfl) (fun _ _ _ => rfl) (fun _ _ _ => rfl) (fun _ _ _ => rfl) (fun _ _ _ => rfl)
    replace h : kRg3 C sc (okE C top a sc) (okE C top b sc) (okE C top c sc) x = true := h
    unfold kRg3 at h
    split at h
    · obtain ⟨h1, h2⟩ := and_of h
      obtain ⟨h3, h4⟩ := and_of h1
      obtain ⟨h5, h6⟩ := and_of h3
      obtain ⟨h7, h8⟩ := and_of h5
      obtain ⟨h9, hA⟩ := and_of h7
      obtain ⟨hB, hC⟩ := and_of h9
      exact pi_irg3E xf hs (dec_of (and_of hB).1) (and_of hB).2 hA h6 h2 (iha.ee top sc _ X xf hs ht hC) (ihb.ee top sc _ X xf hs ht h8) (ihc.ee top sc _ X xf hs ht h4)
    · cases h
  | irev a ih =>
    refine Snd.mkI (fun tg top sc x X xf hs ht h => ?_) (fun _ _ _ => rfl) (fun _ _ _ => rfl) (fun _ _ _ => rfl) (fun _ _ _ => rfl) (fun _ _ _ => rfl) (fun _ _ _ => rfl) (fun _ _ _ => rfl)
    replace h : kRg1 C sc "reversed" (okE C top a sc) x = true := h
    unfold kRg1 at h
    split at h
    · obtain ⟨h1, h2⟩ := and_of h
      obtain ⟨h3, h4⟩ := and_of h1
      exact pi_irevE xf hs (dec_of (and_of h3).1) (and_of h3).2 h2 (ih.ee top sc _ X xf hs ht h4)
    · cases h
  | tnm k =>
    refine Snd.mkG (fun top sc x X xf hs ht h => ?_) (fun _ _ _ => rfl) (fun _ _ _ => rfl) (fun _ _ _ => rfl) (fun _ _ _ => rfl) (fun _ _ _ => rfl) (fun _ _ _ => rfl) (fun _ _ _ => rfl)
    replace h : kNm C top k sc x = true := h
    unfold kNm at h
    split at h
    · exact pg_nmE xf hs ht (dec_of (and_of h).1) (and_of h).2
    · cases h
  | tsub o i iho ihi =>
    refine Snd.mkG (fun top sc x X xf hs ht h => ?_) (fun _ _ _ => rfl) (fun _ _ _ => rfl) (fun _ _ _ => rfl) (fun _ _ _ => rfl) (fun _ _ _ => rfl) (fun _ _ _ => rfl) (fun _ _ _ => rfl)
    replace h : kIdx (okE C top o sc) (okE C top i sc) x = true := h
    unfold kIdx at h
    split at h
    · obtain ⟨h1, h2⟩ := and_of h
      exact pg_subE h2 (iho.ee top sc _ X xf hs ht (and_of h1).1) (ihi.ee top sc _ X xf hs ht (and_of h1).2)
    · cases h
  | ttup ts ih =>
    refine Snd.mkG (fun top sc x X xf hs ht h => ?_) (fun _ _ _ => rfl) (fun _ _ _ => rfl) (fun _ _ _ => rfl) (fun _ _ _ => rfl) (fun _ _ _ => rfl) (fun _ _ _ => rfl) (fun _ _ _ => rfl)
    replace h : kTup (okGs C top ts sc) x = true := h
    unfold kTup at h
    split at h
    · exact pg_tupE xf h (ih.gs top sc _ X xf hs ht h)
    · cases h
end
end MP
set_option Elab.async false
set_option linter.all false
set_option maxRecDepth 100000
set_option maxHeartbeats 8000000
/-! Statements: the look, and what they do. -/
namespace MP
open PySem PySem.Spec PyProof.Rows L2 RT

def noComp : Expr → Bool
  | .ListComp .. => false
  | .SetComp .. => false
  | .DictComp .. => false
  | _ => true
def isNameE : Expr → Bool
  | .Name .. => true
  | _ => false
def isTupE : Expr → Bool
  | .Tuple .. => true
  | .List .. => true
  | _ => false
/-- no stores in the other order: the value is no tuple, or the target none, or some target is no name -/
def swapFree : Expr → Expr → Bool
  | .Tuple ts _ _, .Tuple _ _ _ => ts.any fun t => !isNameE t
  | .List ts _, .Tuple _ _ _ => ts.any fun t => !isNameE t
  | _, _ => true
theorem filterMap_short {α β : Type} (f : α → Option β) : ∀ (l : List α), (∃ a ∈ l, f a = none) → (l.filterMap f).length < l.length
  | [], ⟨a, h, _⟩ => absurd h (by simp)
  | x :: l, ⟨a, h, e⟩ => by
    have le := List.length_filterMap_le f l
    rcases List.mem_cons.mp h with rfl | h
    · rw [List.filterMap_cons, e]; simp only [List.length_cons]; omega
    · have := filterMap_short f l ⟨a, h, e⟩
      rw [List.filterMap_cons]
      split
      · simp only [List.length_cons]; omega
      · simp only [List.length_cons]; omega
theorem swap_short {ts vs : List Expr} {a b : Nat} {p q : Pos} {env : Env} (h : (ts.any fun t => !isNameE t) = true) : swappedStores [.Tuple ts a p] (.Tuple vs b q) env = pure none := by
  have hlen : ¬ ((ts.filterMap fun
            | .Name id pos => if env.kindOf id == some .local && pos.line == (ts.head?.map (·.pos.line)).getD 0 then some id else none
            | _ => none).length = ts.length) := by
          obtain ⟨t, ht, hn⟩ := List.any_eq_true.mp h
          have := filterMap_short (fun x : Expr => match x with
            | .Name id pos => if env.kindOf id == some .local && pos.line == (ts.head?.map (·.pos.line)).getD 0 then some id else none
            | _ => none) ts ⟨t, ht, by cases t <;> first | rfl | cases hn⟩
          omega
  unfold swappedStores
  dsimp only
  split
  · rfl
  · split
    · rfl
    · split
      · rfl
      · rename_i h3
        exact absurd (show (_ != _ || _) = true from by rw [Bool.or_eq_true]; exact .inl (bne_iff_ne.mpr hlen)) h3
theorem swap_shortL {ts vs : List Expr} {b : Nat} {p q : Pos} {env : Env} (h : (ts.any fun t => !isNameE t) = true) : swappedStores [.List ts p] (.Tuple vs b q) env = pure none := swap_short (a := 0) (b := b) (p := p) (q := q) h
theorem swap_two {x y : Str} {px py pt pt2 : Pos} {a b : Expr} {k k2 : Nat} {env : Env} (h0 : env.scope.kind = .function) (h1 : env.scope.names.lookup x = some .local) (h2 : env.scope.names.lookup y = some .local) (h3 : px.line = py.line) (h4 : x ≠ y) (h5 : noStar a = true) (h6 : noStar b = true)
    (h7 : [a, b].all (foldedForSure 8) = false) (h8 : [a, b].all (constantsAlone 8) = false) : swappedStores [.Tuple [.Name x px, .Name y py] k pt] (.Tuple [a, b] k2 pt2) env = pure (some [x, y]) := by
  have hb : env.blockKind = .function := by unfold Env.blockKind; rw [h0]; rfl
  have k3 : (env.kindOf x == some .local) = true := by rw [show env.kindOf x = some .local from h1]; rfl
  have k4 : (env.kindOf y == some .local) = true := by rw [show env.kindOf y = some .local from h2]; rfl
  have k5 : (py.line == px.line) = true := by rw [h3]; exact beq_self_eq_true _
  have e4 : ([x, y] : List Str).eraseDups = [x, y] := by simp [List.eraseDups_cons, Ne.symm h4]
  unfold swappedStores
  simp only [List.filterMap_cons, List.filterMap_nil, List.head?_cons, Option.map_some, Option.getD_some, Expr.pos, k3, k4, k5, beq_self_eq_true, Bool.and_self, if_true, e4, h7, h8, hb]
  split
  · rename_i h
    exact absurd h (by simp)
  · split
    · rename_i h
      exfalso
      obtain ⟨t, ht, hf⟩ := List.any_eq_true.mp h
      have hn : noStar t = true := by
        rcases List.mem_cons.mp ht with rfl | ht
        · exact h5
        · rw [List.mem_singleton.mp ht]; exact h6
      clear h ht h7 h8
      cases t <;> first | (cases hf; done) | (exact absurd hn (by simp [noStar]))
    · rfl
theorem swap_three {x y z : Str} {px py pz pt pt2 : Pos} {a b c : Expr} {k k2 : Nat} {env : Env} (h0 : env.scope.kind = .function) (h1 : env.scope.names.lookup x = some .local) (h2 : env.scope.names.lookup y = some .local) (h2' : env.scope.names.lookup z = some .local) (h3 : px.line = py.line) (h3' : px.line = pz.line)
    (h4 : x ≠ y) (h4' : x ≠ z) (h4'' : y ≠ z) (h5 : noStar a = true) (h6 : noStar b = true) (h6' : noStar c = true)
    (h7 : [a, b, c].all (foldedForSure 8) = false) (h8 : [a, b, c].all (constantsAlone 8) = false) : swappedStores [.Tuple [.Name x px, .Name y py, .Name z pz] k pt] (.Tuple [a, b, c] k2 pt2) env = pure (some [x, y, z]) := by
  have hb : env.blockKind = .function := by unfold Env.blockKind; rw [h0]; rfl
  have k3 : (env.kindOf x == some .local) = true := by rw [show env.kindOf x = some .local from h1]; rfl
  have k4 : (env.kindOf y == some .local) = true := by rw [show env.kindOf y = some .local from h2]; rfl
  have k4' : (env.kindOf z == some .local) = true := by rw [show env.kindOf z = some .local from h2']; rfl
  have k5 : (py.line == px.line) = true := by rw [h3]; exact beq_self_eq_true _
  have k5' : (pz.line == px.line) = true := by rw [h3']; exact beq_self_eq_true _
  have e4 : ([x, y, z] : List Str).eraseDups = [x, y, z] := by simp [List.eraseDups_cons, Ne.symm h4, Ne.symm h4', Ne.symm h4'']
  unfold swappedStores
  simp only [List.filterMap_cons, List.filterMap_nil, List.head?_cons, Option.map_some, Option.getD_some, Expr.pos, k3, k4, k4', k5, k5', beq_self_eq_true, Bool.and_self, if_true, e4, h7, h8, hb]
  split
  · rename_i h
    exact absurd h (by simp)
  · split
    · rename_i h
      exfalso
      obtain ⟨t, ht, hf⟩ := List.any_eq_true.mp h
      have hn : noStar t = true := by
        rcases List.mem_cons.mp ht with rfl | ht
        · exact h5
        · rcases List.mem_cons.mp ht with rfl | ht
          · exact h6
          · rw [List.mem_singleton.mp ht]; exact h6'
      clear h ht h7 h8
      cases t <;> first | (cases hf; done) | (exact absurd hn (by simp [noStar]))
    · rfl
theorem swapFree_none {tg e : Expr} {env : Env} (h : swapFree tg e = true) : swappedStores [tg] e env = pure none := by
  cases tg with
  | Tuple ts a p => cases e <;> first | rfl | exact swap_short h
  | List ts p => cases e <;> first | rfl | exact swap_shortL h
  | _ => cases e <;> rfl
theorem sw_comp0 {e : Expr} {tg : Option Expr} {ln : Nat} {env : Env} (h : noComp e = true) : swapsWith e tg ln env = pure false := by
  cases e <;> first | rfl | (exact absurd h (by simp [noComp]))
theorem sw_other {e tg : Expr} {ln : Nat} {env : Env} (h : isNameE tg = false) : swapsWith e (some tg) ln env = pure false := by
  cases e <;> first | rfl | (cases tg <;> first | rfl | (exact absurd h (by simp [isNameE])))
/-- a comprehension that is stored by its own frame -/
def swB (sc : Scope) (y : Str) (py : Pos) (scope : Scope) (pos : Pos) : Bool :=
  decide (sc.names.lookup y = some .local) && (py.line == pos.line) && !(scope.names.any fun (n, k) => n == y && (k == .local || k == .cell))
theorem sw_cell {elt : Expr} {gs : List Comprehension} {scope : Scope} {pos py : Pos} {y : Str} {l : Nat} {env : Env} (hk : env.scope.kind = .function) (hy : env.scope.names.lookup y = some .cell) :
    swapsWith (.ListComp elt gs scope pos) (some (.Name y py)) l env = pure false := by
  have ky : env.kindOf y = some .cell := hy
  unfold swapsWith
  simp only [ky]
  have : (some NameKind.cell == some NameKind.local) = false := rfl
  rw [this, Bool.and_false, Bool.false_and, Bool.false_and]

/-! ### the look -/
def isCompE : Expr → Bool
  | .ListComp .. => true
  | _ => false
/-- target = value: not the stores in the other order -/
def asgB (sc : Scope) (tg x : Expr) : Bool := noStar tg && swapFree tg x && (match tg, x with
  | .Name y py, .ListComp _ _ scope pos => decide (sc.kind = .function) && (swB sc y py scope pos || decide (sc.names.lookup y = some .cell))
  | .Name _ _, x => noComp x
  | _, _ => true)
def kExpr (p : Expr → Bool) : Stmt → Bool | .Expr x _ => p x && noComp x | _ => false
def kSet (sc : Scope) (p q : Expr → Bool) : Stmt → Bool | .Assign [tg] x _ => p tg && q x && asgB sc tg x | _ => false
def kPar (C : Ck) (ks : List Nat) (sc : Scope) (q : List Expr → Bool) : Stmt → Bool
  | .Assign [.Tuple [.Name x px, .Name y py] _ _] (.Tuple [a, b] _ _) _ => (match ks with
    | [i, j] => decide (sc.kind = .function) && decide (C.N[i]? = some x) && decide (C.N[j]? = some y) && decide (i ≠ j) && decide (sc.names.lookup x = some .local) && decide (sc.names.lookup y = some .local) && decide (px.line = py.line) &&
        !([a, b].all (foldedForSure 8)) && !([a, b].all (constantsAlone 8)) && noStar a && noStar b && q [a, b]
    | _ => false)
  | .Assign [.Tuple [.Name x px, .Name y py, .Name z pz] _ _] (.Tuple [a, b, c] _ _) _ => (match ks with
    | [i, j, k] => decide (sc.kind = .function) && decide (C.N[i]? = some x) && decide (C.N[j]? = some y) && decide (C.N[k]? = some z) && decide (i ≠ j) && decide (i ≠ k) && decide (j ≠ k) && decide (sc.names.lookup x = some .local) &&
        decide (sc.names.lookup y = some .local) && decide (sc.names.lookup z = some .local) && decide (px.line = py.line) && decide (px.line = pz.line) &&
        !([a, b, c].all (foldedForSure 8)) && !([a, b, c].all (constantsAlone 8)) && noStar a && noStar b && noStar c && q [a, b, c]
    | _ => false)
  | _ => false
def kAug (C : Ck) (k : Nat) (op : BO) (sc : Scope) (p : Expr → Bool) : Stmt → Bool
  | .AugAssign (.Name x _) o e _ => decide (C.N[k]? = some x) && locB true sc x && (decide (op = .add) || decide (op = .sub)) && decide (o = opOf op) && p e
  | _ => false
def kIf (t : Expr → Bool) (p q : List Stmt → Bool) : Stmt → Bool | .If c a b _ => t c && p a && q b | _ => false
def kWhl (t : Expr → Bool) (p : List Stmt → Bool) : Stmt → Bool | .While c a [] _ => t c && p a | _ => false
def kFor (g i : Expr → Bool) (p : List Stmt → Bool) : Stmt → Bool | .For tg it a [] _ => g tg && i it && noSet it && p a | _ => false
def kRet (p : Expr → Bool) : Stmt → Bool | .Return (some x) _ => p x | _ => false
def kRetN : Stmt → Bool | .Return none _ => true | _ => false
def kBrk : Stmt → Bool | .Break _ => true | _ => false
def kCt : Stmt → Bool | .Continue _ => true | _ => false
def kPass : Stmt → Bool | .Pass _ => true | _ => false
def kNilS : List Stmt → Bool | [] => true | _ => false
def kConsS (p : Stmt → Bool) (q : List Stmt → Bool) : List Stmt → Bool | s :: r => p s && q r | [] => false
def isFrz : St' → Bool | .frz _ => true | _ => false
mutual
def okS (C : Ck) (sc : Scope) : St' → Stmt → Bool
  | .expr e, x => kExpr (okE C true e sc) x
  | .set t e, x => kSet sc (okG C true t sc) (okE C true e sc) x
  | .par ks es, x => kPar C ks sc (okA C true es sc) x
  | .aug k op e, x => kAug C k op sc (okE C true e sc) x
  | .cond t a b, x => kIf (okT C true t sc) (okSs C sc a) (okSs C sc b) x
  | .whl t b, x => kWhl (okT C true t sc) (okSs C sc b) x
  | .for tg it b, x => kFor (okG C true tg sc) (okI C true it sc) (okSs C sc b) x
  | .ret e, x => kRet (okE C true e sc) x
  | .retN, x => kRetN x
  | .brk, x => kBrk x
  | .ct, x => kCt x
  | .pass, x => kPass x
  | _, _ => false
def okSs (C : Ck) (sc : Scope) : St' → List Stmt → Bool
  | .nil, x => kNilS x
  | .cons s r, x => if isFrz s then okSs C sc r x else kConsS (okS C sc s) (okSs C sc r) x
  | _, _ => false
end

/-! ### what statements do -/
def EndsOf (K : PySem.W.Frag) (D : Ends) : Fl × Loc → Hp → Mu → Sto → Prop := fun r H' μ' _ => match r.1 with
  | .nx => ∀ σ', LocRep K H' μ' r.2 σ' → D.nx σ' H'
  | .brk => ∀ σ', LocRep K H' μ' r.2 σ' → D.bk σ' H'
  | .ct => ∀ σ', LocRep K H' μ' r.2 σ' → D.ct σ' H'
  | .ret w => ∀ v, RepW K H' μ' w v → D.rt v H'
def TSof (K : PySem.W.Frag) (U : Wx) (r : Loc → Sto → Rs (Fl × Loc)) : TS := fun D σ H => ∃ l S μ, LocRep K H μ l σ ∧ StoRep K H S μ ∧ PostE K U H μ (r l S) (EndsOf K D)
section
variable {C : Ck} {G : Nat → Option W} {F : Fun'} {n : Nat}
theorem ps_exprE {X : Cx} {x : Expr} {pos : Pos} {r : Loc → Sto → Rs W} (h : noComp x = true) (ha : PE X x (TEof X.K U0 r)) : PS X (.Expr x pos) (TSof X.K U0 fun l S => (r l S).bind fun _ S1 => .ok (.nx, l) S1) :=
  PS.imp (ps_expr ha (sw_comp0 h)) fun D σ H q => by
    obtain ⟨l, S, μ, hl, hS, hp⟩ := q
    exact ⟨l, S, μ, hl, hS, hp.bind.imp fun w H1 μ1 S1 e1 s1 q1 v rv => q1 H1 μ1 (Ext.refl _ _) s1 σ (hl.up e1)⟩
theorem ts_asg {K : PySem.W.Frag} {r : Loc → Sto → Rs W} {rg : W → Loc → Sto → Rs Loc} {ts : List Nat} {D : Ends} {σ : L2.St} {H : Hp} (q : TSof K U0 (fun l S => (r l S).bind fun w S1 => (rg w l S1).bind fun l1 S2 => .ok (.nx, l1) S2) D σ H) :
    tAsg (TEof K U0 r) (TGof K U0 ts rg) D σ H := by
  obtain ⟨l, S, μ, hl, hS, hp⟩ := q
  exact ⟨l, S, μ, hl, hS, hp.bind.imp fun w H1 μ1 S1 e1 s1 q1 v rv => ⟨l, S1, μ1, w, hl.up e1, s1, rv, q1.bind.imp fun l1 H2 μ2 S2 e2 s2 q2 σ2 k2 _ => q2 H2 μ2 (Ext.refl _ _) s2 σ2 k2⟩⟩
theorem ps_setE {X : Cx} {tg x : Expr} {pos : Pos} {t e : E} {sc : Scope} (xf : XF X C G F n) (hs : X.env.scope = sc) (ht : ∀ y, X.fn y = true) (h1 : okG C true t sc tg = true) (h2 : okE C true e sc x = true) (h3 : asgB sc tg x = true) :
    PS X (.Assign [tg] x pos) (TSof X.K U0 (exM G F (.set t e))) := by
  have pg := (snd C G F n t).gg true sc tg X xf hs (fun _ => ht) h1
  have pe := (snd C G F n e).ee true sc x X xf hs (fun _ => ht) h2
  obtain ⟨h4, h5⟩ := and_of h3
  obtain ⟨h6, h7⟩ := and_of h4
  have one : ((assignEach [tg] X.env).map (·.2)) = [assign tg X.env] := by rw [asg_cons h6] <;> rfl
  have gen : swapsWith x (some tg) pos.line X.env = pure false → PS X (.Assign [tg] x pos) (TSof X.K U0 (exM G F (.set t e))) := fun hsw =>
    PS.imp (ps_asg pe pg hsw (swapFree_none h7) one) fun D σ H q => ts_asg q
  cases tg with
  | Name y py =>
    cases x with
    | ListComp elt gens scope pos' =>
      have h5 : (decide (sc.kind = .function) && (swB sc y py scope pos' || decide (sc.names.lookup y = some .cell))) = true := h5
      obtain ⟨hk, h5⟩ := and_of h5
      have hk := dec_of hk
      rw [← hs] at hk
      cases hsb : swB sc y py scope pos' with
      | false =>
        rw [hsb, Bool.false_or] at h5
        exact gen (sw_cell hk (by rw [hs]; exact dec_of h5))
      | true =>
        unfold swB at hsb
        obtain ⟨b1, b2⟩ := and_of hsb
        obtain ⟨b3, b4⟩ := and_of b1
        have hloc : X.env.scope.names.lookup y = some .local := by rw [hs]; exact dec_of b3
        have hsw : swapsWith (.ListComp elt gens scope pos') (some (.Name y py)) pos.line X.env = pure true := sw_true hk hloc b4 (not_of' b2)
        -- the target is a plain name
        cases t with
        | tnm k =>
          have h1 : kNm C true k sc (.Name y py) = true := h1
          obtain ⟨n1, n2⟩ := and_of h1
          cases e with
          | comp m vs elt' tg' it' tst' =>
            replace h2 : kComp C vs tg' sc (okI C true it' sc) (okG C false tg') (okTs C false tst') (okE C false elt') (.ListComp elt gens scope pos') = true := h2
            unfold kComp at h2
            split at h2
            · rename_i eltE tgE itE ifs scope0 pos0 heq
              cases heq
              obtain ⟨h1', h2'⟩ := and_of h2
              obtain ⟨h3', h4'⟩ := and_of h1'
              obtain ⟨h5', h6'⟩ := and_of h3'
              obtain ⟨h7', h8'⟩ := and_of h5'
              obtain ⟨h9', hA'⟩ := and_of h7'
              subst hs
              have nf : false = true → ∀ {X' : Cx} (y : Str), X'.fn y = true := fun z => nomatch z
              have own : (ownOf C vs).map (·.2) = vs := by
                unfold ownOf
                rw [List.map_map]
                exact List.map_id vs
              refine PS.imp (ps_setLc (i := k) (own := ownOf C vs) (g := TGof X.K U0 (tslots tg') (asg G F tg')) (tt := TBof X.K U0 (evt G F tst')) (te := TEof X.K U0 (ev G F elt')) xf.calm (by rw [xf.hN]; exact xf.nd) (by rw [xf.hN]; exact dec_of n1) hloc hsw
                ((snd C G F n it').ii _ true _ _ X xf rfl (fun _ => ht) h8') (blkOk_by (by rw [xf.hN]; exact (and_of h9').1))
                (fun s H c cl fp => (snd C G F n tg').gg false _ _ _ (xf.blk s H scope _ fp) rfl (fun z => nf z) h6')
                (fun s H c cl fp => (snd C G F n tst').ts false _ _ _ (xf.blk s H scope _ fp) rfl (fun z => nf z) h4')
                (fun s H c cl fp => (snd C G F n elt').ee false _ _ _ (xf.blk s H scope _ fp) rfl (fun z => nf z) h2') (noset_fold hA')) fun D σ H q => ?_
              obtain ⟨l, S, μ, hl, hS, hp⟩ := q
              replace hp : PostE X.K U0 H μ ((ev G F (.comp m vs elt' tg' it' tst') l S).bind fun w S1 => (asg G F (.tnm k) w l S1).bind fun l1 S2 => .ok (.nx, l1) S2) (EndsOf X.K D) := hp
              have hp2 : PostE X.K U0 H μ (ev G F (.comp m vs elt' tg' it' tst') l S) (VP X.K fun v H' => D.nx (σ.set k (some v)) H') := hp.bind.imp fun w H1 μ1 S1 e1 s1 q1 v rv => q1 H1 μ1 (Ext.refl _ _) s1 _ ((hl.up e1).set k rv)
              have hp3 := PostE.bind (r := evi G F it' l S) hp2
              rw [own]
              refine ⟨l, S, μ, hl, hS, hp3.imp fun ds H1 μ1 S1 e1 s1 q1 J A wk hA Dr hD => ?_⟩
              exact lc_turns wk (hl.up e1) s1 hA hD (fun k hk => dec_of (List.all_eq_true.mp (and_of h9').2 k hk)) q1
            · cases h2
          | _ => cases h2
        | _ => cases h1
    | SetComp _ _ _ _ => exact absurd h5 (by simp [noComp])
    | DictComp _ _ _ _ _ => exact absurd h5 (by simp [noComp])
    | _ => exact gen rfl
  | _ => exact gen (sw_other rfl)
end
end MP
set_option Elab.async false
set_option linter.all false
set_option maxRecDepth 100000
set_option maxHeartbeats 8000000
/-! Statements, blocks, defs. -/
namespace MP
open PySem PySem.Spec PyProof.Rows L2 RT

section
variable {C : Ck} {G : Nat → Option W} {F : Fun'} {n : Nat}
theorem ps_parE {X : Cx} {sc : Scope} {ks : List Nat} {es : E} {st : Stmt} (xf : XF X C G F n) (hs : X.env.scope = sc) (ht : ∀ y, X.fn y = true) (h : kPar C ks sc (okA C true es sc) st = true) : PS X st (TSof X.K U0 (exM G F (.par ks es))) := by
  unfold kPar at h
  split at h
  · split at h
    · rename_i x px y py _ _ a b _ _ _ ks i j
      obtain ⟨h, hq⟩ := and_of h
      obtain ⟨h, h6⟩ := and_of h
      obtain ⟨h, h5⟩ := and_of h
      obtain ⟨h, h8⟩ := and_of h
      obtain ⟨h, h7⟩ := and_of h
      obtain ⟨h, h3⟩ := and_of h
      obtain ⟨h, hy⟩ := and_of h
      obtain ⟨h, hx⟩ := and_of h
      obtain ⟨h, hij⟩ := and_of h
      obtain ⟨h, hj⟩ := and_of h
      obtain ⟨hk, hi⟩ := and_of h
      have hxy : x ≠ y := by
        rintro rfl
        exact dec_of hij (nodup_ix xf.nd (dec_of hi) (dec_of hj))
      subst hs
      have pa := (snd C G F n es).aa true _ [a, b] X xf rfl (fun _ => ht) hq
      refine PS.imp (ps_par xf.calm (by rw [xf.hN]; exact xf.nd) (by rw [xf.hN]; exact dec_of hi) (by rw [xf.hN]; exact dec_of hj) (dec_of hij) (dec_of hx) (dec_of hy) pa
        (swap_two (dec_of hk) (dec_of hx) (dec_of hy) (dec_of h3) hxy h5 h6 (not_of' h7) (not_of' h8))) fun D σ H q => ?_
      obtain ⟨l, S, μ, hl, hS, hp⟩ := q
      replace hp : PostE X.K U0 H μ ((evs G F es l S).bind fun ws S1 => (opt (setPar l [i, j] ws) S1).bind fun l1 S2 => .ok (.nx, l1) S2) (EndsOf X.K D) := hp
      refine ⟨l, S, μ, hl, hS, hp.bind.imp fun ws H1 μ1 S1 e1 s1 q1 vs rv => ?_⟩
      cases rv with
      | nil => exact q1.elim
      | @cons w v _ _ r1 t1 =>
        cases t1 with
        | nil => exact q1.elim
        | @cons w2 v2 _ _ r2 t2 =>
          cases t2 with
          | cons _ _ => exact q1.elim
          | nil => exact ⟨v, v2, rfl, q1 H1 μ1 (Ext.refl _ _) s1 _ (((hl.up e1).set i r1).set j r2)⟩
    · cases h
  · split at h
    · rename_i x px y py z pz _ _ a b c _ _ _ ks i j k
      obtain ⟨h, hq⟩ := and_of h
      obtain ⟨h, g3⟩ := and_of h
      obtain ⟨h, g2⟩ := and_of h
      obtain ⟨h, g1⟩ := and_of h
      obtain ⟨h, h8⟩ := and_of h
      obtain ⟨h, h7⟩ := and_of h
      obtain ⟨h, l2⟩ := and_of h
      obtain ⟨h, l1⟩ := and_of h
      obtain ⟨h, hz⟩ := and_of h
      obtain ⟨h, hy⟩ := and_of h
      obtain ⟨h, hx⟩ := and_of h
      obtain ⟨h, hjk⟩ := and_of h
      obtain ⟨h, hik⟩ := and_of h
      obtain ⟨h, hij⟩ := and_of h
      obtain ⟨h, hkk⟩ := and_of h
      obtain ⟨h, hj⟩ := and_of h
      obtain ⟨hk, hi⟩ := and_of h
      have hxy : x ≠ y := by
        rintro rfl
        exact dec_of hij (nodup_ix xf.nd (dec_of hi) (dec_of hj))
      have hxz : x ≠ z := by
        rintro rfl
        exact dec_of hik (nodup_ix xf.nd (dec_of hi) (dec_of hkk))
      have hyz : y ≠ z := by
        rintro rfl
        exact dec_of hjk (nodup_ix xf.nd (dec_of hj) (dec_of hkk))
      subst hs
      have pa := (snd C G F n es).aa true _ [a, b, c] X xf rfl (fun _ => ht) hq
      refine PS.imp (ps_par3 xf.calm (by rw [xf.hN]; exact xf.nd) (by rw [xf.hN]; exact dec_of hi) (by rw [xf.hN]; exact dec_of hj) (by rw [xf.hN]; exact dec_of hkk) (dec_of hij) (dec_of hik) (dec_of hjk) (dec_of hx) (dec_of hy) (dec_of hz) pa
        (swap_three (dec_of hk) (dec_of hx) (dec_of hy) (dec_of hz) (dec_of l1) (dec_of l2) hxy hxz hyz g1 g2 g3 (not_of' h7) (not_of' h8))) fun D σ H q => ?_
      obtain ⟨l, S, μ, hl, hS, hp⟩ := q
      replace hp : PostE X.K U0 H μ ((evs G F es l S).bind fun ws S1 => (opt (setPar l [i, j, k] ws) S1).bind fun l1 S2 => .ok (.nx, l1) S2) (EndsOf X.K D) := hp
      refine ⟨l, S, μ, hl, hS, hp.bind.imp fun ws H1 μ1 S1 e1 s1 q1 vs rv => ?_⟩
      cases rv with
      | nil => exact q1.elim
      | @cons w v _ _ r1 t1 =>
        cases t1 with
        | nil => exact q1.elim
        | @cons w2 v2 _ _ r2 t2 =>
          cases t2 with
          | nil => exact q1.elim
          | @cons w3 v3 _ _ r3 t3 =>
            cases t3 with
            | cons _ _ => exact q1.elim
            | nil => exact ⟨v, v2, v3, rfl, q1 H1 μ1 (Ext.refl _ _) s1 _ ((((hl.up e1).set i r1).set j r2).set k r3)⟩
    · cases h
  · cases h
theorem augW_at {α : Type} {K : PySem.W.Frag} {H : Hp} {μ : Mu} {S : Sto} {op : BO} {w y : W} {f : W → Sto → Rs α} {R : α → Hp → Mu → Sto → Prop} (h : PostE K U0 H μ ((augW S op w y).bind f) R) :
    ∃ i j, w = .dat (.int i) ∧ y = .dat (.int j) ∧ ((op = .add ∧ PostE K U0 H μ (f (.dat (.int (i + j))) S) R) ∨ (op = .sub ∧ PostE K U0 H μ (f (.dat (.int (i - j))) S) R)) := by
  unfold augW at h
  split at h
  · exact ⟨_, _, rfl, rfl, .inl ⟨rfl, h⟩⟩
  · exact ⟨_, _, rfl, rfl, .inr ⟨rfl, h⟩⟩
  · exact h.elim
theorem pss_nilE {X : Cx} : PSs X [] (TSof X.K U0 (exM G F .nil)) :=
  PSs.imp pss_nil fun D σ H q => by
    obtain ⟨l, S, μ, hl, hS, hp⟩ := q
    exact hp H μ (Ext.refl _ _) hS σ hl
theorem ps_augE {X : Cx} {sc : Scope} {k : Nat} {op : BO} {e : E} {st : Stmt} (xf : XF X C G F n) (hs : X.env.scope = sc) (ht : ∀ y, X.fn y = true) (h : kAug C k op sc (okE C true e sc) st = true) : PS X st (TSof X.K U0 (exM G F (.aug k op e))) := by
  unfold kAug at h
  split at h
  · rename_i x px o ex pos
    obtain ⟨h, hq⟩ := and_of h
    obtain ⟨h, ho⟩ := and_of h
    obtain ⟨h, hop⟩ := and_of h
    obtain ⟨hk, hl⟩ := and_of h
    obtain rfl := dec_of ho
    have hloc : (L2.Loc X.env.scope x) ∧ (X.fn x = true ∨ X.env.scope.names.lookup x = some .local) := by
      rw [hs]
      unfold locB at hl
      split at hl
      · exact ⟨.inl (by assumption), .inr (by assumption)⟩
      · exact ⟨.inr (by assumption), .inl (ht x)⟩
      · cases hl
    have pe := (snd C G F n e).ee true sc ex X xf hs (fun _ => ht) hq
    have rd : ∀ {D : Ends} {σ : L2.St} {H : Hp}, TSof X.K U0 (exM G F (.aug k op e)) D σ H → ∃ x, σ[k]? = some (some x) ∧ TEof X.K U0 (ev G F e) σ H fun y H1 => ∃ i j, x = .int i ∧ y = .int j ∧
        ((op = .add ∧ D.nx (σ.set k (some (.int (i + j)))) H1) ∨ (op = .sub ∧ D.nx (σ.set k (some (.int (i - j)))) H1)) := fun {D σ H} q => by
      obtain ⟨l, S, μ, hl, hS, hp⟩ := q
      replace hp : PostE X.K U0 H μ ((getV l k S).bind fun x S0 => (ev G F e l S0).bind fun y S1 => (augW S1 op x y).bind fun z S2 => .ok (.nx, l.set k (some z)) S2) (EndsOf X.K D) := hp
      unfold getV at hp
      split at hp
      · rename_i w ew
        obtain ⟨v, ev', rv⟩ := hl.2 k w ew
        refine ⟨v, ev', l, S, μ, hl, hS, ?_⟩
        have hp : PostE X.K U0 H μ ((ev G F e l S).bind fun y S1 => (augW S1 op w y).bind fun z S2 => .ok (.nx, l.set k (some z)) S2) (EndsOf X.K D) := hp
        refine hp.bind.imp fun y H1 μ1 S1 e1 s1 q1 v1 r1 => ?_
        obtain ⟨i, j, rfl, rfl, q2⟩ := augW_at q1
        obtain rfl := int_rep rv
        obtain rfl := int_rep r1
        refine ⟨i, j, rfl, rfl, ?_⟩
        rcases q2 with ⟨eo, q3⟩ | ⟨eo, q3⟩
        · exact .inl ⟨eo, q3 H1 μ1 (Ext.refl _ _) s1 _ ((hl.up e1).set k (RepD.int (i + j)))⟩
        · exact .inr ⟨eo, q3 H1 μ1 (Ext.refl _ _) s1 _ ((hl.up e1).set k (RepD.int (i - j)))⟩
      · exact hp.elim
    have mono : ∀ {σ : L2.St} {H : Hp} {Q Q' : VK}, TEof X.K U0 (ev G F e) σ H Q → (∀ v H', Q v H' → Q' v H') → TEof X.K U0 (ev G F e) σ H Q' := fun {σ H Q Q'} q i => by
      obtain ⟨l, S, μ, hl, hS, hp⟩ := q
      exact ⟨l, S, μ, hl, hS, hp.imp fun w H1 μ1 S1 _ _ q1 v rv => i v H1 (q1 v rv)⟩
    have hN : X.N[k]? = some x := by rw [xf.hN]; exact dec_of hk
    have nd : X.N.Nodup := by rw [xf.hN]; exact xf.nd
    cases op with
    | add =>
      refine PS.imp (ps_aug (i := k) nd hN hloc.1 pe ip_add hloc.2) fun D σ H q => ?_
      obtain ⟨x', e', q⟩ := rd q
      refine ⟨x', e', mono q fun v H' ⟨i, j, e1, e2, q⟩ => ⟨i, j, e1, e2, ?_⟩⟩
      rcases q with ⟨_, q⟩ | ⟨z, _⟩
      · exact q
      · cases z
    | sub =>
      refine PS.imp (ps_aug (i := k) nd hN hloc.1 pe ip_sub hloc.2) fun D σ H q => ?_
      obtain ⟨x', e', q⟩ := rd q
      refine ⟨x', e', mono q fun v H' ⟨i, j, e1, e2, q⟩ => ⟨i, j, e1, e2, ?_⟩⟩
      rcases q with ⟨z, _⟩ | ⟨_, q⟩
      · cases z
      · exact q
    | _ => exact absurd hop (by decide)
  · cases h
theorem ps_ifE {X : Cx} {c : Expr} {a b : List Stmt} {pos : Pos} {rt : Loc → Sto → Rs W} {ra rb : Loc → Sto → Rs (Fl × Loc)} (ht : PT X c (TTof X.K U0 rt)) (ha : PSs X a (TSof X.K U0 ra)) (hb : PSs X b (TSof X.K U0 rb)) :
    PS X (.If c a b pos) (TSof X.K U0 fun l S => (rt l S).bind fun x S1 => ifW x (ra l S1) (rb l S1)) :=
  PS.imp (ps_if ht ha hb) fun D σ H q => by
    obtain ⟨l, S, μ, hl, hS, hp⟩ := q
    refine ⟨l, S, μ, hl, hS, hp.bind.imp fun w H1 μ1 S1 e1 s1 q1 => ?_⟩
    obtain ⟨b, rfl, q⟩ := ifW_at q1
    exact ⟨b, rfl, post_if q (fun q => ⟨l, S1, μ1, hl.up e1, s1, q⟩) fun q => ⟨l, S1, μ1, hl.up e1, s1, q⟩⟩
theorem ps_retE {X : Cx} {x : Expr} {pos : Pos} {r : Loc → Sto → Rs W} (ha : PE X x (TEof X.K U0 r)) : PS X (.Return (some x) pos) (TSof X.K U0 fun l S => (r l S).bind fun w S1 => .ok (.ret w, l) S1) :=
  PS.imp (ps_ret ha) fun D σ H q => by
    obtain ⟨l, S, μ, hl, hS, hp⟩ := q
    exact ⟨l, S, μ, hl, hS, hp.bind.imp fun w H1 μ1 S1 e1 s1 q1 v rv => q1 H1 μ1 (Ext.refl _ _) s1 v rv⟩
/-- behind a turn: on, out of the loop, or away -/
theorem loop_end {K : PySem.W.Frag} {nxt : Loc → Sto → Rs (Fl × Loc)} {D : Ends} {r : Fl × Loc} {S : Sto} {H : Hp} {μ : Mu} {N : L2.St → Hp → Prop} (s : StoRep K H S μ) (h : PostE K U0 H μ (loopR nxt r S) (EndsOf K D))
    (k : ∀ σ, LocRep K H μ r.2 σ → PostE K U0 H μ (nxt r.2 S) (EndsOf K D) → N σ H) : EndsOf K { D with nx := N, ct := N, bk := D.nx } r H μ S := by
  obtain ⟨f, l⟩ := r
  cases f with
  | nx => exact fun σ hl => k σ hl h
  | ct => exact fun σ hl => k σ hl h
  | brk => exact fun σ hl => h H μ (Ext.refl _ _) s σ hl
  | ret w => exact fun v rv => h H μ (Ext.refl _ _) s v rv
theorem ps_whileE {X : Cx} {c : Expr} {a : List Stmt} {pos : Pos} {rt : Loc → Sto → Rs W} {ra : Loc → Sto → Rs (Fl × Loc)} (po : PassesOwn (model X.prog X.w) X.A X.env X.xe) (ht : PT X c (TTof X.K U0 rt)) (ha : PSs X a (TSof X.K U0 ra)) :
    PS X (.While c a [] pos) (TSof X.K U0 fun l S => whlL rt ra whlFuel l S) :=
  PS.imp (ps_while po ht ha) fun D σ H q => by
    obtain ⟨l, S, μ, hl, hS, hp⟩ := q
    refine ⟨fun m σ H => ∃ l S μ, LocRep X.K H μ l σ ∧ StoRep X.K H S μ ∧ PostE X.K U0 H μ (whlL rt ra m l S) (EndsOf X.K D), ⟨whlFuel, l, S, μ, hl, hS, hp⟩, ?_⟩
    rintro m σ H ⟨l, S, μ, hl, hS, hp⟩
    cases m with
    | zero => exact hp.elim
    | succ m =>
      replace hp : PostE X.K U0 H μ ((rt l S).bind fun x S1 => ifW x ((ra l S1).bind (loopR (whlL rt ra m))) (.ok (.nx, l) S1)) (EndsOf X.K D) := hp
      refine ⟨l, S, μ, hl, hS, hp.bind.imp fun w H1 μ1 S1 e1 s1 q1 => ?_⟩
      obtain ⟨b, rfl, q⟩ := ifW_at q1
      refine ⟨b, rfl, post_if q (fun q => ?_) fun q => q H1 μ1 (Ext.refl _ _) s1 σ (hl.up e1)⟩
      refine ⟨fun σ H => ∃ l S μ, LocRep X.K H μ l σ ∧ StoRep X.K H S μ ∧ PostE X.K U0 H μ (whlL rt ra m l S) (EndsOf X.K D), fun σ' H' h => ⟨m, Nat.lt_succ_self m, h⟩, ?_⟩
      exact ⟨l, S1, μ1, hl.up e1, s1, q.bind.imp fun r H2 μ2 S2 e2 s2 q2 => loop_end s2 q2 fun σ2 hl2 q3 => ⟨r.2, S2, μ2, hl2, s2, q3⟩⟩
theorem ps_forE {X : Cx} {tg it : Expr} {a : List Stmt} {pos : Pos} {ts : List Nat} {ri : Loc → Sto → Rs (List D)} {rg : W → Loc → Sto → Rs Loc} {ra : Loc → Sto → Rs (Fl × Loc)} (po : PassesOwn (model X.prog X.w) X.A X.env X.xe) (hc : X.calm = true)
    (hi : PI X tg it (TIof X.K U0 ri)) (hg : PG X tg (TGof X.K U0 ts rg)) (ha : PSs X a (TSof X.K U0 ra)) (hset : noSet it = true) :
    PS X (.For tg it a [] pos) (TSof X.K U0 fun l S => (ri l S).bind fun ds S1 => forL (fun d l2 S2 => (rg (.dat d) l2 S2).bind fun l3 S3 => ra l3 S3) ds l S1) :=
  PS.imp (ps_for po hc hi hg ha (noset_fold hset)) fun E σ H q => by
    obtain ⟨l, S, μ, hl, hS, hp⟩ := q
    generalize hb : (fun d l2 S2 => (rg (.dat d) l2 S2).bind fun l3 S3 => ra l3 S3) = body at hp
    replace hp : PostE X.K U0 H μ ((ri l S).bind fun ds S1 => forL body ds l S1) (EndsOf X.K E) := hp
    refine ⟨l, S, μ, hl, hS, hp.bind.imp fun ds H1 μ1 S1 e1 s1 q1 J A wk hA => ?_⟩
    let Iv (i : Nat) (σ : L2.St) (H : Hp) : Prop := ∃ l S μ, LocRep X.K H μ l σ ∧ StoRep X.K H S μ ∧ A H μ ∧ PostE X.K U0 H μ (forL body (ds.drop i) l S) (EndsOf X.K E)
    refine ⟨fun i m σ H => m = ds.length - i ∧ i ≤ ds.length ∧ Iv i σ H, ⟨_, rfl, Nat.zero_le _, l, S1, μ1, hl.up e1, s1, hA, q1⟩, ?_⟩
    rintro i m σ H ⟨rfl, hi, l, S, μ, hl, hS, hA, hp⟩
    by_cases hlt : i < ds.length
    · refine .inr ⟨wk.go hA hlt, Iv (i + 1), fun σ' H' h => ⟨_, (by omega), rfl, hlt, h⟩, fun x H' y => ?_⟩
      obtain ⟨ey, sy, ry⟩ := wk.yld hA y (List.getElem?_eq_getElem hlt)
      rw [List.drop_eq_getElem_cons hlt] at hp
      replace hp : PostE X.K U0 H μ ((body ds[i] l S).bind (loopR (forL body (ds.drop (i + 1))))) (EndsOf X.K E) := hp
      have hbi : body ds[i] l S = (rg (.dat ds[i]) l S).bind fun l3 S3 => ra l3 S3 := by rw [← hb]
      rw [hbi] at hp
      have bb : ∀ {α β γ : Type} (r : Rs α) (f : α → Sto → Rs β) (g : β → Sto → Rs γ), (r.bind f).bind g = r.bind fun a S => (f a S).bind g := fun r f g => by cases r <;> rfl
      rw [bb] at hp
      refine ⟨l, S, μ, .dat ds[i], hl.up ey, sy S hS, ry, (hp.up ey).bind.imp fun l3 H3 μ3 S3 e3 s3 q3 σ3 hl3 _ => ?_⟩
      exact ⟨l3, S3, μ3, hl3, s3, q3.bind.imp fun r H4 μ4 S4 e4 s4 q4 => loop_end s4 q4 fun σ4 hl4 q5 => ⟨r.2, S4, μ4, hl4, s4, wk.up hA ((ey.trans e3).trans e4), q5⟩⟩
    · have e : i = ds.length := by omega
      subst e
      rw [List.drop_length] at hp
      exact .inl ⟨wk.stop hA (Nat.le_refl _), hp H μ (Ext.refl _ _) hS σ hl⟩
end

section
variable (C : Ck) (G : Nat → Option W) (F : Fun') (n : Nat)
structure SndS (s : St') : Prop where
  st : ∀ (sc : Scope) (x : Stmt) (X : Cx), XF X C G F n → X.env.scope = sc → (∀ y, X.fn y = true) → PassesOwn (model X.prog X.w) X.A X.env X.xe → okS C sc s x = true → PS X x (TSof X.K U0 (exM G F s))
  ss : ∀ (sc : Scope) (x : List Stmt) (X : Cx), XF X C G F n → X.env.scope = sc → (∀ y, X.fn y = true) → PassesOwn (model X.prog X.w) X.A X.env X.xe → okSs C sc s x = true → PSs X x (TSof X.K U0 (exM G F s))
theorem frz_step {K : PySem.W.Frag} {k : Nat} {r : St'} {D : Ends} {σ : L2.St} {H : Hp} (h : TSof K U0 (exM G F (.cons (.frz k) r)) D σ H) : TSof K U0 (exM G F r) D σ H := by
  obtain ⟨l, S, μ, hl, hS, hp⟩ := h
  replace hp : PostE K U0 H μ (((getV l k S).bind fun x S1 => frzW l k S1 x).bind (seqR (exM G F r))) (EndsOf K D) := hp
  unfold getV at hp
  split at hp
  · rename_i w ew
    replace hp : PostE K U0 H μ ((frzW l k S w).bind (seqR (exM G F r))) (EndsOf K D) := hp
    unfold frzW at hp
    split at hp
    · rename_i p
      split at hp
      · rename_i ds e
        obtain ⟨v, ev', rv⟩ := hl.2 k _ ew
        obtain ⟨a, vs, rfl, hm, ha, hr⟩ := obj_lst hS rv e
        have ex : Ext H μ H (μ.set p) := Ext.let
        have q : PostE K U0 H (μ.set p) (exM G F r (l.set k (some (.dat (.list ds)))) (S.set p .gone)) (EndsOf K D) := PostE.up (H := H) (μ := μ) hp ex
        refine ⟨l.set k (some (.dat (.list ds))), S.set p .gone, μ.set p, ?_, hS.let hm, q⟩
        have l2 := hl.up ex
        refine ⟨by simp [l2.1], fun i u q => ?_⟩
        by_cases ei : k = i
        · subst ei
          obtain ⟨hlen, _⟩ := List.getElem?_eq_some_iff.mp ew
          rw [List.getElem?_set_self hlen] at q
          cases q
          exact ⟨.ref a, ev', .lst ha (hS.out hm) (hS.outh hm) (hr.up ex)⟩
        · rw [List.getElem?_set_ne ei] at q
          exact l2.2 i u q
      · exact hp.elim
    · exact hp.elim
  · exact hp.elim
theorem sndS : ∀ s : St', SndS C G F n s := by
  intro s
  induction s with
  | expr e =>
    refine ⟨fun sc x X xf hs ht po h => ?_, fun sc x X xf hs ht po h => (nomatch h)⟩
    replace h : kExpr (okE C true e sc) x = true := h
    unfold kExpr at h
    split at h
    · obtain ⟨h1, h2⟩ := and_of h
      exact ps_exprE h2 ((snd C G F n e).ee true sc _ X xf hs (fun _ => ht) h1)
    · cases h
  | set t e =>
    refine ⟨fun sc x X xf hs ht po h => ?_, fun sc x X xf hs ht po h => (nomatch h)⟩
    replace h : kSet sc (okG C true t sc) (okE C true e sc) x = true := h
    unfold kSet at h
    split at h
    · obtain ⟨h1, h2⟩ := and_of h
      exact ps_setE xf hs ht (and_of h1).1 (and_of h1).2 h2
    · cases h
  | par ks es => exact ⟨fun sc x X xf hs ht po h => ps_parE xf hs ht h, fun sc x X xf hs ht po h => (nomatch h)⟩
  | aug k op e => exact ⟨fun sc x X xf hs ht po h => ps_augE xf hs ht h, fun sc x X xf hs ht po h => (nomatch h)⟩
  | cond t a b iha ihb =>
    refine ⟨fun sc x X xf hs ht po h => ?_, fun sc x X xf hs ht po h => (nomatch h)⟩
    replace h : kIf (okT C true t sc) (okSs C sc a) (okSs C sc b) x = true := h
    unfold kIf at h
    split at h
    · obtain ⟨h1, h2⟩ := and_of h
      exact ps_ifE ((snd C G F n t).tt true sc _ X xf hs (fun _ => ht) (and_of h1).1) (iha.ss sc _ X xf hs ht po (and_of h1).2) (ihb.ss sc _ X xf hs ht po h2)
    · cases h
  | whl t b ihb =>
    refine ⟨fun sc x X xf hs ht po h => ?_, fun sc x X xf hs ht po h => (nomatch h)⟩
    replace h : kWhl (okT C true t sc) (okSs C sc b) x = true := h
    unfold kWhl at h
    split at h
    · obtain ⟨h1, h2⟩ := and_of h
      exact ps_whileE po ((snd C G F n t).tt true sc _ X xf hs (fun _ => ht) h1) (ihb.ss sc _ X xf hs ht po h2)
    · cases h
  | «for» tg it b ihb =>
    refine ⟨fun sc x X xf hs ht po h => ?_, fun sc x X xf hs ht po h => (nomatch h)⟩
    replace h : kFor (okG C true tg sc) (okI C true it sc) (okSs C sc b) x = true := h
    unfold kFor at h
    split at h
    · obtain ⟨h1, h2⟩ := and_of h
      obtain ⟨h3, h4⟩ := and_of h1
      exact ps_forE po xf.calm ((snd C G F n it).ii _ true sc _ X xf hs (fun _ => ht) (and_of h3).2) ((snd C G F n tg).gg true sc _ X xf hs (fun _ => ht) (and_of h3).1) (ihb.ss sc _ X xf hs ht po h2) h4
    · cases h
  | ret e =>
    refine ⟨fun sc x X xf hs ht po h => ?_, fun sc x X xf hs ht po h => (nomatch h)⟩
    replace h : kRet (okE C true e sc) x = true := h
    unfold kRet at h
    split at h
    · exact ps_retE ((snd C G F n e).ee true sc _ X xf hs (fun _ => ht) h)
    · cases h
  | retN =>
    refine ⟨fun sc x X xf hs ht po h => ?_, fun sc x X xf hs ht po h => (nomatch h)⟩
    replace h : kRetN x = true := h
    unfold kRetN at h
    split at h
    · exact PS.imp ps_retN fun D σ H q => by
        obtain ⟨l, S, μ, hl, hS, hp⟩ := q
        exact hp H μ (Ext.refl _ _) hS .non RepD.non
    · cases h
  | brk =>
    refine ⟨fun sc x X xf hs ht po h => ?_, fun sc x X xf hs ht po h => (nomatch h)⟩
    replace h : kBrk x = true := h
    unfold kBrk at h
    split at h
    · exact PS.imp ps_break fun D σ H q => by
        obtain ⟨l, S, μ, hl, hS, hp⟩ := q
        exact hp H μ (Ext.refl _ _) hS σ hl
    · cases h
  | ct =>
    refine ⟨fun sc x X xf hs ht po h => ?_, fun sc x X xf hs ht po h => (nomatch h)⟩
    replace h : kCt x = true := h
    unfold kCt at h
    split at h
    · exact PS.imp ps_continue fun D σ H q => by
        obtain ⟨l, S, μ, hl, hS, hp⟩ := q
        exact hp H μ (Ext.refl _ _) hS σ hl
    · cases h
  | pass =>
    refine ⟨fun sc x X xf hs ht po h => ?_, fun sc x X xf hs ht po h => (nomatch h)⟩
    replace h : kPass x = true := h
    unfold kPass at h
    split at h
    · exact PS.imp ps_pass fun D σ H q => by
        obtain ⟨l, S, μ, hl, hS, hp⟩ := q
        exact hp H μ (Ext.refl _ _) hS σ hl
    · cases h
  | frz k => exact ⟨fun sc x X xf hs ht po h => (nomatch h), fun sc x X xf hs ht po h => (nomatch h)⟩
  | nil =>
    refine ⟨fun sc x X xf hs ht po h => (nomatch h), fun sc x X xf hs ht po h => ?_⟩
    cases x with
    | nil => exact pss_nilE
    | cons _ _ => cases h
  | cons s r ihs ihr =>
    refine ⟨fun sc x X xf hs ht po h => (nomatch h), fun sc x X xf hs ht po h => ?_⟩
    replace h : (if isFrz s then okSs C sc r x else kConsS (okS C sc s) (okSs C sc r) x) = true := h
    split at h
    · cases s with
      | frz k => exact PSs.imp (ihr.ss sc x X xf hs ht po h) fun D σ H q => frz_step G F q
      | _ => rename_i z; cases z
    · cases x with
      | nil => cases h
      | cons y ys =>
        obtain ⟨h1, h2⟩ := and_of (show (okS C sc s y && okSs C sc r ys) = true from h)
        refine PSs.imp (pss_cons (ihs.st sc y X xf hs ht po h1) (ihr.ss sc ys X xf hs ht po h2)) fun D σ H q => ?_
        obtain ⟨l, S, μ, hl, hS, hp⟩ := q
        replace hp : PostE X.K U0 H μ ((exM G F s l S).bind (seqR (exM G F r))) (EndsOf X.K D) := hp
        refine ⟨l, S, μ, hl, hS, hp.bind.imp fun rr H1 μ1 S1 e1 s1 q1 => ?_⟩
        obtain ⟨f, l1⟩ := rr
        cases f with
        | nx => exact fun σ1 hl1 => ⟨l1, S1, μ1, hl1, s1, q1⟩
        | ct => exact q1 H1 μ1 (Ext.refl _ _) s1
        | brk => exact q1 H1 μ1 (Ext.refl _ _) s1
        | ret w => exact q1 H1 μ1 (Ext.refl _ _) s1
end
end MP
set_option Elab.async false
set_option linter.all false
set_option maxRecDepth 100000
set_option maxHeartbeats 4000000
/-! Defs that call one another: each answers as its meaning says, at any depth. -/
namespace MP
open PySem PySem.Spec PyProof.Rows L2 RT

/-- a def of the text: its name, its text, its parameters, its names by slot, its meaning -/
structure Df where
  nm : Str
  st : Stmt
  ps : List Str
  N : List Str
  fn : Fn
def nmsOf (tb : List Df) (i : Nat) : Option Str := (tb[i]?).map (·.nm)
def fnsOf (tb : List Df) (i : Nat) : Option Fn := (tb[i]?).map (·.fn)
/-- a look at the names of a def's scope -/
def scOk (N P : List Str) (sc : Scope) : Bool :=
  decide (sc.kind = .function) && !sc.isCoroutine && !sc.isGenerator && decide N.Nodup && decide (N.take P.length = P) && P.all (fun x => decide (sc.names.lookup x = some .local) || decide (sc.names.lookup x = some .cell)) && sc.names.all (fun y => !decide (y.2 = .free))
theorem scope_by {N P : List Str} {sc : Scope} (h : scOk N P sc = true) : FnScope N P sc := by
  unfold scOk at h
  simp only [Bool.and_eq_true, Bool.not_eq_true', decide_eq_true_eq, List.all_eq_true, Bool.or_eq_true, decide_eq_false_iff_not] at h
  obtain ⟨⟨⟨⟨⟨⟨h1, h2⟩, h3⟩, h4⟩, h5⟩, h6⟩, h7⟩ := h
  exact ⟨h1, h2, h3, h4, h5, h6, h7⟩
def Df.ok (gl : Nat → Option Str) (fnm : Nat → Option Str) (blt : List Str) (d : Df) : Bool :=
  scOk d.N d.ps (L2.defScope d.st) && decide (d.fn.np = d.ps.length) && decide (d.fn.nn = d.N.length) && okSs ⟨d.N, gl, fnm, blt⟩ (L2.defScope d.st) d.fn.body (L2.defBody d.st)
structure There (K : PySem.W.Frag) (mg : Str → Option Value) (d : Df) : Prop where
  ex : ∃ fa fd, mg d.nm = some (.ref fa) ∧ PySem.W.keepIn K (.ref fa) = true ∧ (∀ us : List Value, us.length = d.ps.length → bindArgs fd ⟨us, []⟩ = pure (d.ps.zip us)) ∧ L2.Fun K d.nm d.nm d.st fa fd
theorem keepN_le (n : Nat) (w : W) : n ≤ keepN n w := by cases w with
  | obj p => exact Nat.le_max_left _ _
  | _ => exact Nat.le_refl _
theorem below_keep (n : Nat) (w : W) : below (keepN n w) w = true := by cases w with
  | obj p => exact decide_eq_true (Nat.lt_of_lt_of_le (Nat.lt_succ_self p) (Nat.le_max_right _ _))
  | _ => rfl

section
variable {K : PySem.W.Frag} {H : Hp} {μ : Mu}
theorem leave_post {n : Nat} {w : W} {S' : Sto} {H' : Hp} {μ' : Mu} {Q : VK} (hn : n = μ.ob.length) (e : Ext H μ H' μ') (s : StoRep K H' S' μ') (h : PostE K U0 H μ (leave n w S') (VP K Q)) {v : V} (rv : RepW K H' μ' w v) : Q v H' := by
  unfold leave at h
  split at h
  · rename_i c
    exact h H' (μ'.cut (keepN n w)) (Ext.cut (by rw [← hn]; exact keepN_le n w) e) (StoRep.cut s c.2) v (RepW.cut (below_keep n w) rv)
  · exact h.elim
theorem done_post {r : Rs (Fl × Loc)} {S : Sto} {Q : VK} (hS : StoRep K H S μ) (h : PostE K U0 H μ (doneFn S.length r) (VP K Q)) : PostE K U0 H μ r (EndsOf K { nx := fun _ H' => Q .non H', rt := Q }) := by
  cases r with
  | ok a S' =>
    obtain ⟨f, l⟩ := a
    intro H' μ' e s
    cases f with
    | nx => exact fun σ hl => leave_post hS.len e s h (w := .dat .none) RepD.non
    | ret w => exact fun v rv => leave_post hS.len e s h rv
    | brk => exact h.elim
    | ct => exact h.elim
  | ex x S' =>
    intro H' μ' e s
    unfold doneFn at h
    dsimp only at h
    split at h
    · rename_i c
      exact h H' (μ'.cut S.length) (Ext.cut (Nat.le_of_eq hS.len.symm) e) (StoRep.cut s c.2)
    · exact h.elim
  | no => exact h.elim
theorem RepWs.length {ws : List W} {vs : List V} (h : RepWs K H μ ws vs) : ws.length = vs.length := by
  induction h with
  | nil => rfl
  | cons _ _ ih => simp [ih]
theorem RepWs.at {ws : List W} {vs : List V} (h : RepWs K H μ ws vs) : ∀ (i : Nat) (w : W), ws[i]? = some w → ∃ v, vs[i]? = some v ∧ RepW K H μ w v := by
  induction h with
  | nil => intro i w e; simp at e
  | cons a _ ih =>
    intro i w e
    cases i with
    | zero => simp at e; subst e; exact ⟨_, rfl, a⟩
    | succ i => simpa using ih i w (by simpa using e)
theorem start_rep {ws : List W} {vs : List V} {N : List Str} {nn : Nat} (h : RepWs K H μ ws vs) (hn : nn = N.length) : LocRep K H μ (start' ws nn) (L2.start N vs) := by
  subst hn
  have hl := h.length
  refine ⟨by simp [start', L2.start, hl], fun i w q => ?_⟩
  unfold start' at q
  by_cases hi : i < ws.length
  · rw [List.getElem?_append_left (by simpa using hi), List.getElem?_map] at q
    cases e : ws[i]? with
    | none => rw [e] at q; cases q
    | some x =>
      rw [e] at q
      cases q
      obtain ⟨v, ev', rv⟩ := h.at i w e
      refine ⟨v, ?_, rv⟩
      unfold L2.start
      rw [List.getElem?_append_left (by rw [List.length_map, ← hl]; exact hi), List.getElem?_map, ev']
      rfl
  · rw [List.getElem?_append_right (by simpa using hi), List.getElem?_replicate] at q
    split at q <;> cases q
end

section
variable {P : Program} {w : World} {K : PySem.W.Frag} {mg : Str → Option Value} {base : Heap} {tb : List Df} {G : Nat → Option W} {gl : Nat → Option Str} {blt : List Str}
/-- every def of the table, at depth n -/
theorem fns_ok (hG : ∀ g x w, gl g = some x → G g = some w → ∃ v u, mg x = some u ∧ RelV v u ∧ ∀ H μ, RepW K H μ w v) (hb : ∀ x, x ∈ blt → mg x = none) (ht : ∀ d, d ∈ tb → There K mg d) (hk : tb.all (Df.ok gl (nmsOf tb) blt) = true) :
    ∀ (n i : Nat) (d : Df), tb[i]? = some d → ∀ fa fd, L2.Fun K d.nm d.nm d.st fa fd → FnOk P w K mg base CX0 n fa fd d.ps (spF K (callM G (fnsOf tb) n) i)
  | 0, i, d, hd, fa, fd, h4 => by
    refine ⟨fun vs H Q E q => ?_, fun A outer s H args us vs Q E _ _ _ _ q => ?_⟩
    · obtain ⟨S, μ, ws, _, _, z⟩ := q; exact z.elim
    · obtain ⟨S, μ, ws, _, _, z⟩ := q; exact z.elim
  | n + 1, i, d, hd, fa, fd, h4 => by
    have IH := fns_ok hG hb ht hk n
    have c := List.all_eq_true.mp hk d (List.mem_of_getElem? hd)
    unfold Df.ok at c
    obtain ⟨c, c4⟩ := and_of c
    obtain ⟨c, c3⟩ := and_of c
    obtain ⟨c1, c2⟩ := and_of c
    have sc := scope_by c1
    have hf : fnsOf tb i = some d.fn := by unfold fnsOf; rw [hd]; rfl
    have unf : ∀ (ws : List W) (S : Sto), callM G (fnsOf tb) (n + 1) i ws S = if ws.length = d.fn.np then doneFn S.length (exM G (callM G (fnsOf tb) n) d.fn.body (start' ws d.fn.nn) S) else .no := fun ws S => by
      show (match fnsOf tb i with | some fn => _ | none => _) = _
      rw [hf]
    refine L2.Fun.ok h4 sc (fun vs H Q E q => ?_) fun cdv A outer s H vs Q E hr q => ?_
    · obtain ⟨S, μ, ws, _, rw', z⟩ := q
      rw [unf] at z
      split at z
      · rename_i e
        rw [← rw'.length, e]; exact dec_of c2
      · exact z.elim
    · obtain ⟨S, μ, ws, hS, rw', z⟩ := q
      rw [unf] at z
      split at z
      · refine ⟨_, (sndS ⟨d.N, gl, nmsOf tb, blt⟩ G (callM G (fnsOf tb) n) n d.fn.body).ss (L2.defScope d.st) _ _ ⟨rfl, sc.nd, rfl, hr, hG, hb, fun f x e => ?_⟩ rfl (fun _ => rfl) PassesOwn.never c4, start' ws d.fn.nn, S, μ, start_rep rw' (dec_of c3), hS, done_post hS z⟩
        have e : (tb[f]?).map (·.nm) = some x := e
        cases ed : tb[f]? with
        | none => rw [ed] at e; cases e
        | some d2 =>
          rw [ed] at e
          cases e
          obtain ⟨fa2, fd2, g1, g2, g3, g4⟩ := (ht d2 (List.mem_of_getElem? ed)).ex
          exact ⟨fa2, fd2, d2.ps, g1, g2, .all g3, IH f d2 ed fa2 fd2 g4⟩
      · exact z.elim
end

/-! ### constants of the module -/
def sameV : D → Value → Bool
  | .int i, .int j _ => decide (i = j)
  | .str i, .str j _ => decide (i = j)
  | .bool i, .bool j => decide (i = j)
  | .none, .none => true
  | _, _ => false
def sameVs : List D → List Value → Bool
  | [], [] => true
  | d :: ds, v :: vs => sameV d v && sameVs ds vs
  | _, _ => false
def vOf : D → V
  | .int i => .int i
  | .str i => .str i
  | .bool i => .bl i
  | _ => .non
theorem same_rep {K : PySem.W.Frag} {H : Hp} {μ : Mu} {d : D} {u : Value} (h : sameV d u = true) : RelV (vOf d) u ∧ RepD K H μ d (vOf d) := by
  unfold sameV at h
  split at h
  · obtain rfl := dec_of h; exact ⟨⟨_, rfl⟩, .int _⟩
  · obtain rfl := dec_of h; exact ⟨⟨_, rfl⟩, .str _⟩
  · obtain rfl := dec_of h; exact ⟨rfl, .bl _⟩
  · exact ⟨rfl, .non⟩
  · cases h
theorem sames_rep {K : PySem.W.Frag} {H : Hp} {μ : Mu} : ∀ {ds : List D} {us : List Value}, sameVs ds us = true → Vals (ds.map vOf) us ∧ RepDs K H μ ds (ds.map vOf)
  | [], [], _ => ⟨.nil, .nil⟩
  | d :: ds, u :: us, h => by
    obtain ⟨h1, h2⟩ := and_of h
    obtain ⟨a, b⟩ := same_rep (K := K) (H := H) (μ := μ) h1
    obtain ⟨c, e⟩ := sames_rep (K := K) (H := H) (μ := μ) h2
    exact ⟨.cons a c, .cons b e⟩
  | [], _ :: _, h => by cases h
  | _ :: _, [], h => by cases h
/-- a written tuple of flat things -/
theorem cst_there {K : PySem.W.Frag} {mg : Str → Option Value} {h : Heap} {x : Str} {a : Addr} {od : Option Addr} {its : Array Value} {n : Nat} {sl : Array (Option Value)} {ds : List D} (X : K.In h) (G : h.Ns mainGlobals mg) (e : PySem.W.nsIn K mainGlobals x = some (some (.ref a)))
    (l : K.lookup a = some ⟨.type "tuple", od, .seq its n, sl⟩) (z : its.size ≤ sizeLine) (s : sameVs ds its.toList = true) : ∃ v u, mg x = some u ∧ RelV v u ∧ ∀ H μ, RepW K H μ (.cst ds) v :=
  ⟨.ref a, .ref a, PySem.W.mg_of X G e, rfl, fun H μ => ⟨a, ds.map vOf, rfl, ⟨_, its, n, l, rfl, rfl, z, (sames_rep (K := K) (H := H) (μ := μ) s).1⟩, (sames_rep s).2⟩⟩
/-- a written number, text, .. -/
theorem flat_there {K : PySem.W.Frag} {mg : Str → Option Value} {h : Heap} {x : Str} {u : Value} {d : D} (X : K.In h) (G : h.Ns mainGlobals mg) (e : PySem.W.nsIn K mainGlobals x = some (some u)) (s : sameV d u = true) : ∃ v u, mg x = some u ∧ RelV v u ∧ ∀ H μ, RepW K H μ (.dat d) v :=
  ⟨vOf d, u, PySem.W.mg_of X G e, (same_rep (K := K) (H := fun _ => none) (μ := ⟨[], []⟩) s).1, fun H μ => (same_rep s).2⟩
theorem there_mk {K : PySem.W.Frag} {mg : Str → Option Value} {h : Heap} {d : Df} {f : Addr} {oc : Value} {od an : Option Addr} {osl : Array (Option Value)} {kV doc pm cdv ct : Value} (X : K.In h) (G : h.Ns mainGlobals mg) (e : PySem.W.nsIn K mainGlobals d.nm = some (some (.ref f)))
    (l : K.lookup f = some ⟨oc, od, .func (PySem.W.fnOf d.nm d.nm (defArgs d.st) (defBody d.st) (defScope d.st) .none kV doc pm an cdv ct), osl⟩) (c : PySem.W.codeIn K cdv d.nm = true) (k : PySem.W.keepIn K (.ref f) = true)
    (b : ∀ (kV doc pm : Value) (an : Option Addr) (cdv ct : Value) (us : List Value), us.length = d.ps.length → bindArgs (PySem.W.fnOf d.nm d.nm (defArgs d.st) (defBody d.st) (defScope d.st) .none kV doc pm an cdv ct) ⟨us, []⟩ = pure (d.ps.zip us)) : There K mg d :=
  ⟨f, _, PySem.W.mg_of X G e, k, b kV doc pm an cdv ct, fun_mk l c k⟩

/-! ### the law -/
theorem scr_rep {K : PySem.W.Frag} {H : Hp} {a : Addr} {ns : List Int} (hO : Only H) (hS : SqL K H a (ns.map V.int)) : RepW K H ⟨[], []⟩ (.scr (ns.map .int)) (.ref a) := by
  have rd : ∀ (H : Hp) (μ : Mu) (ns : List Int), RepDs K H μ (ns.map .int) (ns.map V.int) := fun H μ ns => by
    induction ns with
    | nil => exact .nil
    | cons n ns ih => exact .cons (.int n) ih
  refine ⟨a, ns.map V.int, rfl, ?_, rd _ _ _⟩
  rcases hS with h | h
  · rcases h with h | ⟨o, h⟩
    · rcases hO a with z | ⟨o, xs, z⟩
      · rw [z] at h; cases h
      · rw [z] at h; cases h
    · exact .inl ⟨o, h⟩
  · exact .inr h
theorem law_sp {K : PySem.W.Frag} {F : Fun'} {f : Nat} {H : Hp} {a : Addr} {ns : List Int} (hO : Only H) (hS : SqL K H a (ns.map V.int)) (h : ∃ S, F f [.scr (ns.map .int)] [] = .ok (.dat (.bool true)) S) :
    spF K F f [.ref a] H (fun v _ => v = .bl true) fun _ _ _ => False := by
  obtain ⟨S, h⟩ := h
  refine ⟨[], ⟨[], []⟩, [.scr (ns.map .int)], ⟨rfl, fun a m => absurd m (by simp), fun p a o e => by simp at e, fun p q a e => by simp at e, fun p e => by simp at e⟩, .cons (scr_rep hO hS) .nil, ?_⟩
  rw [h]
  intro H' μ' _ _ v rv
  cases rv
  rfl
theorem walk_mp {l : PySem.W.OpenLaw} {k i : Nat} {dl : Df} {q : Program} {loose : List Str} {XP : (Str → Option Value) → Heap → Prop} {YP : World → Heap → Prop} {d : DefRec} {K : Params → PySem.W.Frag} {x : Str} {tb : List Df} {G : Nat → Option W} {gl : Nat → Option Str} {blt : List Str}
    (hn : l.most = some 63) (hdf : d.params.defaults = []) (hr : Room k callerA) (hY : ∀ (w : World) (h : Heap), YP w h → (K w.params).In h) (hi : tb[i]? = some dl) (hp : dl.ps = [x]) (hdn : dl.nm = d.name)
    (hk : tb.all (Df.ok gl (nmsOf tb) blt) = true)
    (T : ∀ (w : World) (mg : Str → Option Value) (h : Heap), (K w.params).In h → h.Ns mainGlobals mg → (∀ g x w', gl g = some x → G g = some w' → ∃ v u, mg x = some u ∧ RelV v u ∧ ∀ H μ, RepW (K w.params) H μ w' v) ∧ (∀ x, x ∈ blt → mg x = none) ∧ (∀ d, d ∈ tb → There (K w.params) mg d))
    (hl : ∀ ns : List Int, ns.length ≤ 63 → ∃ S, callM G (fnsOf tb) k i [.scr (ns.map .int)] [] = .ok (.dat (.bool true)) S) :
    PySem.W.WalkO q loose XP YP l.row.toRowW d [] (fun f vs => PySem.call f vs) := by
  refine L2.walk_of (n := 63) (k := k) (x := x) (CX := fun _ => CX0) (sp := fun w => spF (K w.params) (callM G (fnsOf tb) k) i) hn (by decide) hdf hr hY (fun w mg fa h KX GX hmg => ?_) (fun w H a ns hlen hO hS => law_sp hO hS (hl ns hlen)) fun _ _ _ _ _ z => z
  obtain ⟨t1, t2, t3⟩ := T w mg h KX GX
  obtain ⟨fa0, fd, h1, h2, h3, h4⟩ := (t3 dl (List.mem_of_getElem? hi)).ex
  rw [hdn, hmg] at h1
  cases h1
  refine ⟨fd, fun s v => .of_eq ?_, fun base hb hbn => ?_⟩
  · have := h3 [v] (by rw [hp]; rfl)
    rw [hp] at this
    exact this
  · have := fns_ok (P := l.prog) (w := w) (base := base) t1 t2 t3 hk k i dl hi fa fd h4
    rw [hp] at this
    exact this
end MP
set_option Elab.async false
set_option linter.all false
set_option maxRecDepth 100000
set_option maxHeartbeats 4000000
/-! Reasoning about meanings: no program in sight. -/
namespace MP
open PySem L2

structure Holds {α : Type} (r : Rs α) (Q : α → Sto → Prop) : Prop where
  ex : ∃ a S, r = .ok a S ∧ Q a S
section
variable {α β : Type} {Q Q' : α → Sto → Prop}
theorem Holds.get {a : α} {S : Sto} (h : Holds (.ok a S) Q) : Q a S := by
  obtain ⟨_, _, e, q⟩ := h.ex
  cases e
  exact q
theorem Holds.ff (h : Holds (.no : Rs α) Q) : False := by
  obtain ⟨_, _, e, _⟩ := h.ex
  cases e
theorem Holds.fx {x : Exn} {S : Sto} (h : Holds (.ex x S : Rs α) Q) : False := by
  obtain ⟨_, _, e, _⟩ := h.ex
  cases e
@[simp] theorem holds_ok {a : α} {S : Sto} : Holds (.ok a S) Q ↔ Q a S := ⟨Holds.get, fun q => ⟨_, _, rfl, q⟩⟩
@[simp] theorem holds_no : Holds (.no : Rs α) Q ↔ False := ⟨Holds.ff, False.elim⟩
@[simp] theorem holds_ex {x : Exn} {S : Sto} : Holds (.ex x S : Rs α) Q ↔ False := ⟨Holds.fx, False.elim⟩
@[simp] theorem holds_bind {r : Rs α} {f : α → Sto → Rs β} {R : β → Sto → Prop} : Holds (r.bind f) R ↔ Holds r fun a S => Holds (f a S) R := by
  cases r with
  | ok a S => exact Iff.symm (holds_ok (Q := fun a S => Holds (f a S) R))
  | ex x S => rw [Rs.bind_ex, holds_ex, holds_ex]
  | no => rw [Rs.bind_no, holds_no, holds_no]
theorem Holds.hide {r : Rs α} (h : ∀ R : α → Sto → Prop, R = Q → Holds r R) : Holds r Q := h Q rfl
theorem Holds.imp {r : Rs α} (h : Holds r Q) (i : ∀ a S, Q a S → Q' a S) : Holds r Q' := by
  obtain ⟨a, S, e, q⟩ := h.ex
  exact ⟨a, S, e, i a S q⟩
@[simp] theorem holds_ite {c : Prop} [Decidable c] {r r' : Rs α} : Holds (if c then r else r') Q ↔ (c → Holds r Q) ∧ (¬c → Holds r' Q) := by
  by_cases h : c <;> simp [h]
theorem holds_ifW {b : Bool} {r r' : Rs α} : Holds (ifW (.dat (.bool b)) r r') Q ↔ (b = true → Holds r Q) ∧ (b = false → Holds r' Q) := by
  cases b <;> simp [ifW]
@[simp] theorem ifW_t {r r' : Rs α} : ifW (.dat (.bool true)) r r' = r := rfl
@[simp] theorem ifW_f {r r' : Rs α} : ifW (.dat (.bool false)) r r' = r' := rfl
theorem holds_ex1 {r : Rs W} {d : W} (h : Holds r fun w _ => w = d) : ∃ S, r = .ok d S := by
  obtain ⟨a, S, e, q⟩ := h.ex
  exact ⟨S, by rw [e, show a = d from q]⟩
end
/-! ### operators of known data -/
section
variable {S : Sto} {i j k : Int} {b c : Bool} {s t : Str} {xs ys : List D} {d : D} {p : Nat}
@[simp] theorem rdD_dat : rdD S (.dat d) = some d := rfl
@[simp] theorem rdC_dat : rdC S (.dat d) = some d := rfl
@[simp] theorem rdC_cst : rdC S (.cst xs) = some (.tuple xs) := rfl
@[simp] theorem rdC_obj : rdC S (.obj p) = obD S[p]? := rfl
@[simp] theorem rdD_obj : rdD S (.obj p) = obD S[p]? := rfl
@[simp] theorem obD_lst : obD (some (.lst xs)) = some (.list xs) := rfl
@[simp] theorem rdDs_nil : rdDs S [] = some [] := rfl
theorem binW_d {op : BO} {x y : D} : binW S op (.dat x) (.dat y) = optD (binD op x y) S := rfl
@[simp] theorem bin_add : binW S .add (.dat (.int i)) (.dat (.int j)) = .ok (.dat (.int (i + j))) S := rfl
@[simp] theorem bin_sub : binW S .sub (.dat (.int i)) (.dat (.int j)) = .ok (.dat (.int (i - j))) S := rfl
@[simp] theorem bin_mul : binW S .mul (.dat (.int i)) (.dat (.int j)) = if mulOk i j then .ok (.dat (.int (i * j))) S else .no := by
  rw [binW_d]; show optD (if mulOk i j then _ else _) S = _; split <;> rfl
@[simp] theorem bin_div : binW S .fdiv (.dat (.int i)) (.dat (.int j)) = if divOk j then .ok (.dat (.int (i / j))) S else .no := by
  rw [binW_d]; show optD (if divOk j then _ else _) S = _; split <;> rfl
@[simp] theorem bin_mod : binW S .mod (.dat (.int i)) (.dat (.int j)) = if 0 < j then .ok (.dat (.int (i % j))) S else .no := by
  rw [binW_d]; show optD (if 0 < j then _ else _) S = _; split <;> rfl
@[simp] theorem bin_shl : binW S .shl (.dat (.int i)) (.dat (.int j)) = if shlOk i j then .ok (.dat (.int (i * 2 ^ j.toNat))) S else .no := by
  rw [binW_d]; show optD (if shlOk i j then _ else _) S = _; split <;> rfl
@[simp] theorem bin_shr : binW S .shr (.dat (.int i)) (.dat (.int j)) = if 0 ≤ j then .ok (.dat (.int (i / 2 ^ j.toNat))) S else .no := by
  rw [binW_d]; show optD (if 0 ≤ j then _ else _) S = _; split <;> rfl
@[simp] theorem bin_band : binW S .band (.dat (.int i)) (.dat (.int j)) = .ok (.dat (.int (Builtin.bitAnd i j))) S := rfl
@[simp] theorem bin_bor : binW S .bor (.dat (.int i)) (.dat (.int j)) = .ok (.dat (.int (Builtin.bitOr i j))) S := rfl
@[simp] theorem bin_bxor : binW S .bxor (.dat (.int i)) (.dat (.int j)) = .ok (.dat (.int (Builtin.bitXor i j))) S := rfl
@[simp] theorem bin_addT : binW S .add (.dat (.tuple xs)) (.dat (.tuple ys)) = if xs.length + ys.length ≤ sizeLine then .ok (.dat (.tuple (xs ++ ys))) S else .no := by
  rw [binW_d]; show optD (if _ then _ else _) S = _; split <;> rfl
@[simp] theorem bin_addL : binW S .add (.dat (.list xs)) (.dat (.list ys)) = if xs.length + ys.length ≤ sizeLine then .ok (.dat (.list (xs ++ ys))) S else .no := by
  rw [binW_d]; show optD (if _ then _ else _) S = _; split <;> rfl
@[simp] theorem bin_mulL : binW S .mul (.dat (.list xs)) (.dat (.int k)) = if repOk xs.length k then .ok (.dat (.list (List.replicate k.toNat xs).flatten)) S else .no := by
  rw [binW_d]; show optD (if _ then _ else _) S = _; split <;> rfl
theorem cmpW_d {op : CO} {x y : D} : cmpW S op (.dat x) (.dat y) = match cmpD op x y with | some c => .ok (.dat (.bool c)) S | none => .no := rfl
@[simp] theorem cmp_lt : cmpW S .lt (.dat (.int i)) (.dat (.int j)) = .ok (.dat (.bool (decide (i < j)))) S := rfl
@[simp] theorem cmp_le : cmpW S .le (.dat (.int i)) (.dat (.int j)) = .ok (.dat (.bool (decide (i ≤ j)))) S := rfl
@[simp] theorem cmp_gt : cmpW S .gt (.dat (.int i)) (.dat (.int j)) = .ok (.dat (.bool (decide (j < i)))) S := rfl
@[simp] theorem cmp_ge : cmpW S .ge (.dat (.int i)) (.dat (.int j)) = .ok (.dat (.bool (decide (j ≤ i)))) S := rfl
@[simp] theorem cmp_eqi : cmpW S .eq (.dat (.int i)) (.dat (.int j)) = .ok (.dat (.bool (decide (i = j)))) S := rfl
@[simp] theorem cmp_nei : cmpW S .ne (.dat (.int i)) (.dat (.int j)) = .ok (.dat (.bool (!decide (i = j)))) S := rfl
@[simp] theorem cmp_eqs : cmpW S .eq (.dat (.str s)) (.dat (.str t)) = .ok (.dat (.bool (decide (s = t)))) S := rfl
@[simp] theorem cmp_nes : cmpW S .ne (.dat (.str s)) (.dat (.str t)) = .ok (.dat (.bool (!decide (s = t)))) S := rfl
@[simp] theorem cmp_is : cmpW S .is (.dat d) (.dat .none) = .ok (.dat (.bool (isNone d))) S := rfl
@[simp] theorem cmp_isn : cmpW S .isn (.dat d) (.dat .none) = .ok (.dat (.bool (!isNone d))) S := rfl
theorem biW_dd {b : BI} {m : Bool} {d : D} : biW S b m [.dat d] = match biD b [d] with | some d => mk m d S | none => .no := by cases b <;> rfl
theorem biW_dd2 {b : BI} {m : Bool} {d e : D} : biW S b m [.dat d, .dat e] = match biD b [d, e] with | some d => mk m d S | none => .no := by cases b <;> rfl
theorem biW_o {m : Bool} {b : BI} : biW S b m [.obj p] = match obD S[p]? with | some d => (match biD b [d] with | some d => mk m d S | none => .no) | none => .no := by
  have e : biW S b m [.obj p] = biW0 S b m [.obj p] := by cases b <;> rfl
  rw [e]
  unfold biW0
  simp only [rdDs, rdC_obj]
  cases obD S[p]? <;> rfl
@[simp] theorem bi_len {m : Bool} : biW S .len false [.dat (.list xs)] = .ok (.dat (.int xs.length)) S := rfl
@[simp] theorem bi_lent {m : Bool} : biW S .len false [.dat (.tuple xs)] = .ok (.dat (.int xs.length)) S := rfl
@[simp] theorem bi_int : biW S .int false [.dat (.int i)] = .ok (.dat (.int i)) S := rfl
@[simp] theorem bi_abs : biW S .abs false [.dat (.int i)] = .ok (.dat (.int (if i < 0 then -i else i))) S := rfl
@[simp] theorem bi_min : biW S .min false [.dat (.int i), .dat (.int j)] = .ok (.dat (.int (if j < i then j else i))) S := rfl
@[simp] theorem bi_max : biW S .max false [.dat (.int i), .dat (.int j)] = .ok (.dat (.int (if j > i then j else i))) S := rfl
@[simp] theorem bi_tuple : biW S .tuple false [.dat (.list xs)] = .ok (.dat (.tuple xs)) S := rfl
@[simp] theorem bi_tuplet : biW S .tuple false [.dat (.tuple xs)] = .ok (.dat (.tuple xs)) S := rfl
@[simp] theorem bi_list : biW S .list false [.dat (.list xs)] = .ok (.dat (.list xs)) S := rfl
@[simp] theorem bi_listt : biW S .list false [.dat (.tuple xs)] = .ok (.dat (.list xs)) S := rfl
@[simp] theorem bi_listc : biW S .list false [.cst xs] = .ok (.dat (.list xs)) S := rfl
@[simp] theorem isi_d {T : Ty5} : isiW S T (.dat d) = .ok (.dat (.bool (isiD T d))) S := rfl
@[simp] theorem neg_d : negW (.dat (.int i)) S = .ok (.dat (.int (-i))) S := rfl
@[simp] theorem not_d : notW (.dat (.bool b)) S = .ok (.dat (.bool (!b))) S := rfl
@[simp] theorem bl_d : blW (.dat (.bool b)) S = .ok (.dat (.bool b)) S := rfl
@[simp] theorem bool_d : boolW (.dat (.bool b)) S = .ok b S := rfl
@[simp] theorem tru_b : truW S (.dat (.bool b)) = .ok (.dat (.bool b)) S := rfl
@[simp] theorem part_d : partW (.dat (.int i)) S = .ok (some i) S := rfl
@[simp] theorem dat_d : datW (.dat d) S = .ok (some d) S := rfl
@[simp] theorem mk_f : mk false d S = .ok (.dat d) S := rfl
@[simp] theorem mk_t : mk true (.list xs) S = .ok (.obj S.length) (S ++ [.lst xs]) := rfl
@[simp] theorem idx_l : idxW S (.dat (.list xs)) (.dat (.int i)) = optD (atI xs i) S := rfl
@[simp] theorem idx_t : idxW S (.dat (.tuple xs)) (.dat (.int i)) = optD (atI xs i) S := rfl
theorem idx_o {d : D} : idxW S (.obj p) (.dat d) = match obD S[p]? with | some x => optD (idxD x d) S | none => .no := by
  unfold idxW
  rw [rdC_obj]
  cases obD S[p]? <;> rfl
theorem set_o {v : W} {k : W} : setW S (.obj p) k v = match k, v with
  | .dat (.int k), .dat d => (match S[p]? with
    | some (.lst ds) => (match ixN ds.length k with
      | some j => .ok () (S.set p (.lst (ds.set j d)))
      | none => .no)
    | _ => .no)
  | _, _ => .no := by
  cases k with
  | dat k => cases v with
    | dat d => cases k <;> rfl
    | _ => cases k <;> rfl
  | _ => rfl
/-- a place that is written -/
@[simp] theorem at_0 {a : D} : atI (a :: xs) 0 = some a := by simp [atI, ixN]
theorem at_s {a : D} {n : Nat} : atI (a :: xs) ((n + 1 : Nat) : Int) = atI xs (n : Int) := by
  unfold atI ixN
  simp only [List.length_cons]
  by_cases h : n < xs.length
  · rw [if_pos (by omega), if_pos (by omega), if_pos (by omega), if_pos (by omega)]; simp
  · rw [if_pos (by omega), if_neg (by omega), if_pos (by omega), if_neg (by omega)]; rfl
@[simp] theorem at_1 {a b : D} : atI (a :: b :: xs) 1 = some b := (at_s (n := 0)).trans at_0
@[simp] theorem at_2 {a b c : D} : atI (a :: b :: c :: xs) 2 = some c := (at_s (n := 1)).trans at_1
@[simp] theorem at_3 {a b c d : D} : atI (a :: b :: c :: d :: xs) 3 = some d := (at_s (n := 2)).trans at_2
end
/-- an item at an open place: what all items fulfil -/
theorem at_in {xs : List D} {i : Int} (h0 : 0 ≤ i) (h1 : i < xs.length) : ∃ d, d ∈ xs ∧ atI xs i = some d := by
  obtain ⟨n, rfl⟩ : ∃ n : Nat, i = n := ⟨i.toNat, by omega⟩
  have hn : n < xs.length := by omega
  exact ⟨xs[n], List.getElem_mem hn, atI_nat (List.getElem?_eq_getElem hn)⟩
theorem log2_lt64 {n k : Nat} (h : n < 2 ^ k) (hk : 0 < k) : n.log2 < k := by
  by_cases hn : n = 0
  · subst hn; simpa using hk
  · exact (Nat.log2_lt hn).mpr h
theorem mulOk_s {i j : Int} (hi : i.natAbs < 2 ^ 64) (hj : j.natAbs < 2 ^ 64) : mulOk i j := by
  unfold mulOk
  have h1 := log2_lt64 hi (by decide)
  have h2 := log2_lt64 hj (by decide)
  omega
theorem divOk_s {j : Int} (h0 : 0 < j) (hj : j.natAbs < 2 ^ 64) : divOk j := ⟨h0, by have := log2_lt64 hj (by decide); omega⟩

/-! ### defs, blocks -/
section
variable {Q : W → Sto → Prop} {n : Nat} {l : Loc} {S : Sto} {w : W}
@[simp] theorem done_bind {r : Rs (Fl × Loc)} : Holds (doneFn n r) Q ↔ Holds r fun x S => Holds (doneFn n (.ok x S)) Q := by
  cases r with
  | ok a S => exact Iff.symm (holds_ok (Q := fun x S => Holds (doneFn n (.ok x S)) Q))
  | ex x S =>
    rw [holds_ex]
    refine ⟨fun h => ?_, fun h => h.elim⟩
    unfold doneFn at h
    dsimp only at h
    split at h
    · exact holds_ex.mp h
    · exact holds_no.mp h
  | no => exact Iff.trans holds_no holds_no.symm
@[simp] theorem done_ret : doneFn n (.ok (.ret w, l) S) = leave n w S := rfl
@[simp] theorem done_nx : doneFn n (.ok (.nx, l) S) = leave n (.dat .none) S := rfl
theorem leave_d {R : Sto} {d : D} (h : R.all (obBelow R.length) = true) : leave R.length (.dat d) R = .ok (.dat d) R := by
  unfold leave
  simp [keepN, h]
variable {f : Loc → Sto → Rs (Fl × Loc)}
@[simp] theorem seq_nx : seqR f (.nx, l) S = f l S := rfl
@[simp] theorem seq_ret : seqR f (.ret w, l) S = .ok (.ret w, l) S := rfl
@[simp] theorem seq_brk : seqR f (.brk, l) S = .ok (.brk, l) S := rfl
@[simp] theorem seq_ct : seqR f (.ct, l) S = .ok (.ct, l) S := rfl
end
/-! ### loops -/
theorem forL_inv {body : D → Loc → Sto → Rs (Fl × Loc)} {Q : Fl × Loc → Sto → Prop} (P : Loc → Sto → Prop) {ds : List D} : ∀ {l : Loc} {S : Sto}, P l S →
    (∀ d, d ∈ ds → ∀ l S, P l S → Holds (body d l S) fun r S' => match r.1 with
      | .nx => P r.2 S'
      | .ct => P r.2 S'
      | .brk => Q (.nx, r.2) S'
      | .ret w => Q (.ret w, r.2) S') → (∀ l S, P l S → Q (.nx, l) S) → Holds (forL body ds l S) Q := by
  induction ds with
  | nil => intro l S h _ e; exact holds_ok.mpr (e l S h)
  | cons d ds ih =>
    intro l S h st e
    show Holds ((body d l S).bind (loopR (forL body ds))) Q
    rw [holds_bind]
    refine (st d List.mem_cons_self l S h).imp fun r S1 q => ?_
    obtain ⟨f, l1⟩ := r
    cases f with
    | nx => exact ih q (fun d hd => st d (List.mem_cons_of_mem _ hd)) e
    | ct => exact ih q (fun d hd => st d (List.mem_cons_of_mem _ hd)) e
    | brk => exact holds_ok.mpr q
    | ret w => exact holds_ok.mpr q
/-- .. by the number of turns behind -/
theorem forL_idx {body : D → Loc → Sto → Rs (Fl × Loc)} {Q : Fl × Loc → Sto → Prop} (P : Nat → Loc → Sto → Prop) {ds : List D} {l : Loc} {S : Sto} (h0 : P 0 l S)
    (st : ∀ i d, ds[i]? = some d → ∀ l S, P i l S → Holds (body d l S) fun r S' => match r.1 with
      | .nx => P (i + 1) r.2 S'
      | .ct => P (i + 1) r.2 S'
      | .brk => Q (.nx, r.2) S'
      | .ret w => Q (.ret w, r.2) S') (e : ∀ l S, P ds.length l S → Q (.nx, l) S) : Holds (forL body ds l S) Q := by
  have gen : ∀ (es : List D) (k : Nat) (l : Loc) (S : Sto), k ≤ ds.length → ds.drop k = es → P k l S → Holds (forL body es l S) Q := by
    intro es
    induction es with
    | nil =>
      intro k l S hle hd h
      have hk : ds.length ≤ k := List.drop_eq_nil_iff.mp hd
      have hk' : k = ds.length := by omega
      exact holds_ok.mpr (e l S (hk' ▸ h))
    | cons d es ih =>
      intro k l S hle hd h
      have hk : ds[k]? = some d := by
        have : (ds.drop k)[0]? = some d := by rw [hd]; rfl
        simpa using this
      have hd' : ds.drop (k + 1) = es := by
        have : (ds.drop k).drop 1 = es := by rw [hd]; rfl
        rw [List.drop_drop] at this; exact this
      show Holds ((body d l S).bind (loopR (forL body es))) Q
      rw [holds_bind]
      refine (st k d hk l S h).imp fun r S1 q => ?_
      obtain ⟨f, l1⟩ := r
      cases f with
      | nx => exact ih (k + 1) l1 S1 (List.getElem?_eq_some_iff.mp hk).1 hd' q
      | ct => exact ih (k + 1) l1 S1 (List.getElem?_eq_some_iff.mp hk).1 hd' q
      | brk => exact holds_ok.mpr q
      | ret w => exact holds_ok.mpr q
  exact gen ds 0 l S (Nat.zero_le _) rfl h0

/-! ### the meaning, step by step: continuations by name -/
section
variable (G : Nat → Option W) (F : Fun')
def wpE (e : E) (l : Loc) (S : Sto) (Q : W → Sto → Prop) : Prop := Holds (ev G F e l S) Q
def wpO (e : E) (l : Loc) (S : Sto) (Q : Option Int → Sto → Prop) : Prop := Holds (evo G F e l S) Q
def wpT (e : E) (l : Loc) (S : Sto) (Q : Bool → Sto → Prop) : Prop := Holds (evt G F e l S) Q
def wpA (e : E) (l : Loc) (S : Sto) (Q : List W → Sto → Prop) : Prop := Holds (evs G F e l S) Q
def wpI (e : E) (l : Loc) (S : Sto) (Q : List D → Sto → Prop) : Prop := Holds (evi G F e l S) Q
def wpG (t : E) (w : W) (l : Loc) (S : Sto) (Q : Loc → Sto → Prop) : Prop := Holds (asg G F t w l S) Q
def wpGs (t : E) (ds : List D) (l : Loc) (S : Sto) (Q : Loc → Sto → Prop) : Prop := Holds (asgs G F t ds l S) Q
def wpS (s : St') (l : Loc) (S : Sto) (Q : Fl × Loc → Sto → Prop) : Prop := Holds (exM G F s l S) Q
def kF {α β : Type} (f : α → Sto → Rs β) (Q : β → Sto → Prop) : α → Sto → Prop := fun x S => Holds (f x S) Q
def kF2 {β : Type} (f : W → W → Sto → Rs β) (x : W) (Q : β → Sto → Prop) : W → Sto → Prop := fun y S => Holds (f x y S) Q
def kE2 {β : Type} (b : E) (l : Loc) (f : W → W → Sto → Rs β) (Q : β → Sto → Prop) : W → Sto → Prop := fun x S => wpE G F b l S (kF2 f x Q)
def kB2 {β : Type} (c : E) (l : Loc) (f : W → W → W → Sto → Rs β) (x : W) (Q : β → Sto → Prop) : W → Sto → Prop := fun y S => wpE G F c l S (kF2 (f x) y Q)
def kE3 {β : Type} (b c : E) (l : Loc) (f : W → W → W → Sto → Rs β) (Q : β → Sto → Prop) : W → Sto → Prop := fun x S => wpE G F b l S (kB2 G F c l f x Q)
def kAndE (b : E) (l : Loc) (Q : W → Sto → Prop) : W → Sto → Prop := fun x S => Holds (ifW x (ev G F b l S) (.ok (.dat (.bool false)) S)) Q
def kOrE (b : E) (l : Loc) (Q : W → Sto → Prop) : W → Sto → Prop := fun x S => Holds (ifW x (.ok (.dat (.bool true)) S) (ev G F b l S)) Q
def kIfE (a b : E) (l : Loc) (Q : W → Sto → Prop) : W → Sto → Prop := fun x S => Holds (ifW x (ev G F a l S) (ev G F b l S)) Q
def kA2 (w : W) (Q : List W → Sto → Prop) : List W → Sto → Prop := fun ws S => Holds (.ok (w :: ws) S) Q
def kA1 (es : E) (l : Loc) (Q : List W → Sto → Prop) : W → Sto → Prop := fun w S => wpA G F es l S (kA2 w Q)
def kSl3 (x : W) (i : Option Int) (Q : W → Sto → Prop) : Option Int → Sto → Prop := fun j S => Holds (slcW S x i j) Q
def kSl2 (hi : E) (l : Loc) (x : W) (Q : W → Sto → Prop) : Option Int → Sto → Prop := fun i S => wpO G F hi l S (kSl3 x i Q)
def kSl1 (lo hi : E) (l : Loc) (Q : W → Sto → Prop) : W → Sto → Prop := fun x S => wpO G F lo l S (kSl2 G F hi l x Q)
def kMt2 (m : MT) (x : W) (Q : W → Sto → Prop) : List W → Sto → Prop := fun ws S => Holds (mthW S m x ws) Q
def kMt1 (m : MT) (es : E) (l : Loc) (Q : W → Sto → Prop) : W → Sto → Prop := fun x S => wpA G F es l S (kMt2 m x Q)
def kMt0 (m : MT) (es : E) (l : Loc) (Q : W → Sto → Prop) : W → Sto → Prop := fun x S => Holds (recvW S x) (kMt1 G F m es l Q)
def compB (vs : List Nat) (elt tg tst : E) (l : Loc) (d : D) (S2 : Sto) : Rs (Option D) := (asg G F tg (.dat d) (wipeL l vs) S2).bind fun l2 S3 => (evt G F tst l2 S3).bind fun c S4 =>
        if c = true then (ev G F elt l2 S4).bind fun y S5 => datW y S5 else .ok none S4
def kMk (m : Bool) (Q : W → Sto → Prop) : List D → Sto → Prop := fun ys S => Holds (mk m (.list ys) S) Q
def kCompE (m : Bool) (vs : List Nat) (elt tg tst : E) (l : Loc) (Q : W → Sto → Prop) : List D → Sto → Prop := fun ds S => Holds (forC (compB G F vs elt tg tst l) ds [] S) (kMk m Q)
def kChnE (o1 o2 : CO) (b c : E) (l : Loc) (Q : W → Sto → Prop) : W → Sto → Prop := fun x S1 => Holds ((ev G F b l S1).bind fun y S2 => (cmpW S2 o1 x y).bind fun z S3 => ifW z ((ev G F c l S3).bind fun u S4 => cmpW S4 o2 y u) (.ok (.dat (.bool false)) S3)) Q
def kExprS (l : Loc) (Q : Fl × Loc → Sto → Prop) : W → Sto → Prop := fun _ S => Holds (.ok (.nx, l) S) Q
def kNx (Q : Fl × Loc → Sto → Prop) : Loc → Sto → Prop := fun l S => Holds (.ok (.nx, l) S) Q
def kSetS (t : E) (l : Loc) (Q : Fl × Loc → Sto → Prop) : W → Sto → Prop := fun w S => wpG G F t w l S (kNx Q)
def kParS (ks : List Nat) (l : Loc) (Q : Fl × Loc → Sto → Prop) : List W → Sto → Prop := fun ws S => Holds (opt (setPar l ks ws) S) (kNx Q)
def kAugS (k : Nat) (op : BO) (x : W) (l : Loc) (Q : Fl × Loc → Sto → Prop) : W → Sto → Prop := fun y S => Holds (augW S op x y) fun z S2 => Holds (.ok (.nx, l.set k (some z)) S2) Q
def kIfS (a b : St') (l : Loc) (Q : Fl × Loc → Sto → Prop) : W → Sto → Prop := fun x S => Holds (ifW x (exM G F a l S) (exM G F b l S)) Q
def forB (tg : E) (b : St') (d : D) (l : Loc) (S : Sto) : Rs (Fl × Loc) := (asg G F tg (.dat d) l S).bind fun l3 S3 => exM G F b l3 S3
def kForS (tg : E) (b : St') (l : Loc) (Q : Fl × Loc → Sto → Prop) : List D → Sto → Prop := fun ds S => Holds (forL (forB G F tg b) ds l S) Q
def kBody (b : St') (Q : Fl × Loc → Sto → Prop) : Loc → Sto → Prop := fun l S => wpS G F b l S Q
def kRetS (l : Loc) (Q : Fl × Loc → Sto → Prop) : W → Sto → Prop := fun w S => Holds (.ok (.ret w, l) S) Q
def kSeq (r : St') (Q : Fl × Loc → Sto → Prop) : Fl × Loc → Sto → Prop := fun x S => Holds (seqR (exM G F r) x S) Q
def kDone (n : Nat) (Q : W → Sto → Prop) : Fl × Loc → Sto → Prop := fun x S => Holds (doneFn n (.ok x S)) Q
def kSub2 (x : W) (w : W) (l : Loc) (Q : Loc → Sto → Prop) : W → Sto → Prop := fun y S => Holds (setW S x y w) fun _ S3 => Holds (.ok l S3) Q
def kSub1 (i : E) (w : W) (l : Loc) (Q : Loc → Sto → Prop) : W → Sto → Prop := fun x S => wpE G F i l S (kSub2 x w l Q)
def kGs (ts : E) (ds : List D) (Q : Loc → Sto → Prop) : Loc → Sto → Prop := fun l S => wpGs G F ts ds l S Q
end
section
variable {G : Nat → Option W} {F : Fun'} {l : Loc} {S : Sto} {Q : W → Sto → Prop} {R : Fl × Loc → Sto → Prop} {a b c e es t i tg it elt tst lo hi : E} {x y w : W} {ws : List W} {k n : Nat} {m bb : Bool} {d : D} {ds : List D} {r : St'}
theorem hb {α β : Type} {r : Rs α} {f : α → Sto → Rs β} {R : β → Sto → Prop} : Holds (r.bind f) R = Holds r fun a S => Holds (f a S) R := propext holds_bind
theorem hb2 {α β γ : Type} {r : Rs α} {f : α → Sto → Rs β} {g : α → β → Sto → Rs γ} {R : γ → Sto → Prop} : Holds (r.bind fun x S => (f x S).bind (g x)) R = Holds r fun x S => Holds (f x S) fun y S => Holds (g x y S) R := by simp only [hb]
theorem hb3 {α β γ δ : Type} {r : Rs α} {f : α → Sto → Rs β} {g : α → β → Sto → Rs γ} {k : α → β → γ → Sto → Rs δ} {R : δ → Sto → Prop} : Holds (r.bind fun x S => (f x S).bind fun y S => (g x y S).bind (k x y)) R = Holds r fun x S => Holds (f x S) fun y S => Holds (g x y S) fun z S => Holds (k x y z S) R := by simp only [hb]
@[simp] theorem we_int {i : Int} : wpE G F (.int i) l S Q ↔ Q (.dat (.int i)) S := holds_ok
@[simp] theorem we_bl {i : Bool} : wpE G F (.bl i) l S Q ↔ Q (.dat (.bool i)) S := holds_ok
@[simp] theorem we_non : wpE G F .non l S Q ↔ Q (.dat .none) S := holds_ok
@[simp] theorem we_str {i : Str} : wpE G F (.str i) l S Q ↔ Q (.dat (.str i)) S := holds_ok
@[simp] theorem we_var : wpE G F (.var k) l S Q ↔ Holds (getV l k S) Q := Iff.rfl
@[simp] theorem getV_z {o : W} : getV (some o :: l) 0 S = .ok o S := rfl
@[simp] theorem getV_s {o : Option W} : getV (o :: l) (k + 1) S = getV l k S := rfl
@[simp] theorem we_glb : wpE G F (.glb k) l S Q ↔ Holds (opt (G k) S) Q := Iff.rfl
@[simp] theorem we_bin {op : BO} : wpE G F (.bin op a b) l S Q ↔ wpE G F a l S (kE2 G F b l (fun x y S => binW S op x y) Q) := Iff.of_eq hb2
@[simp] theorem we_neg : wpE G F (.neg a) l S Q ↔ wpE G F a l S (kF negW Q) := Iff.of_eq hb
@[simp] theorem we_cmp {op : CO} : wpE G F (.cmp op a b) l S Q ↔ wpE G F a l S (kE2 G F b l (fun x y S => cmpW S op x y) Q) := Iff.of_eq hb2
@[simp] theorem we_tcmp {op : CO} : wpE G F (.tcmp op a b) l S Q ↔ wpE G F a l S (kE2 G F b l (fun x y S => (cmpW S op x y).bind blW) Q) := by
  show Holds (Rs.bind (Rs.bind _ fun x S1 => Rs.bind _ _) _) Q ↔ _
  rw [hb, hb2]
  unfold kE2 kF2 wpE
  simp only [hb]
@[simp] theorem we_and : wpE G F (.and a b) l S Q ↔ wpE G F a l S (kAndE G F b l Q) := Iff.of_eq hb
@[simp] theorem we_tand : wpE G F (.tand a b) l S Q ↔ wpE G F a l S (kAndE G F b l Q) := Iff.of_eq hb
@[simp] theorem we_or : wpE G F (.or a b) l S Q ↔ wpE G F a l S (kOrE G F b l Q) := Iff.of_eq hb
@[simp] theorem we_tor : wpE G F (.tor a b) l S Q ↔ wpE G F a l S (kOrE G F b l Q) := Iff.of_eq hb
@[simp] theorem we_not : wpE G F (.not a) l S Q ↔ wpE G F a l S (kF notW Q) := Iff.of_eq hb
@[simp] theorem we_tnot : wpE G F (.tnot a) l S Q ↔ wpE G F a l S (kF notW Q) := Iff.of_eq hb
@[simp] theorem we_tv : wpE G F (.tv a) l S Q ↔ wpE G F a l S (kF (fun x S => truW S x) Q) := Iff.of_eq hb
@[simp] theorem we_one : wpE G F (.one a) l S Q ↔ wpE G F a l S Q := Iff.rfl
@[simp] theorem we_ifx : wpE G F (.ifx t a b) l S Q ↔ wpE G F t l S (kIfE G F a b l Q) := Iff.of_eq hb
@[simp] theorem we_chn {o1 o2 : CO} : wpE G F (.chn o1 o2 a b c) l S Q ↔ wpE G F a l S (kChnE G F o1 o2 b c l Q) := Iff.of_eq hb
@[simp] theorem we_tup : wpE G F (.tup es) l S Q ↔ wpA G F es l S (kF tupW Q) := Iff.of_eq hb
@[simp] theorem we_lst : wpE G F (.lst m es) l S Q ↔ wpA G F es l S (kF (lstW m) Q) := Iff.of_eq hb
@[simp] theorem we_idx : wpE G F (.idx a b) l S Q ↔ wpE G F a l S (kE2 G F b l (fun x y S => idxW S x y) Q) := Iff.of_eq hb2
@[simp] theorem we_slc : wpE G F (.slc a lo hi) l S Q ↔ wpE G F a l S (kSl1 G F lo hi l Q) := Iff.of_eq hb3
@[simp] theorem we_call : wpE G F (.call k es) l S Q ↔ wpA G F es l S (kF (F k) Q) := Iff.of_eq hb
@[simp] theorem we_bi {f : BI} : wpE G F (.bi f m es) l S Q ↔ wpA G F es l S (kF (fun ws S => biW S f m ws) Q) := Iff.of_eq hb
@[simp] theorem we_isi {T : Ty5} : wpE G F (.isi T a) l S Q ↔ wpE G F a l S (kF (fun x S => isiW S T x) Q) := Iff.of_eq hb
@[simp] theorem we_mth {m : MT} : wpE G F (.mth m a es) l S Q ↔ wpE G F a l S (kMt0 G F m es l Q) := Iff.of_eq hb3
@[simp] theorem we_trev : wpE G F (.trev a) l S Q ↔ wpE G F a l S (kF revW Q) := Iff.of_eq hb
@[simp] theorem we_comp {vs : List Nat} : wpE G F (.comp m vs elt tg it tst) l S Q ↔ wpI G F it l S (kCompE G F m vs elt tg tst l Q) := Iff.of_eq hb2
@[simp] theorem kf_ap {α β : Type} {f : α → Sto → Rs β} {Q : β → Sto → Prop} {x : α} : kF f Q x S ↔ Holds (f x S) Q := Iff.rfl
@[simp] theorem kf2_ap {β : Type} {f : W → W → Sto → Rs β} {Q : β → Sto → Prop} : kF2 f x Q y S ↔ Holds (f x y S) Q := Iff.rfl
@[simp] theorem ke2_ap {β : Type} {f : W → W → Sto → Rs β} {Q : β → Sto → Prop} : kE2 G F b l f Q x S ↔ wpE G F b l S (kF2 f x Q) := Iff.rfl
@[simp] theorem ke3_ap {β : Type} {f : W → W → W → Sto → Rs β} {Q : β → Sto → Prop} : kE3 G F b c l f Q x S ↔ wpE G F b l S (kB2 G F c l f x Q) := Iff.rfl
@[simp] theorem kb2_ap {β : Type} {f : W → W → W → Sto → Rs β} {Q : β → Sto → Prop} : kB2 G F c l f x Q y S ↔ wpE G F c l S (kF2 (f x) y Q) := Iff.rfl
@[simp] theorem kand_t : kAndE G F b l Q (.dat (.bool true)) S ↔ wpE G F b l S Q := Iff.rfl
@[simp] theorem kand_f : kAndE G F b l Q (.dat (.bool false)) S ↔ Q (.dat (.bool false)) S := holds_ok
@[simp] theorem kor_f : kOrE G F b l Q (.dat (.bool false)) S ↔ wpE G F b l S Q := Iff.rfl
@[simp] theorem kor_t : kOrE G F b l Q (.dat (.bool true)) S ↔ Q (.dat (.bool true)) S := holds_ok
@[simp] theorem kif_t : kIfE G F a b l Q (.dat (.bool true)) S ↔ wpE G F a l S Q := Iff.rfl
@[simp] theorem kif_f : kIfE G F a b l Q (.dat (.bool false)) S ↔ wpE G F b l S Q := Iff.rfl
theorem kand_b (h1 : bb = true → wpE G F b l S Q) (h2 : bb = false → Q (.dat (.bool false)) S) : kAndE G F b l Q (.dat (.bool bb)) S := by cases bb <;> first | exact h1 rfl | exact h2 rfl | exact holds_ok.mpr (h1 rfl) | exact holds_ok.mpr (h2 rfl)
theorem kor_b (h1 : bb = true → Q (.dat (.bool true)) S) (h2 : bb = false → wpE G F b l S Q) : kOrE G F b l Q (.dat (.bool bb)) S := by cases bb <;> first | exact h1 rfl | exact h2 rfl | exact holds_ok.mpr (h1 rfl) | exact holds_ok.mpr (h2 rfl)
theorem kif_b (h1 : bb = true → wpE G F a l S Q) (h2 : bb = false → wpE G F b l S Q) : kIfE G F a b l Q (.dat (.bool bb)) S := by cases bb <;> first | exact h1 rfl | exact h2 rfl | exact holds_ok.mpr (h1 rfl) | exact holds_ok.mpr (h2 rfl)
@[simp] theorem wa_nil {Q : List W → Sto → Prop} : wpA G F .nil l S Q ↔ Q [] S := holds_ok
@[simp] theorem wa_cons {Q : List W → Sto → Prop} : wpA G F (.cons e es) l S Q ↔ wpE G F e l S (kA1 G F es l Q) := Iff.of_eq hb2
@[simp] theorem ka1_ap {Q : List W → Sto → Prop} : kA1 G F es l Q w S ↔ wpA G F es l S (kA2 w Q) := Iff.rfl
@[simp] theorem ka2_ap {Q : List W → Sto → Prop} : kA2 w Q ws S ↔ Q (w :: ws) S := holds_ok
@[simp] theorem wo_nil {Q : Option Int → Sto → Prop} : wpO G F .nil l S Q ↔ Q none S := holds_ok
@[simp] theorem wo_cons {Q : Option Int → Sto → Prop} : wpO G F (.cons e es) l S Q ↔ wpE G F e l S (kF partW Q) := Iff.of_eq hb
@[simp] theorem ksl1_ap : kSl1 G F lo hi l Q x S ↔ wpO G F lo l S (kSl2 G F hi l x Q) := Iff.rfl
@[simp] theorem ksl2_ap {i : Option Int} : kSl2 G F hi l x Q i S ↔ wpO G F hi l S (kSl3 x i Q) := Iff.rfl
@[simp] theorem ksl3_ap {i j : Option Int} : kSl3 x i Q j S ↔ Holds (slcW S x i j) Q := Iff.rfl
@[simp] theorem kmt0_ap {m : MT} : kMt0 G F m es l Q x S ↔ Holds (recvW S x) (kMt1 G F m es l Q) := Iff.rfl
@[simp] theorem kmt1_ap {m : MT} : kMt1 G F m es l Q x S ↔ wpA G F es l S (kMt2 m x Q) := Iff.rfl
@[simp] theorem kmt2_ap {m : MT} : kMt2 m x Q ws S ↔ Holds (mthW S m x ws) Q := Iff.rfl
@[simp] theorem kcomp_ap {vs : List Nat} : kCompE G F m vs elt tg tst l Q ds S ↔ Holds (forC (compB G F vs elt tg tst l) ds [] S) (kMk m Q) := Iff.rfl
@[simp] theorem kmk_ap : kMk m Q ds S ↔ Holds (mk m (.list ds) S) Q := Iff.rfl
def kCmpI (elt : E) (Q : Option D → Sto → Prop) (l2 : Loc) : Bool → Sto → Prop := fun c S4 => Holds (if c = true then (ev G F elt l2 S4).bind fun y S5 => datW y S5 else .ok none S4) Q
@[simp] theorem kcmpi_t {Q : Option D → Sto → Prop} : kCmpI (G := G) (F := F) elt Q l true S ↔ wpE G F elt l S (kF datW Q) := by
  show Holds (if true = true then _ else _) Q ↔ _
  rw [if_pos rfl, hb]; rfl
@[simp] theorem kcmpi_f {Q : Option D → Sto → Prop} : kCmpI (G := G) (F := F) elt Q l false S ↔ Q none S := holds_ok
def kCmpT (elt tst : E) (Q : Option D → Sto → Prop) : Loc → Sto → Prop := fun l2 S3 => wpT G F tst l2 S3 (kCmpI (G := G) (F := F) elt Q l2)
@[simp] theorem kcmpt_ap {Q : Option D → Sto → Prop} : kCmpT (G := G) (F := F) elt tst Q l S ↔ wpT G F tst l S (kCmpI (G := G) (F := F) elt Q l) := Iff.rfl
theorem comp_ap {vs : List Nat} {Q : Option D → Sto → Prop} : Holds (compB G F vs elt tg tst l d S) Q ↔ wpG G F tg (.dat d) (wipeL l vs) S (kCmpT (G := G) (F := F) elt tst Q) := Iff.of_eq hb2
@[simp] theorem wt_nil {Q : Bool → Sto → Prop} : wpT G F .nil l S Q ↔ Q true S := holds_ok
@[simp] theorem wt_cons {Q : Bool → Sto → Prop} : wpT G F (.cons e es) l S Q ↔ wpE G F e l S (kF boolW Q) := Iff.of_eq hb
@[simp] theorem wi_isq {Q : List D → Sto → Prop} : wpI G F (.isq e) l S Q ↔ wpE G F e l S (kF seqW Q) := Iff.of_eq hb
@[simp] theorem wi_irev {Q : List D → Sto → Prop} : wpI G F (.irev e) l S Q ↔ wpE G F e l S (kF irevW Q) := Iff.of_eq hb
@[simp] theorem wi_r1 {Q : List D → Sto → Prop} : wpI G F (.irg1 a) l S Q ↔ wpE G F a l S (kF rng1W Q) := Iff.of_eq hb
@[simp] theorem wi_r2 {Q : List D → Sto → Prop} : wpI G F (.irg2 a b) l S Q ↔ wpE G F a l S (kE2 G F b l rng2W Q) := Iff.of_eq hb2
@[simp] theorem wi_r3 {Q : List D → Sto → Prop} : wpI G F (.irg3 a b c) l S Q ↔ wpE G F a l S (kE3 G F b c l rng3W Q) := Iff.of_eq hb3
@[simp] theorem wg_nm {Q : Loc → Sto → Prop} : wpG G F (.tnm k) w l S Q ↔ Q (l.set k (some w)) S := holds_ok
@[simp] theorem wg_sub {Q : Loc → Sto → Prop} : wpG G F (.tsub a i) w l S Q ↔ wpE G F a l S (kSub1 G F i w l Q) := Iff.of_eq hb3
@[simp] theorem ksub1_ap {Q : Loc → Sto → Prop} : kSub1 G F i w l Q x S ↔ wpE G F i l S (kSub2 x w l Q) := Iff.rfl
@[simp] theorem ksub2_ap {Q : Loc → Sto → Prop} : kSub2 x w l Q y S ↔ Holds (setW S x y w) fun _ S3 => Holds (.ok l S3) Q := Iff.rfl
theorem wg_tup {ts : E} {Q : Loc → Sto → Prop} : wpG G F (.ttup ts) (.dat (.tuple ds)) l S Q ↔ ds.length = elen ts ∧ wpGs G F ts ds l S Q := by
  show Holds (if ds.length = elen ts then _ else _) Q ↔ _
  split
  · rename_i h; exact ⟨fun q => ⟨h, q⟩, fun q => q.2⟩
  · rename_i h; exact ⟨fun q => q.ff.elim, fun q => (h q.1).elim⟩
@[simp] theorem wgs_nil {Q : Loc → Sto → Prop} : wpGs G F .nil [] l S Q ↔ Q l S := holds_ok
@[simp] theorem wgs_cons {ts : E} {Q : Loc → Sto → Prop} : wpGs G F (.cons t ts) (d :: ds) l S Q ↔ wpG G F t (.dat d) l S (kGs G F ts ds Q) := by
  show Holds ((asg G F t (.dat d) l S).bind fun l1 S1 => asgs G F ts ds l1 S1) Q ↔ _
  rw [hb]; rfl
@[simp] theorem kgs_ap {ts : E} {Q : Loc → Sto → Prop} : kGs G F ts ds Q l S ↔ wpGs G F ts ds l S Q := Iff.rfl
variable {s u v : St'}
@[simp] theorem ws_expr : wpS G F (.expr e) l S R ↔ wpE G F e l S (kExprS l R) := Iff.of_eq hb
@[simp] theorem kexprs_ap : kExprS l R w S ↔ R (.nx, l) S := holds_ok
@[simp] theorem ws_set : wpS G F (.set t e) l S R ↔ wpE G F e l S (kSetS G F t l R) := Iff.of_eq hb2
@[simp] theorem ksets_ap : kSetS G F t l R w S ↔ wpG G F t w l S (kNx R) := Iff.rfl
@[simp] theorem knx_ap : kNx R l S ↔ R (.nx, l) S := holds_ok
@[simp] theorem ws_par {ks : List Nat} : wpS G F (.par ks es) l S R ↔ wpA G F es l S (kParS ks l R) := Iff.of_eq hb2
@[simp] theorem kpars_ap {ks : List Nat} : kParS ks l R ws S ↔ Holds (opt (setPar l ks ws) S) (kNx R) := Iff.rfl
@[simp] theorem ws_cond : wpS G F (.cond t u v) l S R ↔ wpE G F t l S (kIfS G F u v l R) := Iff.of_eq hb
@[simp] theorem kifs_t : kIfS G F u v l R (.dat (.bool true)) S ↔ wpS G F u l S R := Iff.rfl
@[simp] theorem kifs_f : kIfS G F u v l R (.dat (.bool false)) S ↔ wpS G F v l S R := Iff.rfl
theorem kifs_b (h1 : bb = true → wpS G F u l S R) (h2 : bb = false → wpS G F v l S R) : kIfS G F u v l R (.dat (.bool bb)) S := by cases bb <;> first | exact h1 rfl | exact h2 rfl | exact holds_ok.mpr (h1 rfl) | exact holds_ok.mpr (h2 rfl)
@[simp] theorem ws_for : wpS G F (.for tg it r) l S R ↔ wpI G F it l S (kForS G F tg r l R) := Iff.of_eq hb
@[simp] theorem kfors_ap : kForS G F tg r l R ds S ↔ Holds (forL (forB G F tg r) ds l S) R := Iff.rfl
theorem forB_ap : Holds (forB G F tg r d l S) R ↔ wpG G F tg (.dat d) l S (kBody G F r R) := by unfold forB; rw [hb]; rfl
@[simp] theorem kbody_ap : kBody G F r R l S ↔ wpS G F r l S R := Iff.rfl
@[simp] theorem ws_ret : wpS G F (.ret e) l S R ↔ wpE G F e l S (kRetS l R) := Iff.of_eq hb
@[simp] theorem krets_ap : kRetS l R w S ↔ R (.ret w, l) S := holds_ok
@[simp] theorem ws_retN : wpS G F .retN l S R ↔ R (.ret (.dat .none), l) S := holds_ok
@[simp] theorem ws_brk : wpS G F .brk l S R ↔ R (.brk, l) S := holds_ok
@[simp] theorem ws_ct : wpS G F .ct l S R ↔ R (.ct, l) S := holds_ok
@[simp] theorem ws_pass : wpS G F .pass l S R ↔ R (.nx, l) S := holds_ok
@[simp] theorem wS_nil : wpS G F .nil l S R ↔ R (.nx, l) S := holds_ok
@[simp] theorem ws_frz : wpS G F (.frz k) l S R ↔ Holds (getV l k S) (kF (fun x S => frzW l k S x) R) := Iff.of_eq hb
@[simp] theorem ws_cons : wpS G F (.cons s r) l S R ↔ wpS G F s l S (kSeq G F r R) := Iff.of_eq hb
@[simp] theorem ws_whl : wpS G F (.whl t r) l S R ↔ Holds (whlL (ev G F t) (exM G F r) whlFuel l S) R := Iff.rfl
@[simp] theorem kseq_nx : kSeq G F r R (.nx, l) S ↔ wpS G F r l S R := Iff.rfl
@[simp] theorem kseq_ret : kSeq G F r R (.ret w, l) S ↔ R (.ret w, l) S := holds_ok
@[simp] theorem kseq_brk : kSeq G F r R (.brk, l) S ↔ R (.brk, l) S := holds_ok
@[simp] theorem kseq_ct : kSeq G F r R (.ct, l) S ↔ R (.ct, l) S := holds_ok
@[simp] theorem kdone_ret : kDone n Q (.ret w, l) S ↔ Holds (leave n w S) Q := Iff.rfl
@[simp] theorem kdone_nx : kDone n Q (.nx, l) S ↔ Holds (leave n (.dat .none) S) Q := Iff.rfl
theorem call_def {ft : Nat → Option Fn} {f : Nat} {fn : Fn} (h1 : ft f = some fn) (h2 : ws.length = fn.np) (h : wpS G (callM G ft n) fn.body (start' ws fn.nn) S (kDone S.length Q)) : Holds (callM G ft (n + 1) f ws S) Q := by
  unfold callM
  rw [h1]
  simp only [h2, if_true]
  rw [done_bind]
  exact h
theorem kifs_cut (M : Fl × Loc → Sto → Prop) (h : kIfS G F u v l M x S) (i : ∀ y S, M y S → R y S) : kIfS G F u v l R x S := Holds.imp h i
theorem ws_cut (M : Fl × Loc → Sto → Prop) (h : wpS G F s l S M) (i : ∀ y S, M y S → R y S) : wpS G F s l S R := Holds.imp h i
theorem we_cut (M : W → Sto → Prop) (h : wpE G F e l S M) (i : ∀ y S, M y S → Q y S) : wpE G F e l S Q := Holds.imp h i
end
/-! ### the first object -/
section
variable {ds : List D} {R : Sto} {i : Int} {d : D}
@[simp] theorem idx_o0 : idxW (.lst ds :: R) (.obj 0) (.dat (.int i)) = optD (atI ds i) (.lst ds :: R) := by rw [idx_o]; rfl
@[simp] theorem set_o0 : setW (.lst ds :: R) (.obj 0) (.dat (.int i)) (.dat d) = match ixN ds.length i with | some j => .ok () (.lst (ds.set j d) :: R) | none => .no := by rw [set_o]; rfl
@[simp] theorem ix4_0 : ixN 4 0 = some 0 := by decide
@[simp] theorem ix4_1 : ixN 4 1 = some 1 := by decide
@[simp] theorem ix4_2 : ixN 4 2 = some 2 := by decide
@[simp] theorem ix4_3 : ixN 4 3 = some 3 := by decide
/-- older objects mean nothing that is newer -/
def Cl (R : Sto) : Prop := ∀ n, R.length + 1 ≤ n → R.all (obBelow n) = true
theorem leave_0 {n : Nat} {d : D} (hn : n = R.length + 1) (h : Cl R) : leave n (.dat d) (.lst ds :: R) = .ok (.dat d) (.lst ds :: R) := by
  subst hn
  have := h (R.length + 1) (Nat.le_refl _)
  unfold leave
  simp [keepN, this, obBelow]
end
/-! ### comprehensions -/
theorem forC_idx {body : D → Sto → Rs (Option D)} {Q : List D → Sto → Prop} (P : Nat → List D → Sto → Prop) {ds acc : List D} {S : Sto} (h0 : P 0 acc S)
    (st : ∀ i d, ds[i]? = some d → ∀ acc S, P i acc S → Holds (body d S) fun r S' => match r with
      | some y => acc.length < sizeLine ∧ P (i + 1) (acc ++ [y]) S'
      | none => P (i + 1) acc S') (e : ∀ acc S, P ds.length acc S → Q acc S) : Holds (forC body ds acc S) Q := by
  have gen : ∀ (es : List D) (k : Nat) (acc : List D) (S : Sto), k ≤ ds.length → ds.drop k = es → P k acc S → Holds (forC body es acc S) Q := by
    intro es
    induction es with
    | nil =>
      intro k acc S hle hd h
      have hk : ds.length ≤ k := List.drop_eq_nil_iff.mp hd
      have hk' : k = ds.length := by omega
      exact holds_ok.mpr (e acc S (hk' ▸ h))
    | cons d es ih =>
      intro k acc S hle hd h
      have hk : ds[k]? = some d := by
        have : (ds.drop k)[0]? = some d := by rw [hd]; rfl
        simpa using this
      have hd' : ds.drop (k + 1) = es := by
        have : (ds.drop k).drop 1 = es := by rw [hd]; rfl
        rw [List.drop_drop] at this; exact this
      have hl := (List.getElem?_eq_some_iff.mp hk).1
      show Holds ((body d S).bind fun r S1 => match r with
        | some y => if acc.length < sizeLine then forC body es (acc ++ [y]) S1 else .no
        | none => forC body es acc S1) Q
      rw [hb]
      refine (st k d hk acc S h).imp fun r S1 q => ?_
      cases r with
      | none => exact ih (k + 1) acc S1 hl hd' q
      | some y =>
        show Holds (if acc.length < sizeLine then _ else _) Q
        rw [if_pos q.1]
        exact ih (k + 1) (acc ++ [y]) S1 hl hd' q.2
  exact gen ds 0 acc S (Nat.zero_le _) rfl h0
/-- every item made into one -/
theorem forC_all {body : D → Sto → Rs (Option D)} {Q : List D → Sto → Prop} (P : D → Prop) {ds : List D} {S : Sto} (hl : ds.length ≤ sizeLine)
    (st : ∀ d, d ∈ ds → Holds (body d S) fun r S' => S' = S ∧ ∃ y, r = some y ∧ P y) (e : ∀ ys, ys.length = ds.length → (∀ y, y ∈ ys → P y) → Q ys S) : Holds (forC body ds [] S) Q := by
  refine forC_idx (fun i acc S' => S' = S ∧ acc.length = i ∧ i ≤ ds.length ∧ ∀ y, y ∈ acc → P y) ⟨rfl, rfl, Nat.zero_le _, fun y h => absurd h (by simp)⟩ ?_ ?_
  · rintro i d hd acc S' ⟨rfl, rfl, hle, ha⟩
    have hlt := (List.getElem?_eq_some_iff.mp hd).1
    refine (st d (List.mem_of_getElem? hd)).imp ?_
    rintro r S1 ⟨rfl, y, rfl, hy⟩
    refine ⟨by omega, rfl, by simp, hlt, fun z hz => ?_⟩
    rcases List.mem_append.mp hz with hz | hz
    · exact ha z hz
    · rw [List.mem_singleton.mp hz]; exact hy
  · rintro acc S' ⟨rfl, h1, _, h2⟩
    exact e acc h1 h2
theorem forC_map {body : D → Sto → Rs (Option D)} {Q : List D → Sto → Prop} (g : D → D) {ds : List D} {S : Sto} (hl : ds.length ≤ sizeLine)
    (st : ∀ d, d ∈ ds → Holds (body d S) fun r S' => S' = S ∧ r = some (g d)) (e : Q (ds.map g) S) : Holds (forC body ds [] S) Q := by
  refine forC_idx (fun i acc S' => S' = S ∧ acc = (ds.take i).map g) ⟨rfl, by simp⟩ ?_ ?_
  · rintro i d hd acc S' ⟨rfl, rfl⟩
    have hlt := (List.getElem?_eq_some_iff.mp hd).1
    refine (st d (List.mem_of_getElem? hd)).imp ?_
    rintro r S1 ⟨rfl, rfl⟩
    refine ⟨by rw [List.length_map, List.length_take]; omega, rfl, ?_⟩
    rw [List.take_add_one, hd]; simp
  · rintro acc S' ⟨rfl, rfl⟩
    simpa using e
theorem ints_of : ∀ {ys : List D} {P : Int → Prop}, (∀ y, y ∈ ys → ∃ x, y = .int x ∧ P x) → ∃ xs : List Int, ys = xs.map .int ∧ ∀ x, x ∈ xs → P x
  | [], _, _ => ⟨[], rfl, fun _ h => absurd h (by simp)⟩
  | y :: ys, P, h => by
    obtain ⟨x, rfl, hx⟩ := h y List.mem_cons_self
    obtain ⟨xs, rfl, hxs⟩ := ints_of fun z hz => h z (List.mem_cons_of_mem _ hz)
    refine ⟨x :: xs, rfl, fun z hz => ?_⟩
    rcases List.mem_cons.mp hz with rfl | hz
    · exact hx
    · exact hxs z hz
@[simp] theorem seq_l {ds : List D} {S : Sto} : seqW (.dat (.list ds)) S = .ok ds S := rfl
@[simp] theorem seq_t {ds : List D} {S : Sto} : seqW (.dat (.tuple ds)) S = .ok ds S := rfl
@[simp] theorem seq_s {ds : List D} {S : Sto} : seqW (.scr ds) S = .ok ds S := rfl
@[simp] theorem seq_c {ds : List D} {S : Sto} : seqW (.cst ds) S = .ok ds S := rfl
theorem lst_w {m : Bool} {ws : List W} {ds : List D} {S : Sto} (h : dsOf ws = some ds) (hl : ds.length ≤ sizeLine) : lstW m ws S = mk m (.list ds) S := by
  unfold lstW
  rw [h]
  show (if ds.length ≤ sizeLine then _ else _) = _
  rw [if_pos hl]
theorem tup_w {ws : List W} {ds : List D} {S : Sto} (h : dsOf ws = some ds) (hl : ds.length ≤ sizeLine) : tupW ws S = .ok (.dat (.tuple ds)) S := by
  unfold tupW
  rw [h]
  show (if ds.length ≤ sizeLine then _ else _) = _
  rw [if_pos hl]
theorem small_len {n : Nat} (h : n ≤ 1000) : n ≤ sizeLine := Nat.le_trans h (by decide)
section
variable {S : Sto} {m : Bool} {a b c d e f g : D}
@[simp] theorem lst_0 : lstW m [] S = mk m (.list []) S := rfl
@[simp] theorem lst_1 : lstW m [.dat a] S = mk m (.list [a]) S := lst_w rfl (small_len (by simp))
@[simp] theorem lst_2 : lstW m [.dat a, .dat b] S = mk m (.list [a, b]) S := lst_w rfl (small_len (by simp))
@[simp] theorem lst_3 : lstW m [.dat a, .dat b, .dat c] S = mk m (.list [a, b, c]) S := lst_w rfl (small_len (by simp))
@[simp] theorem lst_4 : lstW m [.dat a, .dat b, .dat c, .dat d] S = mk m (.list [a, b, c, d]) S := lst_w rfl (small_len (by simp))
@[simp] theorem lst_5 : lstW m [.dat a, .dat b, .dat c, .dat d, .dat e] S = mk m (.list [a, b, c, d, e]) S := lst_w rfl (small_len (by simp))
@[simp] theorem lst_6 : lstW m [.dat a, .dat b, .dat c, .dat d, .dat e, .dat f] S = mk m (.list [a, b, c, d, e, f]) S := lst_w rfl (small_len (by simp))
@[simp] theorem lst_7 : lstW m [.dat a, .dat b, .dat c, .dat d, .dat e, .dat f, .dat g] S = mk m (.list [a, b, c, d, e, f, g]) S := lst_w rfl (small_len (by simp))
@[simp] theorem tup_0 : tupW [] S = .ok (.dat (.tuple [])) S := rfl
@[simp] theorem tup_1 : tupW [.dat a] S = .ok (.dat (.tuple [a])) S := tup_w rfl (small_len (by simp))
@[simp] theorem tup_2 : tupW [.dat a, .dat b] S = .ok (.dat (.tuple [a, b])) S := tup_w rfl (small_len (by simp))
@[simp] theorem tup_3 : tupW [.dat a, .dat b, .dat c] S = .ok (.dat (.tuple [a, b, c])) S := tup_w rfl (small_len (by simp))
@[simp] theorem tup_4 : tupW [.dat a, .dat b, .dat c, .dat d] S = .ok (.dat (.tuple [a, b, c, d])) S := tup_w rfl (small_len (by simp))
@[simp] theorem tup_5 : tupW [.dat a, .dat b, .dat c, .dat d, .dat e] S = .ok (.dat (.tuple [a, b, c, d, e])) S := tup_w rfl (small_len (by simp))
end
@[simp] theorem str_eq {a b : String} : ((Str.ofString a) = (Str.ofString b)) ↔ a = b := by
  refine ⟨fun h => ?_, fun h => by rw [h]⟩
  have h1 : (a.toList.map Char.toNat) = (b.toList.map Char.toNat) := by
    rw [Str.ofString_eq_toList, Str.ofString_eq_toList] at h
    have := congrArg (fun s : Str => s.cps.toList) h
    simpa using this
  have h2 : a.toList = b.toList := (List.map_inj_right (fun c d e => Char.ext (UInt32.toNat_inj.mp e))).mp h1
  exact String.ext h2
section
variable {S : Sto} {x : D} {ys : List D}
@[simp] theorem cmp_isin : cmpW S .isin (.dat x) (.dat (.list ys)) = if flatD x = true ∧ ys.all flatD = true then .ok (.dat (.bool (ys.any fun y => PyData.eqv y x))) S else .no := by
  rw [cmpW_d]; show (match inD x ys with | some c => _ | none => _) = _
  unfold inD; by_cases h : flatD x = true ∧ ys.all flatD = true <;> simp only [h, if_true, if_false] <;> rfl
@[simp] theorem cmp_isinT : cmpW S .isin (.dat x) (.dat (.tuple ys)) = if flatD x = true ∧ ys.all flatD = true then .ok (.dat (.bool (ys.any fun y => PyData.eqv y x))) S else .no := by
  rw [cmpW_d]; show (match inD x ys with | some c => _ | none => _) = _
  unfold inD; by_cases h : flatD x = true ∧ ys.all flatD = true <;> simp only [h, if_true, if_false] <;> rfl
@[simp] theorem flat_i {i : Int} : flatD (.int i) = true := rfl
@[simp] theorem flat_s {i : Str} : flatD (.str i) = true := rfl
@[simp] theorem flat_b {i : Bool} : flatD (.bool i) = true := rfl
@[simp] theorem flat_n : flatD .none = true := rfl
@[simp] theorem eqv_ss {a b : Str} : PyData.eqv (.str a) (.str b) = decide (a = b) := rfl
@[simp] theorem eqv_ii {a b : Int} : PyData.eqv (.int a) (.int b) = decide (a = b) := rfl
@[simp] theorem isi_1 {i : Int} : isiD .int (.int i) = true := rfl
@[simp] theorem isi_2 {i : Int} : isiD .bool (.int i) = false := rfl
@[simp] theorem isi_3 {i : Bool} : isiD .int (.bool i) = true := rfl
@[simp] theorem isi_4 {i : Bool} : isiD .bool (.bool i) = true := rfl
@[simp] theorem isi_5 {i : List D} : isiD .int (.list i) = false := rfl
@[simp] theorem isi_6 {i : List D} : isiD .int (.tuple i) = false := rfl
@[simp] theorem isi_7 {i : List D} : isiD .list (.list i) = true := rfl
@[simp] theorem isi_8 {i : List D} : isiD .list (.tuple i) = false := rfl
@[simp] theorem isi_9 {i : List D} : isiD .tuple (.tuple i) = true := rfl
@[simp] theorem isi_a {i : List D} : isiD .tuple (.list i) = false := rfl
@[simp] theorem isi_b {i : Str} : isiD .str (.str i) = true := rfl
@[simp] theorem isi_c {i : Str} : isiD .int (.str i) = false := rfl
@[simp] theorem isi_d' {i : Int} : isiD .str (.int i) = false := rfl
@[simp] theorem isi_e {i : Int} : isiD .tuple (.int i) = false := rfl
@[simp] theorem isi_f {i : Int} : isiD .list (.int i) = false := rfl
@[simp] theorem isi_g : isiD .int .none = false := rfl
@[simp] theorem isi_h : isiD .tuple .none = false := rfl
@[simp] theorem isi_i : isiD .list .none = false := rfl
end
/-- no object means one that is newer -/
def ClS (S : Sto) : Prop := ∀ n, S.length ≤ n → S.all (obBelow n) = true
theorem cls_cons {R : Sto} {ds : List D} (h : Cl R) : ClS (.lst ds :: R) := fun n hn => by
  have := h n (by simpa using hn)
  simp [obBelow, this]
theorem cl_nil : Cl [] := fun _ _ => rfl
theorem leave_same {n : Nat} {d : D} {S : Sto} (hn : n = S.length) (h : ClS S) : leave n (.dat d) S = .ok (.dat d) S := by
  subst hn
  have := h S.length (Nat.le_refl _)
  unfold leave
  simp [keepN, this]
/-- .. when the def made objects of its own -/
theorem leave_more {n : Nat} {d : D} {S T : Sto} (hn : n = S.length) (h : ClS S) : leave n (.dat d) (S ++ T) = .ok (.dat d) S := by
  subst hn
  have := h S.length (Nat.le_refl _)
  unfold leave
  simp [keepN, this]
theorem shl_1 {w : Nat} (h : w ≤ 1000000) : shlOk 1 w := ⟨by omega, by omega, by decide⟩
theorem pow_pos' (w : Nat) : (0 : Int) < 2 ^ w := Int.pow_pos (by decide)
theorem pow_le32 {w : Nat} (h : w ≤ 32) : (2 : Int) ^ w ≤ 4294967296 := by
  have : (2 : Int) ^ w ≤ 2 ^ 32 := by exact_mod_cast Nat.pow_le_pow_right (by decide : 0 < 2) h
  simpa using this
/-- exactly this -/
def IsQ {α : Type} (a : α) (S : Sto) : α → Sto → Prop := fun x S' => x = a ∧ S' = S
@[simp] theorem isq_ap {α : Type} {a x : α} {S S' : Sto} : IsQ a S x S' ↔ x = a ∧ S' = S := Iff.rfl
theorem is_eq {α : Type} {r : Rs α} {a : α} {S : Sto} (h : Holds r (IsQ a S)) : r = .ok a S := by
  obtain ⟨x, S', e, rfl, rfl⟩ := h.ex
  exact e
theorem lt_cast {x w : Nat} (h : x < 2 ^ w) (hw : w ≤ 32) : (x : Int) < 4294967296 := by
  have h2 : 2 ^ w ≤ 2 ^ 32 := Nat.pow_le_pow_right (by decide) hw
  have h3 : x < 4294967296 := Nat.lt_of_lt_of_le h h2
  omega
theorem rngH_len (lo c : Int) : ∀ n, (rng lo c n).length = n
  | 0 => rfl
  | n + 1 => by simp [rng, rngH_len (lo + c) c n]
theorem rngH_get {lo c : Int} : ∀ {n i : Nat} {d : D}, (rng lo c n)[i]? = some d → i < n ∧ d = .int (lo + i * c)
  | 0, i, d, h => by simp [rng] at h
  | n + 1, 0, d, h => by simp [rng] at h; exact ⟨by omega, by rw [← h]; simp⟩
  | n + 1, i + 1, d, h => by
    have := rngH_get (n := n) (i := i) (d := d) (lo := lo + c) (by simpa [rng] using h)
    refine ⟨by omega, ?_⟩
    rw [this.2]
    congr 1
    rw [Int.natCast_add, Int.add_mul]
    omega
@[simp] theorem rng1_d {i : Int} {S : Sto} : rng1W (.dat (.int i)) S = if smallI i = true then .ok (rng 0 1 i.toNat) S else .no := rfl
@[simp] theorem rng2_d {i j : Int} {S : Sto} : rng2W (.dat (.int i)) (.dat (.int j)) S = if smallI i = true ∧ smallI j = true then .ok (rng i 1 (j - i).toNat) S else .no := rfl
@[simp] theorem rng3_d {i j k : Int} {S : Sto} : rng3W (.dat (.int i)) (.dat (.int j)) (.dat (.int k)) S = if k = -1 ∧ smallI i = true ∧ smallI j = true then .ok (rng i (-1) (i - j).toNat) S else .no := rfl
theorem small_i {i : Int} (h0 : -1000000 ≤ i) (h1 : i ≤ 1000000) : smallI i = true := by
  unfold smallI
  rw [Bool.and_eq_true, decide_eq_true_eq, decide_eq_true_eq]
  omega
theorem at_all {xs : List D} {i : Int} (P : D → Prop) (h0 : 0 ≤ i) (h1 : i < xs.length) (h : ∀ d, d ∈ xs → P d) : ∃ d, P d ∧ atI xs i = some d := by
  obtain ⟨d, hd, e⟩ := at_in h0 h1
  exact ⟨d, h d hd, e⟩
theorem nat_of {i : Int} (h : 0 ≤ i) : ∃ n : Nat, i = n := ⟨i.toNat, by omega⟩
theorem holds_at {xs : List D} {i : Int} {S : Sto} {Q : W → Sto → Prop} (P : D → Prop) (h0 : 0 ≤ i) (h1 : i < xs.length) (h : ∀ d, d ∈ xs → P d) (k : ∀ d, P d → Q (.dat d) S) : Holds (optD (atI xs i) S) Q := by
  obtain ⟨d, hd, e⟩ := at_all P h0 h1 h
  rw [e]
  exact holds_ok.mpr (k d hd)
@[simp] theorem we_lrng {G : Nat → Option W} {F : Fun'} {m : Bool} {a : E} {l : Loc} {S : Sto} {Q : W → Sto → Prop} : wpE G F (.lrng m a) l S Q ↔ wpE G F a l S (kF (lrngW m) Q) := Iff.of_eq hb
@[simp] theorem lrng_d {m : Bool} {j : Int} {S : Sto} : lrngW m (.dat (.int j)) S = if smallI j = true ∧ j ≤ 1000000 then mk m (.list (rng 0 1 j.toNat)) S else .no := rfl
@[simp] theorem rev_l {ds : List D} {S : Sto} : revW (.dat (.list ds)) S = .ok (.dat (.tuple ds.reverse)) S := rfl
@[simp] theorem rev_t {ds : List D} {S : Sto} : revW (.dat (.tuple ds)) S = .ok (.dat (.tuple ds.reverse)) S := rfl
theorem ints_map : ∀ ns : List Int, intsD (ns.map .int) = some ns
  | [] => rfl
  | n :: ns => by show (intsD (ns.map .int)).map (n :: ·) = _; rw [ints_map ns]; rfl
theorem pairs_map : ∀ ps : List (Int × Int), pairsD (ps.map dPair) = some ps
  | [] => rfl
  | p :: ps => by show (pairsD (ps.map dPair)).map ((p.1, p.2) :: ·) = _; rw [pairs_map ps]; rfl
theorem bi_sum {ns : List Int} {S : Sto} : biW S .sum false [.dat (.list (ns.map .int))] = .ok (.dat (.int ns.sum)) S := by
  rw [biW_dd]
  show (match (intsD (ns.map .int)).map fun ns => PyData.int ns.sum with | some d => mk false d S | none => .no) = _
  rw [ints_map]; rfl
theorem bi_sortI {ns : List Int} {S : Sto} {m : Bool} : biW S .sorted m [.dat (.list (ns.map .int))] = mk m (.list ((sortI ns).map .int)) S := by
  rw [biW_dd]
  show (match (match intsD (ns.map .int) with | some ns => some (PyData.list ((sortI ns).map .int)) | none => _) with | some d => mk m d S | none => .no) = _
  rw [ints_map]
theorem bi_sortP {ps : List (Int × Int)} {S : Sto} {m : Bool} : biW S .sorted m [.dat (.list (ps.map dPair))] = mk m (.list ((sortP ps).map dPair)) S := by
  cases ps with
  | nil => rw [biW_dd]; rfl
  | cons p ps =>
    rw [biW_dd]
    have h : intsD ((p :: ps).map dPair) = none := rfl
    show (match (match intsD ((p :: ps).map dPair) with | some ns => some (PyData.list ((sortI ns).map .int)) | none => match pairsD ((p :: ps).map dPair) with | some ps => some (PyData.list ((sortP ps).map dPair)) | none => none) with | some d => mk m d S | none => .no) = _
    rw [h, pairs_map]
theorem bi_maxI {ns : List Int} {M : Int} {S : Sto} (h : maxI ns = some M) : biW S .max false [.dat (.list (ns.map .int))] = .ok (.dat (.int M)) S := by
  rw [biW_dd]
  show (match (match intsD (ns.map .int) with | some ns => (maxI ns).map .int | none => none) with | some d => mk false d S | none => .no) = _
  rw [ints_map]
  show (match (maxI ns).map PyData.int with | some d => mk false d S | none => .no) = _
  rw [h]; rfl
/-! ### comparing a thing with itself, with the empty list -/
def Sh (k : Nat) (d : D) : Prop := d.canLay0 = true ∧ d.depth ≤ k
theorem Sh.mono {j k : Nat} {d : D} (h : Sh j d) (hk : j ≤ k) : Sh k d := ⟨h.1, Nat.le_trans h.2 hk⟩
theorem sh_int {i : Int} {k : Nat} : Sh k (.int i) := ⟨rfl, Nat.zero_le _⟩
theorem sh_bool {b : Bool} {k : Nat} : Sh k (.bool b) := ⟨rfl, Nat.zero_le _⟩
theorem sh_none {k : Nat} : Sh k .none := ⟨rfl, Nat.zero_le _⟩
theorem sh_all {k : Nat} : ∀ {xs : List D}, (∀ x, x ∈ xs → Sh k x) → PyData.canLayAll0 xs = true ∧ PyData.depthAll xs ≤ k
  | [], _ => ⟨rfl, Nat.zero_le _⟩
  | x :: xs, h => by
    obtain ⟨a, b⟩ := h x List.mem_cons_self
    obtain ⟨c, d⟩ := sh_all fun y hy => h y (List.mem_cons_of_mem _ hy)
    exact ⟨by show (PyData.canLay0 x && PyData.canLayAll0 xs) = true; rw [a, c]; rfl, Nat.max_le.mpr ⟨b, d⟩⟩
theorem sh_list {k : Nat} {xs : List D} (h : ∀ x, x ∈ xs → Sh k x) : Sh (k + 1) (.list xs) := ⟨(sh_all h).1, Nat.succ_le_succ (sh_all h).2⟩
theorem sh_tuple {k : Nat} {xs : List D} (h : ∀ x, x ∈ xs → Sh k x) : Sh (k + 1) (.tuple xs) := ⟨(sh_all h).1, Nat.succ_le_succ (sh_all h).2⟩
theorem sh_ints {ns : List Int} {k : Nat} : ∀ x, x ∈ (ns.map PyData.int) → Sh k x := fun x hx => by
  obtain ⟨n, _, rfl⟩ := List.mem_map.mp hx
  exact sh_int
theorem Sh.shaped {k : Nat} {d : D} (h : Sh k d) (hk : k ≤ 64 := by decide) : SeqAt.shaped d = true := by
  unfold SeqAt.shaped
  rw [h.1, decide_eq_true (Nat.le_trans h.2 hk)]
  rfl
theorem eqD_shaped {x y : D} (hx : SeqAt.shaped x = true) (hy : SeqAt.shaped y = true) : eqD x y = some (PyData.eqv x y) := by
  unfold eqD
  split
  · rfl
  · rfl
  · congr 1
  · rw [if_pos ⟨hx, hy⟩]
section
variable {S : Sto} {k j : Nat} {x y : D} {xs : List D}
theorem cmp_eqD (hx : Sh k x) (hy : Sh j y) (hk : k ≤ 64 := by decide) (hj : j ≤ 64 := by decide) : cmpW S .eq (.dat x) (.dat y) = .ok (.dat (.bool (PyData.eqv x y))) S := by
  rw [cmpW_d]
  show (match eqD x y with | some c => _ | none => _) = _
  rw [eqD_shaped (hx.shaped hk) (hy.shaped hj)]
theorem cmp_neD (hx : Sh k x) (hy : Sh j y) (hk : k ≤ 64 := by decide) (hj : j ≤ 64 := by decide) : cmpW S .ne (.dat x) (.dat y) = .ok (.dat (.bool (!PyData.eqv x y))) S := by
  rw [cmpW_d]
  show (match (eqD x y).map (!·) with | some c => _ | none => _) = _
  rw [eqD_shaped (hx.shaped hk) (hy.shaped hj)]
  rfl
theorem cmp_eq_self (hx : Sh k x) (hk : k ≤ 64 := by decide) : cmpW S .eq (.dat x) (.dat x) = .ok (.dat (.bool true)) S := by rw [cmp_eqD hx hx hk hk, SeqAt.eqv_refl x hx.1]
theorem cmp_ne_self (hx : Sh k x) (hk : k ≤ 64 := by decide) : cmpW S .ne (.dat x) (.dat x) = .ok (.dat (.bool false)) S := by rw [cmp_neD hx hx hk hk, SeqAt.eqv_refl x hx.1]; rfl
theorem eqv_nil : PyData.eqv (.list xs) (.list []) = xs.isEmpty := by cases xs <;> rfl
theorem eqv_nilT : PyData.eqv (.tuple xs) (.tuple []) = xs.isEmpty := by cases xs <;> rfl
theorem sh_nil : Sh 1 (.list []) := sh_list (k := 0) fun x h => absurd h (by simp)
theorem cmp_eq_nil (hx : Sh k (.list xs)) (hk : k ≤ 64 := by decide) : cmpW S .eq (.dat (.list xs)) (.dat (.list [])) = .ok (.dat (.bool xs.isEmpty)) S := by rw [cmp_eqD hx sh_nil hk, eqv_nil]
theorem cmp_ne_nil (hx : Sh k (.list xs)) (hk : k ≤ 64 := by decide) : cmpW S .ne (.dat (.list xs)) (.dat (.list [])) = .ok (.dat (.bool (!xs.isEmpty))) S := by rw [cmp_neD hx sh_nil hk, eqv_nil]
end
/-! ### an object -/
section
variable {S : Sto} {p : Nat} {ds : List D} {i : Int} {d : D} {m : Bool}
theorem idx_ob (h : S[p]? = some (.lst ds)) : idxW S (.obj p) (.dat (.int i)) = optD (atI ds i) S := by rw [idx_o, h]; rfl
theorem set_ob {j : Nat} (h : S[p]? = some (.lst ds)) (hj : ixN ds.length i = some j) : setW S (.obj p) (.dat (.int i)) (.dat d) = .ok () (S.set p (.lst (ds.set j d))) := by
  rw [set_o]
  show (match S[p]? with | some (.lst ds) => _ | _ => _) = _
  rw [h]
  show (match ixN ds.length i with | some j => _ | none => _) = _
  rw [hj]
theorem bi_ob {b : BI} (h : S[p]? = some (.lst ds)) : biW S b m [.obj p] = biW S b m [.dat (.list ds)] := by
  rw [biW_o, h, biW_dd]; rfl
theorem app_ob (h : S[p]? = some (.lst ds)) (hl : ds.length < sizeLine) : mthW S .append (.obj p) [.dat d] = .ok (.dat .none) (S.set p (.lst (ds ++ [d]))) := by
  show (match S[p]? with | some (.lst ds) => _ | _ => _) = _
  rw [h]
  show (if ds.length < sizeLine then _ else _) = _
  rw [if_pos hl]
theorem popAt_ob (h : S[p]? = some (.lst ds)) (h0 : 0 ≤ i) (h1 : i < 2 ^ 62) (hd : ds[i.toNat]? = some d) : mthW S .popAt (.obj p) [.dat (.int i)] = .ok (.dat d) (S.set p (.lst (ds.eraseIdx i.toNat))) := by
  show (match S[p]? with | some (.lst ds) => _ | _ => _) = _
  rw [h]
  show (if 0 ≤ i ∧ i < 2 ^ 62 then (match ds[i.toNat]? with | some d => _ | none => _) else _) = _
  rw [if_pos ⟨h0, h1⟩, hd]
theorem recv_ob (h : S[p]? = some (.lst ds)) : recvW S (.obj p) = .ok (.obj p) S := by
  unfold recvW
  rw [rdD_obj, h]
  rfl
end
theorem forC_filt {body : D → Sto → Rs (Option D)} {Q : List D → Sto → Prop} (p : D → Bool) (g : D → D) {ds : List D} {S : Sto} (hl : ds.length ≤ sizeLine)
    (st : ∀ d, d ∈ ds → Holds (body d S) fun r S' => S' = S ∧ r = if p d = true then some (g d) else none) (e : Q ((ds.filter p).map g) S) : Holds (forC body ds [] S) Q := by
  refine forC_idx (fun i acc S' => S' = S ∧ acc = ((ds.take i).filter p).map g) ⟨rfl, by simp⟩ ?_ ?_
  · rintro i d hd acc S' ⟨rfl, rfl⟩
    have hlt := (List.getElem?_eq_some_iff.mp hd).1
    have hle : ((ds.take i).filter p).length ≤ i := Nat.le_trans (List.length_filter_le _ _) (by rw [List.length_take]; omega)
    have he : (ds.take (i + 1)).filter p = (ds.take i).filter p ++ (if p d = true then [d] else []) := by
      rw [List.take_add_one, hd]
      simp only [Option.toList_some, List.filter_append, List.filter_cons, List.filter_nil]
    refine (st d (List.mem_of_getElem? hd)).imp ?_
    rintro r S1 ⟨rfl, rfl⟩
    by_cases hp : p d = true
    · rw [if_pos hp]
      refine ⟨by rw [List.length_map]; omega, rfl, ?_⟩
      rw [he, if_pos hp]; simp
    · rw [if_neg hp]
      refine ⟨rfl, ?_⟩
      rw [he, if_neg hp]; simp
  · rintro acc S' ⟨rfl, rfl⟩
    simpa using e
@[simp] theorem last_get {S : Sto} {x : Ob} : (S ++ [x])[S.length]? = some x := List.getElem?_concat_length
@[simp] theorem last_set {S : Sto} {x y : Ob} : (S ++ [x]).set S.length y = S ++ [y] := by simp
/-- a place of a list of numbers -/
def getI (bs : List Int) (i : Int) : Int := bs.getD i.toNat 0
theorem at_getI {bs : List Int} {i : Int} (h0 : 0 ≤ i) (h1 : i < bs.length) : atI (bs.map PyData.int) i = some (.int (getI bs i)) := by
  obtain ⟨n, rfl⟩ := nat_of h0
  have hn : n < bs.length := by omega
  refine atI_nat ?_
  rw [List.getElem?_map, List.getElem?_eq_getElem hn]
  simp [getI, List.getD, hn]
theorem ix_nn {n : Nat} {i : Int} (h0 : 0 ≤ i) (h1 : i < n) : ixN n i = some i.toNat := by
  unfold ixN
  rw [if_pos h0, if_pos h1]
theorem clS_lists {S : Sto} (h : ∀ o, o ∈ S → ∃ ds, o = .lst ds) : ClS S := fun n _ => List.all_eq_true.mpr fun o ho => by
  obtain ⟨ds, rfl⟩ := h o ho
  rfl
theorem forC_filtM {α : Type} {body : D → Sto → Rs (Option D)} {Q : List D → Sto → Prop} (f : α → D) (p : α → Bool) (g : α → D) {xs : List α} {S : Sto} (hl : xs.length ≤ sizeLine)
    (st : ∀ x, x ∈ xs → Holds (body (f x) S) fun r S' => S' = S ∧ r = if p x = true then some (g x) else none) (e : Q ((xs.filter p).map g) S) : Holds (forC body (xs.map f) [] S) Q := by
  refine forC_idx (fun i acc S' => S' = S ∧ acc = ((xs.take i).filter p).map g) ⟨rfl, by simp⟩ ?_ ?_
  · rintro i d hd acc S' ⟨rfl, rfl⟩
    rw [List.getElem?_map] at hd
    obtain ⟨x, hx, rfl⟩ := Option.map_eq_some_iff.mp hd
    have hlt := (List.getElem?_eq_some_iff.mp hx).1
    have hle : ((xs.take i).filter p).length ≤ i := Nat.le_trans (List.length_filter_le _ _) (by rw [List.length_take]; omega)
    have he : (xs.take (i + 1)).filter p = (xs.take i).filter p ++ (if p x = true then [x] else []) := by
      rw [List.take_add_one, hx]
      simp only [Option.toList_some, List.filter_append, List.filter_cons, List.filter_nil]
    refine (st x (List.mem_of_getElem? hx)).imp ?_
    rintro r S1 ⟨rfl, rfl⟩
    by_cases hp : p x = true
    · rw [if_pos hp]
      refine ⟨by rw [List.length_map]; omega, rfl, ?_⟩
      rw [he, if_pos hp]; simp
    · rw [if_neg hp]
      refine ⟨rfl, ?_⟩
      rw [he, if_neg hp]; simp
  · rintro acc S' ⟨rfl, rfl⟩
    simpa using e
theorem forC_mapM {α : Type} {body : D → Sto → Rs (Option D)} {Q : List D → Sto → Prop} (f : α → D) (g : α → D) {xs : List α} {S : Sto} (hl : xs.length ≤ sizeLine)
    (st : ∀ x, x ∈ xs → Holds (body (f x) S) fun r S' => S' = S ∧ r = some (g x)) (e : Q (xs.map g) S) : Holds (forC body (xs.map f) [] S) Q :=
  forC_filtM f (fun _ => true) g hl (fun x hx => (st x hx).imp fun r S' q => ⟨q.1, by rw [q.2]; rfl⟩) (by rw [List.filter_eq_self.mpr (fun _ _ => rfl)]; exact e)
/-- items made over a range of numbers -/
theorem rng_map (n : Nat) : rng 0 1 n = (List.range n).map fun i => PyData.int (i : Nat) := by
  refine List.ext_getElem? fun i => ?_
  by_cases h : i < n
  · have h2 : i < (rng 0 1 n).length := by rw [rngH_len]; exact h
    have := rngH_get (List.getElem?_eq_getElem h2)
    rw [List.getElem?_eq_getElem h2, this.2]
    simp [h]
  · rw [List.getElem?_eq_none (by rw [rngH_len]; omega), List.getElem?_eq_none (by simp; omega)]
theorem small_len' {n : Nat} (h : n ≤ 1000000) : n ≤ sizeLine := Nat.le_trans h (by decide)
theorem frz_ob {l : Loc} {k p : Nat} {S : Sto} {ds : List D} (h : S[p]? = some (.lst ds)) : frzW l k S (.obj p) = .ok (.nx, l.set k (some (.dat (.list ds)))) (S.set p .gone) := by
  show (match S[p]? with | some (.lst ds) => _ | _ => _) = _
  rw [h]
@[simp] theorem slc_l {xs : List D} {lo hi : Option Int} {S : Sto} : slcW S (.dat (.list xs)) lo hi = .ok (.dat (.list (cutD xs lo hi))) S := rfl
@[simp] theorem slc_t {xs : List D} {lo hi : Option Int} {S : Sto} : slcW S (.dat (.tuple xs)) lo hi = .ok (.dat (.tuple (cutD xs lo hi))) S := rfl
theorem cut_nat {xs : List D} {lo hi : Nat} (h : lo ≤ hi) (hl : hi ≤ xs.length) : cutD xs (some (lo : Int)) (some (hi : Int)) = (xs.drop lo).take (hi - lo) := by
  unfold cutD
  rw [HT.sIx_nat, HT.sIx_nat, Nat.min_eq_left hl, Nat.min_eq_left (Nat.le_trans h hl)]
theorem cut_0 {xs : List D} {hi : Nat} (hl : hi ≤ xs.length) : cutD xs none (some (hi : Int)) = xs.take hi := by
  unfold cutD
  rw [HT.sIx_nat, HT.sIx_none, Nat.min_eq_left hl]; rfl
theorem cut_e {xs : List D} {lo : Nat} (hl : lo ≤ xs.length) : cutD xs (some (lo : Int)) none = xs.drop lo := by
  unfold cutD
  rw [HT.sIx_nat, HT.sIx_none, Nat.min_eq_left hl, List.take_of_length_le (by simp)]
@[simp] theorem tup_o {S : Sto} {p : Nat} {ds : List D} : recvW (S ++ [.lst ds]) (.obj S.length) = .ok (.obj S.length) (S ++ [.lst ds]) := recv_ob last_get
theorem app_last {S : Sto} {ds : List D} {d : D} (h : ds.length < sizeLine) : mthW (S ++ [.lst ds]) .append (.obj S.length) [.dat d] = .ok (.dat .none) (S ++ [.lst (ds ++ [d])]) := by
  rw [app_ob last_get h, last_set]
@[simp] theorem bi_listm {xs : List D} {S : Sto} : biW S .list true [.dat (.list xs)] = .ok (.obj S.length) (S ++ [.lst xs]) := rfl
@[simp] theorem bi_listtm {xs : List D} {S : Sto} : biW S .list true [.dat (.tuple xs)] = .ok (.obj S.length) (S ++ [.lst xs]) := rfl
section
variable {G : Nat → Option W} {F : Fun'} {b : E} {l : Loc} {S : Sto} {Q : W → Sto → Prop} {h v : Bool}
theorem kand_val (hb : h = true → ∀ Q' : W → Sto → Prop, Q' (.dat (.bool v)) S → wpE G F b l S Q') (k : Q (.dat (.bool (h && v))) S) : kAndE G F b l Q (.dat (.bool h)) S := by
  cases h with
  | true => exact hb rfl Q (by simpa using k)
  | false => exact holds_ok.mpr (by simpa using k)
theorem kor_val (hb : h = false → ∀ Q' : W → Sto → Prop, Q' (.dat (.bool v)) S → wpE G F b l S Q') (k : Q (.dat (.bool (h || v))) S) : kOrE G F b l Q (.dat (.bool h)) S := by
  cases h with
  | true => exact holds_ok.mpr (by simpa using k)
  | false => exact hb rfl Q (by simpa using k)
end
end MP
set_option Elab.async false
set_option linter.all false
set_option maxRecDepth 100000
set_option maxHeartbeats 4000000
namespace Lw
open PySem MP
def d_Ldraw_b1 : St' := (St'.cons (St'.set (E.tnm 1) (E.bin .mod (E.bi .int false (E.cons (E.bin .add (E.bin .add (E.bin .mul (E.var 1) (E.int 48271)) (E.bin .mod (E.bi .abs false (E.cons (E.bi .int false (E.cons (E.var 2) E.nil)) E.nil)) (E.int 65521))) (E.int 1)) E.nil)) (E.int 2147483647)))
  St'.nil)
/-- slots: 0:_law_script 1:_law_seed 2:_law_cell -/
def d_Ldraw : Fn := ⟨1, 3, (St'.cons (St'.set (E.tnm 1) (E.int 7))
  (St'.cons (St'.for (E.tnm 2) (E.isq (E.var 0)) d_Ldraw_b1)
  (St'.cons (St'.ret (E.lst true (E.cons (E.comp false [2] (E.bi .abs false (E.cons (E.bi .int false (E.cons (E.var 2) E.nil)) E.nil)) (E.tnm 2) (E.isq (E.var 0)) E.nil) (E.cons (E.neg (E.int 1)) (E.cons (E.int 0) (E.cons (E.var 1) E.nil))))))
  St'.nil)))⟩
/-- slots: 0:_law_draw_here 1:_law_many 2:_law_found -/
def d_Ltake : Fn := ⟨2, 3, (St'.cons (St'.cond (E.tcmp .eq (E.idx (E.var 0) (E.int 2)) (E.int 0))
  (St'.cons (St'.set (E.tsub (E.var 0) (E.int 1)) (E.bin .add (E.idx (E.var 0) (E.int 1)) (E.int 1)))
  (St'.cons (St'.cond (E.tcmp .lt (E.idx (E.var 0) (E.int 1)) (E.bi .len false (E.cons (E.idx (E.var 0) (E.int 0)) E.nil)))
  (St'.cons (St'.set (E.tsub (E.var 0) (E.int 2)) (E.idx (E.idx (E.var 0) (E.int 0)) (E.idx (E.var 0) (E.int 1))))
  St'.nil)
  St'.nil)
  (St'.cons (St'.cond (E.tcmp .eq (E.idx (E.var 0) (E.int 2)) (E.int 0))
  (St'.cons (St'.set (E.tsub (E.var 0) (E.int 3)) (E.bin .mod (E.bi .int false (E.cons (E.bin .add (E.bin .mul (E.idx (E.var 0) (E.int 3)) (E.int 48271)) (E.int 11)) E.nil)) (E.int 2147483647)))
  (St'.cons (St'.set (E.tsub (E.var 0) (E.int 2)) (E.idx (E.var 0) (E.int 3)))
  St'.nil))
  St'.nil)
  St'.nil)))
  St'.nil)
  (St'.cons (St'.set (E.tnm 2) (E.bin .mod (E.bi .int false (E.cons (E.idx (E.var 0) (E.int 2)) E.nil)) (E.var 1)))
  (St'.cons (St'.set (E.tsub (E.var 0) (E.int 2)) (E.bin .fdiv (E.idx (E.var 0) (E.int 2)) (E.var 1)))
  (St'.cons (St'.ret (E.var 2))
  St'.nil))))⟩
def d_law_b1 : St' := (St'.cons (St'.set (E.tsub (E.var 13) (E.var 16)) (E.int 0))
  St'.nil)
def d_law_b2 : St' := (St'.cons (St'.set (E.tsub (E.var 15) (E.idx (E.var 10) (E.var 18))) (E.bin .band (E.bin .shr (E.var 17) (E.var 18)) (E.int 1)))
  St'.nil)
def d_law_b3 : St' := (St'.cons (St'.set (E.tsub (E.var 13) (E.var 16)) (E.var 19))
  St'.nil)
def d_law_b4 : St' := (St'.cons (St'.set (E.tnm 13) (E.comp true [18] (E.call 1 (E.cons (E.var 1) (E.cons (E.int 2) E.nil))) (E.tnm 18) (E.irg1 (E.var 3)) E.nil))
  (St'.cons (St'.cond (E.tcmp .gt (E.var 9) (E.int 1))
  (St'.cons (St'.for (E.ttup (E.cons (E.tnm 16) (E.cons (E.tnm 19) E.nil))) (E.isq (E.var 6)) d_law_b3)
  St'.nil)
  St'.nil)
  (St'.cons (St'.set (E.tnm 14) (E.cmp .eq (E.comp false [16, 19] (E.var 16) (E.ttup (E.cons (E.tnm 16) (E.cons (E.tnm 19) E.nil))) (E.isq (E.var 6)) (E.cons (E.tcmp .ne (E.idx (E.var 13) (E.var 16)) (E.var 19)) E.nil)) (E.lst false E.nil)))
  (St'.cons (St'.set (E.tnm 15) (E.bi .list true (E.cons (E.var 13) E.nil)))
  (St'.cons (St'.cond (E.tv (E.var 14))
  (St'.cons (St'.set (E.tnm 17) (E.bin .band (E.bin .add (E.call 3 (E.cons (E.var 13) (E.cons (E.var 10) E.nil))) (E.call 3 (E.cons (E.var 13) (E.cons (E.var 11) E.nil)))) (E.bin .sub (E.bin .shl (E.int 1) (E.var 2)) (E.int 1))))
  (St'.cons (St'.for (E.tnm 18) (E.irg1 (E.var 2)) d_law_b2)
  St'.nil))
  St'.nil)
  (St'.cons (St'.cond (E.tcmp .ne (E.call 4 (E.cons (E.var 7) (E.cons (E.var 13) E.nil))) (E.bi .tuple false (E.cons (E.var 15) E.nil)))
  (St'.cons (St'.ret (E.bl false))
  St'.nil)
  St'.nil)
  (St'.cons (St'.for (E.tnm 16) (E.isq (E.var 12)) d_law_b1)
  (St'.cons (St'.set (E.tnm 15) (E.bi .list true (E.cons (E.var 13) E.nil)))
  (St'.cons (St'.cond (E.tand (E.tv (E.var 14)) (E.one (E.tcmp .lt (E.call 3 (E.cons (E.var 13) (E.cons (E.var 10) E.nil))) (E.call 3 (E.cons (E.var 13) (E.cons (E.var 11) E.nil))))))
  (St'.cons (St'.set (E.tsub (E.var 15) (E.var 5)) (E.bin .sub (E.int 1) (E.idx (E.var 15) (E.var 5))))
  St'.nil)
  St'.nil)
  (St'.cons (St'.cond (E.tcmp .ne (E.call 4 (E.cons (E.var 8) (E.cons (E.var 13) E.nil))) (E.bi .tuple false (E.cons (E.var 15) E.nil)))
  (St'.cons (St'.ret (E.bl false))
  St'.nil)
  St'.nil)
  St'.nil))))))))))
/-- slots: 0:_law_script 1:_law_draw_here 2:_law_many 3:_law_total 4:_law_order 5:_law_wire 6:_law_controls 7:_law_adding 8:_law_telling 9:_law_turn 10:_law_first 11:_law_second 12:_law_spare 13:_law_bits_here 14:_law_held 15:_law_due 16:_law_one 17:_law_sum_now 18:_law_k 19:_law_value_here -/
def d_law : Fn := ⟨1, 20, (St'.cons (St'.set (E.tnm 1) (E.call 0 (E.cons (E.var 0) E.nil)))
  (St'.cons (St'.set (E.tnm 2) (E.bin .add (E.int 1) (E.call 1 (E.cons (E.var 1) (E.cons (E.int 5) E.nil)))))
  (St'.cons (St'.set (E.tnm 3) (E.bin .add (E.bin .mul (E.int 3) (E.var 2)) (E.int 6)))
  (St'.cons (St'.set (E.tnm 4) (E.call 14 (E.cons (E.var 1) (E.cons (E.lrng false (E.var 3)) (E.cons (E.var 3) E.nil)))))
  (St'.cons (St'.par [10, 11, 12] (E.cons (E.slc (E.var 4) E.nil (E.cons (E.var 2) E.nil)) (E.cons (E.slc (E.var 4) (E.cons (E.var 2) E.nil) (E.cons (E.bin .mul (E.int 2) (E.var 2)) E.nil)) (E.cons (E.slc (E.var 4) (E.cons (E.bin .mul (E.int 2) (E.var 2)) E.nil) (E.cons (E.bin .add (E.bin .mul (E.int 3) (E.var 2)) (E.int 1)) E.nil)) E.nil))))
  (St'.cons (St'.set (E.tnm 5) (E.idx (E.var 4) (E.bin .add (E.bin .mul (E.int 3) (E.var 2)) (E.int 1))))
  (St'.cons (St'.set (E.tnm 6) (E.comp false [16] (E.tup (E.cons (E.var 16) (E.cons (E.call 1 (E.cons (E.var 1) (E.cons (E.int 2) E.nil))) E.nil))) (E.tnm 16) (E.isq (E.bi .sorted false (E.cons (E.slc (E.var 4) (E.cons (E.bin .add (E.bin .mul (E.int 3) (E.var 2)) (E.int 2)) E.nil) (E.cons (E.bin .add (E.bin .add (E.bin .mul (E.int 3) (E.var 2)) (E.int 2)) (E.call 1 (E.cons (E.var 1) (E.cons (E.int 3) E.nil)))) E.nil)) E.nil))) E.nil))
  (St'.cons (St'.set (E.tnm 7) (E.bi .tuple false (E.cons (E.call 13 (E.cons (E.bi .tuple false (E.cons (E.var 10) E.nil)) (E.cons (E.bi .tuple false (E.cons (E.var 11) E.nil)) (E.cons (E.bi .tuple false (E.cons (E.var 6) E.nil)) E.nil)))) E.nil)))
  (St'.cons (St'.set (E.tnm 8) (E.bi .tuple false (E.cons (E.call 9 (E.cons (E.var 5) (E.cons (E.bi .tuple false (E.cons (E.var 10) E.nil)) (E.cons (E.bi .tuple false (E.cons (E.var 11) E.nil)) (E.cons (E.bi .tuple false (E.cons (E.var 12) E.nil)) (E.cons (E.bi .tuple false (E.cons (E.var 6) E.nil)) E.nil)))))) E.nil)))
  (St'.cons (St'.cond (E.tor (E.tcmp .ne (E.call 5 (E.cons (E.tup (E.cons (E.var 3) (E.cons (E.var 7) E.nil))) E.nil)) (E.lst false E.nil)) (E.one (E.tcmp .ne (E.call 5 (E.cons (E.tup (E.cons (E.var 3) (E.cons (E.var 8) E.nil))) E.nil)) (E.lst false E.nil))))
  (St'.cons (St'.ret (E.bl false))
  St'.nil)
  St'.nil)
  (St'.cons (St'.for (E.tnm 9) (E.irg1 (E.int 8)) d_law_b4)
  (St'.cons (St'.ret (E.bl true))
  St'.nil))))))))))))⟩
/-- slots: 0:_law_bits_here 1:_law_wires 2:_law_k -/
def d_Lread : Fn := ⟨2, 3, (St'.cons (St'.ret (E.bi .sum false (E.cons (E.comp false [2] (E.bin .shl (E.idx (E.var 0) (E.idx (E.var 1) (E.var 2))) (E.var 2)) (E.tnm 2) (E.irg1 (E.bi .len false (E.cons (E.var 1) E.nil))) E.nil) E.nil)))
  St'.nil)⟩
def d_Lturned_b1 : St' := (St'.cons (St'.cond (E.tcmp .eq (E.comp false [4, 5] (E.var 4) (E.ttup (E.cons (E.tnm 4) (E.cons (E.tnm 5) E.nil))) (E.isq (E.var 3)) (E.cons (E.tcmp .ne (E.idx (E.var 1) (E.var 4)) (E.var 5)) E.nil)) (E.lst false E.nil))
  (St'.cons (St'.set (E.tsub (E.var 1) (E.var 2)) (E.bin .sub (E.int 1) (E.idx (E.var 1) (E.var 2))))
  St'.nil)
  St'.nil)
  St'.nil)
/-- slots: 0:_law_gates 1:_law_bits_here 2:_law_target 3:_law_controls 4:_law_wire 5:_law_value_here -/
def d_Lturned : Fn := ⟨2, 6, (St'.cons (St'.set (E.tnm 1) (E.bi .list true (E.cons (E.var 1) E.nil)))
  (St'.cons (St'.for (E.ttup (E.cons (E.tnm 2) (E.cons (E.tnm 3) E.nil))) (E.isq (E.var 0)) d_Lturned_b1)
  (St'.cons (St'.ret (E.bi .tuple false (E.cons (E.var 1) E.nil)))
  St'.nil)))⟩
def d_circuit_faults_b1 : St' := (St'.cons (St'.cond (E.tnot (E.tv (E.call 7 (E.cons (E.idx (E.idx (E.var 0) (E.int 1)) (E.var 2)) E.nil))))
  (St'.cons (St'.expr (E.mth .append (E.var 1) (E.cons (E.tup (E.cons (E.var 2) (E.cons (E.str "gate") E.nil))) E.nil)))
  St'.nil)
  (St'.cons (St'.cond (E.tcmp .ge (E.bi .max false (E.cons (E.call 6 (E.cons (E.idx (E.idx (E.var 0) (E.int 1)) (E.var 2)) E.nil)) E.nil)) (E.idx (E.var 0) (E.int 0)))
  (St'.cons (St'.expr (E.mth .append (E.var 1) (E.cons (E.tup (E.cons (E.var 2) (E.cons (E.str "wire") E.nil))) E.nil)))
  St'.nil)
  St'.nil)
  St'.nil))
  St'.nil)
/-- slots: 0:value 1:found 2:k -/
def d_circuit_faults : Fn := ⟨1, 3, (St'.cons (St'.cond (E.tor (E.tnot (E.tv (E.isi .tuple (E.var 0)))) (E.tor (E.tcmp .ne (E.bi .len false (E.cons (E.var 0) E.nil)) (E.int 2)) (E.tor (E.tnot (E.tv (E.call 8 (E.cons (E.idx (E.var 0) (E.int 0)) E.nil)))) (E.one (E.tnot (E.tv (E.isi .tuple (E.idx (E.var 0) (E.int 1)))))))))
  (St'.cons (St'.ret (E.lst false (E.cons (E.tup (E.cons (E.neg (E.int 1)) (E.cons (E.str "form") E.nil))) E.nil)))
  St'.nil)
  St'.nil)
  (St'.cons (St'.set (E.tnm 1) (E.lst true E.nil))
  (St'.cons (St'.for (E.tnm 2) (E.irg1 (E.bi .len false (E.cons (E.idx (E.var 0) (E.int 1)) E.nil))) d_circuit_faults_b1)
  (St'.cons (St'.frz 1) (St'.cons (St'.ret (E.var 1)) St'.nil)))))⟩
/-- slots: 0:gate 1:wire 2:value -/
def d_wires_of : Fn := ⟨1, 3, (St'.cons (St'.ret (E.bin .add (E.lst false (E.cons (E.idx (E.var 0) (E.int 0)) E.nil)) (E.comp false [1, 2] (E.var 1) (E.ttup (E.cons (E.tnm 1) (E.cons (E.tnm 2) E.nil))) (E.isq (E.idx (E.var 0) (E.int 1))) E.nil)))
  St'.nil)⟩
def d_is_gate_b1 : St' := (St'.cons (St'.cond (E.tor (E.tnot (E.tv (E.isi .tuple (E.var 2)))) (E.one (E.tcmp .ne (E.bi .len false (E.cons (E.var 2) E.nil)) (E.int 2))))
  (St'.cons (St'.ret (E.bl false))
  St'.nil)
  St'.nil)
  (St'.cons (St'.cond (E.tor (E.tnot (E.tv (E.call 8 (E.cons (E.idx (E.var 2) (E.int 0)) E.nil)))) (E.one (E.tnot (E.tv (E.call 8 (E.cons (E.idx (E.var 2) (E.int 1)) E.nil))))))
  (St'.cons (St'.ret (E.bl false))
  St'.nil)
  St'.nil)
  (St'.cons (St'.cond (E.tor (E.tcmp .gt (E.idx (E.var 2) (E.int 1)) (E.int 1)) (E.tor (E.tcmp .le (E.idx (E.var 2) (E.int 0)) (E.var 1)) (E.one (E.tcmp .eq (E.idx (E.var 2) (E.int 0)) (E.idx (E.var 0) (E.int 0))))))
  (St'.cons (St'.ret (E.bl false))
  St'.nil)
  St'.nil)
  (St'.cons (St'.set (E.tnm 1) (E.idx (E.var 2) (E.int 0)))
  St'.nil))))
/-- slots: 0:value 1:before 2:control -/
def d_is_gate : Fn := ⟨1, 3, (St'.cons (St'.cond (E.tor (E.tnot (E.tv (E.isi .tuple (E.var 0)))) (E.tor (E.tcmp .ne (E.bi .len false (E.cons (E.var 0) E.nil)) (E.int 2)) (E.tor (E.tnot (E.tv (E.call 8 (E.cons (E.idx (E.var 0) (E.int 0)) E.nil)))) (E.one (E.tnot (E.tv (E.isi .tuple (E.idx (E.var 0) (E.int 1)))))))))
  (St'.cons (St'.ret (E.bl false))
  St'.nil)
  St'.nil)
  (St'.cons (St'.set (E.tnm 1) (E.neg (E.int 1)))
  (St'.cons (St'.for (E.tnm 2) (E.isq (E.idx (E.var 0) (E.int 1))) d_is_gate_b1)
  (St'.cons (St'.ret (E.bl true))
  St'.nil))))⟩
/-- slots: 0:value -/
def d_is_number : Fn := ⟨1, 1, (St'.cons (St'.ret (E.and (E.isi .int (E.var 0)) (E.and (E.not (E.isi .bool (E.var 0))) (E.one (E.cmp .ge (E.var 0) (E.int 0))))))
  St'.nil)⟩
/-- slots: 0:wire 1:first 2:second 3:spare 4:controls 5:gates 6:told -/
def d_less_into : Fn := ⟨5, 7, (St'.cons (St'.set (E.tnm 5) (E.call 11 (E.cons (E.var 3) (E.cons (E.var 1) (E.cons (E.var 2) E.nil)))))
  (St'.cons (St'.set (E.tnm 6) (E.call 10 (E.cons (E.var 0) (E.cons (E.lst false (E.cons (E.idx (E.var 3) (E.neg (E.int 1))) E.nil)) (E.cons (E.var 4) E.nil)))))
  (St'.cons (St'.ret (E.bin .add (E.bin .add (E.var 5) (E.tup (E.cons (E.var 6) E.nil))) (E.trev (E.var 5))))
  St'.nil)))⟩
/-- slots: 0:target 1:wires 2:controls 3:wire -/
def d_with_controls : Fn := ⟨3, 4, (St'.cons (St'.ret (E.tup (E.cons (E.var 0) (E.cons (E.bi .tuple false (E.cons (E.bi .sorted false (E.cons (E.bin .add (E.comp false [3] (E.tup (E.cons (E.var 3) (E.cons (E.int 1) E.nil))) (E.tnm 3) (E.isq (E.var 1)) E.nil) (E.bi .list false (E.cons (E.var 2) E.nil))) E.nil)) E.nil)) E.nil))))
  St'.nil)⟩
def d_borrow_gates_b1 : St' := (St'.cons (St'.expr (E.mth .append (E.var 3) (E.cons (E.tup (E.cons (E.idx (E.var 0) (E.var 5)) (E.cons (E.bi .tuple false (E.cons (E.bi .sorted false (E.cons (E.bin .add (E.lst false (E.cons (E.tup (E.cons (E.idx (E.var 2) (E.var 4)) (E.cons (E.int 1) E.nil))) E.nil)) (E.comp false [6] (E.tup (E.cons (E.var 6) (E.cons (E.int 0) E.nil))) (E.tnm 6) (E.isq (E.slc (E.var 0) (E.cons (E.var 4) E.nil) (E.cons (E.var 5) E.nil))) E.nil)) E.nil)) E.nil)) E.nil))) E.nil)))
  St'.nil)
def d_borrow_gates_b2 : St' := (St'.cons (St'.for (E.tnm 5) (E.irg3 (E.bin .sub (E.bi .len false (E.cons (E.var 0) E.nil)) (E.int 1)) (E.var 4) (E.neg (E.int 1))) d_borrow_gates_b1)
  (St'.cons (St'.expr (E.mth .append (E.var 3) (E.cons (E.tup (E.cons (E.idx (E.var 0) (E.var 4)) (E.cons (E.tup (E.cons (E.tup (E.cons (E.idx (E.var 2) (E.var 4)) (E.cons (E.int 1) E.nil))) E.nil)) E.nil))) E.nil)))
  St'.nil))
/-- slots: 0:spare 1:first 2:second 3:gates 4:k 5:j 6:wire -/
def d_borrow_gates : Fn := ⟨3, 7, (St'.cons (St'.set (E.tnm 3) (E.bi .list true (E.cons (E.call 12 (E.cons (E.var 0) (E.cons (E.var 1) (E.cons (E.tup E.nil) E.nil)))) E.nil)))
  (St'.cons (St'.for (E.tnm 4) (E.irg1 (E.bi .len false (E.cons (E.var 2) E.nil))) d_borrow_gates_b2)
  (St'.cons (St'.ret (E.bi .tuple false (E.cons (E.var 3) E.nil)))
  St'.nil)))⟩
/-- slots: 0:target 1:source 2:controls 3:k -/
def d_copy_into : Fn := ⟨3, 4, (St'.cons (St'.ret (E.bi .tuple false (E.cons (E.comp false [3] (E.call 10 (E.cons (E.idx (E.var 0) (E.var 3)) (E.cons (E.lst false (E.cons (E.idx (E.var 1) (E.var 3)) E.nil)) (E.cons (E.var 2) E.nil)))) (E.tnm 3) (E.irg1 (E.bi .len false (E.cons (E.var 1) E.nil))) E.nil) E.nil)))
  St'.nil)⟩
def d_add_into_b1 : St' := (St'.cons (St'.expr (E.mth .append (E.var 3) (E.cons (E.call 10 (E.cons (E.idx (E.var 0) (E.var 6)) (E.cons (E.bin .add (E.lst false (E.cons (E.idx (E.var 1) (E.var 5)) E.nil)) (E.bi .list false (E.cons (E.slc (E.var 0) (E.cons (E.var 5) E.nil) (E.cons (E.var 6) E.nil)) E.nil))) (E.cons (E.var 2) E.nil)))) E.nil)))
  St'.nil)
def d_add_into_b2 : St' := (St'.cons (St'.for (E.tnm 6) (E.irg3 (E.bin .sub (E.var 4) (E.int 1)) (E.var 5) (E.neg (E.int 1))) d_add_into_b1)
  (St'.cons (St'.expr (E.mth .append (E.var 3) (E.cons (E.call 10 (E.cons (E.idx (E.var 0) (E.var 5)) (E.cons (E.lst false (E.cons (E.idx (E.var 1) (E.var 5)) E.nil)) (E.cons (E.var 2) E.nil)))) E.nil)))
  St'.nil))
/-- slots: 0:target 1:source 2:controls 3:gates 4:many 5:k 6:j -/
def d_add_into : Fn := ⟨3, 7, (St'.cons (St'.set (E.tnm 3) (E.lst true E.nil))
  (St'.cons (St'.set (E.tnm 4) (E.bi .len false (E.cons (E.var 0) E.nil)))
  (St'.cons (St'.for (E.tnm 5) (E.irg1 (E.var 4)) d_add_into_b2)
  (St'.cons (St'.ret (E.bi .tuple false (E.cons (E.var 3) E.nil)))
  St'.nil))))⟩
/-- slots: 0:_law_draw_here 1:_law_wires 2:_law_many 3:_law_rest 4:_law_k -/
def d_Lsome : Fn := ⟨3, 5, (St'.cons (St'.set (E.tnm 3) (E.bi .list true (E.cons (E.var 1) E.nil)))
  (St'.cons (St'.ret (E.comp false [4] (E.mth .popAt (E.var 3) (E.cons (E.call 1 (E.cons (E.var 0) (E.cons (E.bi .len false (E.cons (E.var 3) E.nil)) E.nil))) E.nil)) (E.tnm 4) (E.irg1 (E.var 2)) E.nil))
  St'.nil))⟩
def ft (i : Nat) : Option Fn := ([d_Ldraw, d_Ltake, d_law, d_Lread, d_Lturned, d_circuit_faults, d_wires_of, d_is_gate, d_is_number, d_less_into, d_with_controls, d_borrow_gates, d_copy_into, d_add_into, d_Lsome] : List Fn)[i]?
abbrev i_Ldraw : Nat := 0
@[simp] theorem ft_Ldraw : ft 0 = some d_Ldraw := rfl
abbrev i_Ltake : Nat := 1
@[simp] theorem ft_Ltake : ft 1 = some d_Ltake := rfl
abbrev i_law : Nat := 2
@[simp] theorem ft_law : ft 2 = some d_law := rfl
abbrev i_Lread : Nat := 3
@[simp] theorem ft_Lread : ft 3 = some d_Lread := rfl
abbrev i_Lturned : Nat := 4
@[simp] theorem ft_Lturned : ft 4 = some d_Lturned := rfl
abbrev i_circuit_faults : Nat := 5
@[simp] theorem ft_circuit_faults : ft 5 = some d_circuit_faults := rfl
abbrev i_wires_of : Nat := 6
@[simp] theorem ft_wires_of : ft 6 = some d_wires_of := rfl
abbrev i_is_gate : Nat := 7
@[simp] theorem ft_is_gate : ft 7 = some d_is_gate := rfl
abbrev i_is_number : Nat := 8
@[simp] theorem ft_is_number : ft 8 = some d_is_number := rfl
abbrev i_less_into : Nat := 9
@[simp] theorem ft_less_into : ft 9 = some d_less_into := rfl
abbrev i_with_controls : Nat := 10
@[simp] theorem ft_with_controls : ft 10 = some d_with_controls := rfl
abbrev i_borrow_gates : Nat := 11
@[simp] theorem ft_borrow_gates : ft 11 = some d_borrow_gates := rfl
abbrev i_copy_into : Nat := 12
@[simp] theorem ft_copy_into : ft 12 = some d_copy_into := rfl
abbrev i_add_into : Nat := 13
@[simp] theorem ft_add_into : ft 13 = some d_add_into := rfl
abbrev i_Lsome : Nat := 14
@[simp] theorem ft_Lsome : ft 14 = some d_Lsome := rfl
def Gc (i : Nat) : Option W := ([] : List W)[i]?
end Lw
set_option Elab.async false
set_option linter.all false
set_option maxRecDepth 100000
set_option maxHeartbeats 4000000
/-! The draws. -/
namespace Lw
open PySem MP L2
/-- the draw list -/
def dr (cs : List Int) (p c s : Int) : Ob := .lst [.list (cs.map .int), .int p, .int c, .int s]
structure DrI (cs : List Int) (p c s : Int) : Prop where
  cs : ∀ x, x ∈ cs → 0 ≤ x
  p : -1 ≤ p
  c : 0 ≤ c
  s0 : 0 ≤ s
  s1 : s < 2147483647
def Dw (o : Ob) : Prop := ∃ cs p c s, o = dr cs p c s ∧ DrI cs p c s
def TakeQ (R : Sto) (m : Int) : W → Sto → Prop := fun w S => ∃ v o', w = .dat (.int v) ∧ 0 ≤ v ∧ v < m ∧ Dw o' ∧ S = o' :: R
def TakeM (R : Sto) (m : Int) (cs : List Int) : Fl × MP.Loc → Sto → Prop := fun y S => ∃ p c s, DrI cs p c s ∧ y = (.nx, [some (.obj 0), some (.dat (.int m)), none]) ∧ S = dr cs p c s :: R
theorem take_ok {n : Nat} {o : Ob} {R : Sto} {m : Int} (ho : Dw o) (hm : 0 < m) (hl : m.natAbs < 2 ^ 64) (hR : Cl R) : Holds (callM Gc ft (n + 1) 1 [.obj 0, .dat (.int m)] (o :: R)) (TakeQ R m) := by
  obtain ⟨cs, p, c, s, rfl, i⟩ := ho
  refine call_def ft_Ltake rfl ?_
  simp [d_Ltake, start', dr]
  refine kifs_cut (TakeM R m cs) ?_ ?_
  · refine kifs_b (fun h => ?_) fun h => ?_
    · simp
      refine kifs_cut (fun y S => ∃ c, 0 ≤ c ∧ y = (.nx, [some (.obj 0), some (.dat (.int m)), none]) ∧ S = dr cs (p + 1) c s :: R) ?_ ?_
      · refine kifs_b (fun h => ?_) fun h => ?_
        · have h := of_decide_eq_true h
          obtain ⟨d, hd, e⟩ := at_in (xs := cs.map .int) (i := p + 1) (by have := i.p; omega) (by simpa using h)
          obtain ⟨x, hx, rfl⟩ := List.mem_map.mp hd
          simp [e]
          exact ⟨x, i.cs x hx, rfl⟩
        · simp
          exact ⟨c, i.c, rfl⟩
      · rintro y S ⟨c, hc, rfl, rfl⟩
        simp [dr]
        refine kifs_b (fun h => ?_) fun h => ?_
        · have := i.s0
          have := i.s1
          have hk : mulOk s 48271 := mulOk_s (by omega) (by decide)
          simp [hk]
          exact ⟨p + 1, _, _, ⟨i.cs, by have := i.p; omega, by omega, by omega, by omega⟩, rfl, rfl⟩
        · simp
          exact ⟨p + 1, c, s, ⟨i.cs, by have := i.p; omega, hc, i.s0, i.s1⟩, rfl, rfl⟩
    · simp
      exact ⟨p, c, s, i, rfl, rfl⟩
  · rintro y S ⟨p, c, s, i, rfl, rfl⟩
    have hd := divOk_s hm hl
    simp [dr, hm, hd, leave_0 rfl hR]
    exact ⟨_, _, rfl, Int.emod_nonneg _ (by omega), Int.emod_lt_of_pos _ hm, ⟨cs, p, c / m, s, rfl, i.cs, i.p, Int.ediv_nonneg i.c (by omega), i.s0, i.s1⟩, rfl⟩
def DrawQ : W → Sto → Prop := fun w S => ∃ o, w = .obj 0 ∧ Dw o ∧ S = [o]
theorem draw_ok {n : Nat} {ns : List Int} (hl : ns.length ≤ 63) : Holds (callM Gc ft (n + 1) 0 [.scr (ns.map .int)] []) DrawQ := by
  refine call_def ft_Ldraw rfl ?_
  simp [d_Ldraw, start']
  refine forL_inv (fun l S => S = [] ∧ ∃ s x, 0 ≤ s ∧ s < 2147483647 ∧ l = [some (.scr (ns.map .int)), some (.dat (.int s)), x]) ⟨rfl, 7, none, by decide, by decide, rfl⟩ ?_ ?_
  · rintro d hd l S ⟨rfl, s, x, h0, h1, rfl⟩
    obtain ⟨i, hi, rfl⟩ := List.mem_map.mp hd
    rw [forB_ap]
    have hk : mulOk s 48271 := mulOk_s (by omega) (by decide)
    simp [d_Ldraw_b1, hk]
    omega
  · rintro l S ⟨rfl, s, x, h0, h1, rfl⟩
    simp
    refine forC_all (fun d => ∃ x, d = .int x ∧ 0 ≤ x) (by simp; exact Nat.le_trans hl (by decide)) ?_ ?_
    · intro d hd
      obtain ⟨i, hi, rfl⟩ := List.mem_map.mp hd
      rw [comp_ap]
      simp [wipeL]
      split <;> omega
    · intro ys h2 h3
      obtain ⟨xs, rfl, hx⟩ := ints_of h3
      simp [leave, keepN, obBelow]
      exact ⟨_, rfl, ⟨xs, -1, 0, s, rfl, hx, by decide, by decide, h0, h1⟩, rfl⟩
end Lw
set_option Elab.async false
set_option linter.all false
set_option maxRecDepth 100000
set_option maxHeartbeats 4000000
/-! Gates, circuits: what the defs about them compute. -/
namespace Lw
open PySem MP L2
abbrev Gate := Int × List (Int × Int)
def dGate (g : Gate) : MP.D := .tuple [.int g.1, .tuple (g.2.map dPair)]
def dGates (gs : List Gate) : MP.D := .tuple (gs.map dGate)
def heldL (cs : List (Int × Int)) (bs : List Int) : Bool := cs.all fun c => decide (getI bs c.1 = c.2)
def turnL (bs : List Int) (g : Gate) : List Int := if heldL g.2 bs = true then bs.set g.1.toNat (1 - getI bs g.1) else bs
def runL (gs : List Gate) (bs : List Int) : List Int := gs.foldl turnL bs
/-- all its wires lie below n, not too many -/
structure InG (n : Int) (g : Gate) : Prop where
  t0 : 0 ≤ g.1
  t1 : g.1 < n
  c0 : ∀ c, c ∈ g.2 → 0 ≤ c.1
  c1 : ∀ c, c ∈ g.2 → c.1 < n
  len : g.2.length ≤ 1000
theorem turnL_len (bs : List Int) (g : Gate) : (turnL bs g).length = bs.length := by
  unfold turnL; split <;> simp
theorem runL_len (gs : List Gate) : ∀ bs : List Int, (runL gs bs).length = bs.length := by
  induction gs with
  | nil => intro bs; rfl
  | cons g gs ih => intro bs; show (runL gs (turnL bs g)).length = _; rw [ih, turnL_len]
theorem sh_pair {p : Int × Int} : Sh 1 (dPair p) := sh_tuple (k := 0) fun x hx => by
  simp at hx
  rcases hx with rfl | rfl <;> exact sh_int
theorem sh_gate {g : Gate} : Sh 3 (dGate g) := sh_tuple (k := 2) fun x hx => by
  simp at hx
  rcases hx with rfl | rfl
  · exact sh_int
  · exact sh_tuple fun x hx => by
      obtain ⟨p, _, rfl⟩ := List.mem_map.mp hx
      exact sh_pair
theorem sh_gates {gs : List Gate} : Sh 4 (dGates gs) := sh_tuple fun x hx => by
  obtain ⟨p, _, rfl⟩ := List.mem_map.mp hx
  exact sh_gate
theorem lturned_eq {n : Nat} {gs : List Gate} {bs : List Int} {w : W} {S : Sto} (hg : ∀ g, g ∈ gs → InG bs.length g) (hw : biW S .list true [w] = .ok (.obj S.length) (S ++ [.lst (bs.map .int)])) (hS : ClS S) :
    callM Gc ft (n + 1) 4 [.dat (dGates gs), w] S = .ok (.dat (.tuple ((runL gs bs).map .int))) S := by
  refine is_eq (call_def ft_Lturned rfl ?_)
  simp [d_Lturned, start', hw, dGates]
  refine forL_idx (fun i l S' => ∃ a b c d, S' = S ++ [.lst ((runL (gs.take i) bs).map .int)] ∧ l = [some (.dat (dGates gs)), some (.obj S.length), a, b, c, d]) ⟨none, none, none, none, rfl, rfl⟩ ?_ ?_
  · rintro i d hd l S' ⟨a, b, c, e, rfl, rfl⟩
    rw [List.getElem?_map] at hd
    obtain ⟨g, hgi, rfl⟩ := Option.map_eq_some_iff.mp hd
    have hin := hg g (List.mem_of_getElem? hgi)
    have hr : runL (gs.take (i + 1)) bs = turnL (runL (gs.take i) bs) g := by
      rw [List.take_add_one, hgi]; simp [runL]
    have hlen := runL_len (gs.take i) bs
    rw [hr, forB_ap, dGate, wg_tup]
    refine ⟨rfl, ?_⟩
    simp [d_Lturned_b1]
    refine forC_filtM dPair (fun p => !decide (getI (runL (gs.take i) bs) p.1 = p.2)) (fun p => .int p.1) (small_len hin.len) ?_ ?_
    · intro p hp
      rw [comp_ap, dPair, wg_tup]
      refine ⟨rfl, ?_⟩
      simp [wipeL, idx_ob last_get, at_getI (hin.c0 p hp) (by rw [hlen]; exact hin.c1 p hp)]
      by_cases h : getI (runL (gs.take i) bs) p.1 = p.2 <;> simp [h]
    · simp
      rw [cmp_eq_nil (k := 1) (sh_list fun x hx => by
        obtain ⟨p, _, rfl⟩ := List.mem_map.mp hx
        exact sh_int)]
      simp
      refine kifs_b (fun h => ?_) fun h => ?_
      · have hh : heldL g.2 (runL (gs.take i) bs) = true := by
          simp at h
          simp only [heldL, List.all_eq_true, decide_eq_true_eq]
          exact fun c hc => h c.1 c.2 hc
        simp [idx_ob last_get, at_getI hin.t0 (by rw [hlen]; exact hin.t1), set_ob last_get (ix_nn (n := ((runL (gs.take i) bs).map PyData.int).length) hin.t0 (by rw [List.length_map, hlen]; exact hin.t1))]
        simp [turnL, hh]
      · have hh : heldL g.2 (runL (gs.take i) bs) = false := by
          cases e : heldL g.2 (runL (gs.take i) bs) with
          | false => rfl
          | true =>
            simp only [heldL, List.all_eq_true, decide_eq_true_eq] at e
            simp at h
            obtain ⟨x, y, hx, hne⟩ := h
            exact absurd (e _ hx) hne
        simp [turnL, hh]
  · rintro l S' ⟨a, b, c, d, rfl, rfl⟩
    simp [bi_ob last_get]
    rw [leave_more (by simp) hS]
    simp
/-! ### what a gate is -/
def PairN (c : Int × Int) : Prop := 0 ≤ c.1 ∧ 0 ≤ c.2
theorem is_number_eq {n : Nat} {i : Int} {S : Sto} (h : 0 ≤ i) (hS : ClS S) : callM Gc ft (n + 1) 8 [.dat (.int i)] S = .ok (.dat (.bool true)) S := by
  refine is_eq (call_def ft_is_number rfl ?_)
  simp [d_is_number, start', h, leave_same rfl hS]
/-- a right gate -/
structure GoodG (n : Int) (g : Gate) : Prop extends InG n g where
  v : ∀ c, c ∈ g.2 → c.2 = 0 ∨ c.2 = 1
  ne : ∀ c, c ∈ g.2 → c.1 ≠ g.1
  srt : g.2.Pairwise fun a b => a.1 < b.1
theorem is_gate_eq {n : Nat} {m : Int} {g : Gate} {S : Sto} (h : GoodG m g) (hS : ClS S) : callM Gc ft (n + 2) 7 [.dat (dGate g)] S = .ok (.dat (.bool true)) S := by
  refine is_eq (call_def ft_is_gate rfl ?_)
  simp [d_is_gate, start', dGate, is_number_eq h.t0 hS]
  refine forL_idx (fun i l S' => S' = S ∧ ∃ b c, (∀ x, x ∈ g.2.drop i → b < x.1) ∧ l = [some (.dat (dGate g)), some (.dat (.int b)), c]) ⟨rfl, -1, none, fun x hx => by have := h.c0 x (by simpa using hx); omega, rfl⟩ ?_ ?_
  · rintro i d hd l S' ⟨rfl, b, c, hb, rfl⟩
    rw [List.getElem?_map] at hd
    obtain ⟨p, hp, rfl⟩ := Option.map_eq_some_iff.mp hd
    have hm := List.mem_of_getElem? hp
    have hlt := (List.getElem?_eq_some_iff.mp hp).1
    have hdr : g.2.drop i = p :: g.2.drop (i + 1) := by
      rw [List.drop_eq_getElem_cons hlt]
      rw [List.getElem?_eq_getElem hlt] at hp
      cases hp; rfl
    have h1 := hb p (by rw [hdr]; exact List.mem_cons_self)
    have h2 := h.v p hm
    have h3 := h.ne p hm
    have hs : ∀ x, x ∈ g.2.drop (i + 1) → p.1 < x.1 := by
      have := h.srt.sublist (List.drop_sublist i g.2)
      rw [hdr] at this
      exact (List.pairwise_cons.mp this).1
    rw [forB_ap]
    have v1 : ¬ 1 < p.2 := by omega
    have v2 : ¬ p.1 ≤ b := by omega
    simp [d_is_gate_b1, dPair, is_number_eq (h.c0 p hm) hS, is_number_eq (show 0 ≤ p.2 by omega) hS, v1, v2, h3, dGate]
    exact fun a b hx => hs (a, b) hx
  · rintro l S' ⟨rfl, b, c, hb, rfl⟩
    simp [leave_same rfl hS]
theorem wires_of_eq {n : Nat} {g : Gate} {S : Sto} (hl : g.2.length ≤ 1000) (hS : ClS S) : callM Gc ft (n + 1) 6 [.dat (dGate g)] S = .ok (.dat (.list ((g.1 :: g.2.map (·.1)).map .int))) S := by
  refine is_eq (call_def ft_wires_of rfl ?_)
  simp [d_wires_of, start', dGate]
  refine forC_mapM dPair (fun p => .int p.1) (small_len hl) ?_ ?_
  · intro p hp
    rw [comp_ap, dPair, wg_tup]
    refine ⟨rfl, ?_⟩
    simp [wipeL]
  · have : 1 + g.2.length ≤ sizeLine := small_len' (by omega)
    simp [this, leave_same rfl hS]
theorem maxI_lt : ∀ {ns : List Int} {m : Int}, ns ≠ [] → (∀ x, x ∈ ns → x < m) → ∃ M, maxI ns = some M ∧ M < m
  | [], _, h, _ => absurd rfl h
  | [x], m, _, h => ⟨x, rfl, h x (by simp)⟩
  | x :: y :: r, m, _, h => by
    obtain ⟨M, e, hM⟩ := maxI_lt (ns := y :: r) (m := m) (by simp) fun z hz => h z (List.mem_cons_of_mem _ hz)
    refine ⟨if x ≤ M then M else x, ?_, ?_⟩
    · show (maxI (y :: r)).map (fun m => if x ≤ m then m else x) = _
      rw [e]; rfl
    · split
      · exact hM
      · exact h x (by simp)
theorem faults_eq {n : Nat} {m : Int} {gs : List Gate} {S : Sto} (h0 : 0 ≤ m) (hl : gs.length ≤ 1000000) (h : ∀ g, g ∈ gs → GoodG m g) (hS : ClS S) :
    callM Gc ft (n + 3) 5 [.dat (.tuple [.int m, dGates gs])] S = .ok (.dat (.list [])) S := by
  refine is_eq (call_def ft_circuit_faults rfl ?_)
  have hS1 : ClS (S ++ [.lst []]) := fun k hk => by
    have := hS k (by simp at hk; omega)
    simp [this, obBelow]
  simp [d_circuit_faults, start', dGates, is_number_eq h0 hS, small_i (i := (gs.length : Int)) (by omega) (by omega)]
  refine forL_idx (fun i l S' => S' = S ++ [.lst []] ∧ ∃ b, l = [some (.dat (.tuple [.int m, dGates gs])), some (.obj S.length), b]) ⟨rfl, none, rfl⟩ ?_ ?_
  · rintro i d hd l S' ⟨rfl, b, rfl⟩
    obtain ⟨hi, rfl⟩ := rngH_get hd
    have hg := h gs[i] (List.getElem_mem hi)
    have ha : atI (gs.map dGate) (i : Int) = some (dGate gs[i]) := atI_nat (by rw [List.getElem?_map, List.getElem?_eq_getElem hi]; rfl)
    obtain ⟨M, eM, hM⟩ := maxI_lt (ns := gs[i].1 :: gs[i].2.map (·.1)) (m := m) (by simp) (by
      intro x hx
      rcases List.mem_cons.mp hx with rfl | hx
      · exact hg.t1
      · obtain ⟨p, hp, rfl⟩ := List.mem_map.mp hx
        exact hg.c1 p hp)
    have e2 : biW (S ++ [.lst []]) .max false [.dat (.list ((gs[i].1 :: gs[i].2.map (·.1)).map .int))] = .ok (.dat (.int M)) (S ++ [.lst []]) := bi_maxI eM
    simp only [List.map_cons, List.map_map] at e2
    rw [forB_ap]
    simp [d_circuit_faults_b1, dGates, ha, is_gate_eq hg hS1, wires_of_eq (n := n + 1) hg.len hS1, e2, show ¬ m ≤ M by omega]
  · rintro l S' ⟨rfl, b, rfl⟩
    simp [frz_ob last_get]
    rw [leave_more (by simp) hS]
    simp
end Lw
set_option Elab.async false
set_option linter.all false
set_option maxRecDepth 100000
set_option maxHeartbeats 4000000
/-! Adding and taking away on wires: plain laws. -/
namespace Lw
open MP
abbrev Bits := Int → Int
def put (f : Bits) (i x : Int) : Bits := fun j => if j = i then x else f j
theorem put_self {f : Bits} {i x : Int} : put f i x i = x := by simp [put]
theorem put_ne {f : Bits} {i j x : Int} (h : j ≠ i) : put f i x j = f j := by simp [put, h]
def heldF (cs : List (Int × Int)) (f : Bits) : Bool := cs.all fun c => decide (f c.1 = c.2)
def turnF (f : Bits) (g : Gate) : Bits := if heldF g.2 f = true then put f g.1 (1 - f g.1) else f
def runF (gs : List Gate) (f : Bits) : Bits := gs.foldl turnF f
theorem runF_app (a b : List Gate) (f : Bits) : runF (a ++ b) f = runF b (runF a f) := by simp [runF]
theorem heldF_iff {cs : List (Int × Int)} {f : Bits} : heldF cs f = true ↔ ∀ c, c ∈ cs → f c.1 = c.2 := by simp [heldF]
theorem heldF_congr {cs : List (Int × Int)} {f g : Bits} (h : ∀ c, c ∈ cs → f c.1 = g c.1) : heldF cs f = heldF cs g := by
  rw [Bool.eq_iff_iff, heldF_iff, heldF_iff]
  exact ⟨fun q c hc => (h c hc) ▸ q c hc, fun q c hc => (h c hc).symm ▸ q c hc⟩
/-! ### lists of bits -/
theorem getI_set {bs : List Int} {t i x : Int} (h0 : 0 ≤ t) (h1 : t < bs.length) (hi : 0 ≤ i) : getI (bs.set t.toNat x) i = put (getI bs) t x i := by
  obtain ⟨a, rfl⟩ := nat_of h0
  obtain ⟨b, rfl⟩ := nat_of hi
  have ha : a < bs.length := by omega
  unfold getI put
  by_cases e : b = a
  · subst e
    simp [List.getD, ha]
  · have e' : ¬ ((b : Int) = a) := by omega
    simp [List.getD, e', List.getElem?_set_ne (Ne.symm e)]
theorem turn_rel {bs : List Int} {f : Bits} {g : Gate} (hg : InG bs.length g) (h : ∀ i, 0 ≤ i → getI bs i = f i) : ∀ i, 0 ≤ i → getI (turnL bs g) i = turnF f g i := by
  intro i hi
  have e : heldL g.2 bs = heldF g.2 f := heldF_congr (f := getI bs) fun c hc => h _ (hg.c0 c hc)
  unfold turnL turnF
  rw [e]
  split
  · rw [getI_set hg.t0 hg.t1 hi]
    unfold put
    split
    · rw [h _ hg.t0]
    · exact h i hi
  · exact h i hi
theorem run_rel : ∀ {gs : List Gate} {bs : List Int} {f : Bits}, (∀ g, g ∈ gs → InG bs.length g) → (∀ i, 0 ≤ i → getI bs i = f i) → ∀ i, 0 ≤ i → getI (runL gs bs) i = runF gs f i
  | [], _, _, _, h => h
  | g :: gs, bs, f, hg, h => by
    show ∀ i, 0 ≤ i → getI (runL gs (turnL bs g)) i = runF gs (turnF f g) i
    exact run_rel (fun x hx => by rw [turnL_len]; exact hg x (List.mem_cons_of_mem _ hx)) (turn_rel (hg g List.mem_cons_self) h)
theorem list_ext {as bs : List Int} (hl : as.length = bs.length) (h : ∀ i : Int, 0 ≤ i → i < as.length → getI as i = getI bs i) : as = bs := by
  refine List.ext_getElem hl fun i h1 h2 => ?_
  have := h i (by omega) (by omega)
  simpa [getI, List.getD, h1, h2] using this
/-! ### numbers on wires -/
def val (f : Bits) : List Int → Int
  | [] => 0
  | t :: ts => f t + 2 * val f ts
def Bit (f : Bits) (ts : List Int) : Prop := ∀ t, t ∈ ts → f t = 0 ∨ f t = 1
theorem val_congr {f g : Bits} : ∀ {ts : List Int}, (∀ t, t ∈ ts → f t = g t) → val f ts = val g ts
  | [], _ => rfl
  | t :: ts, h => by
    show f t + 2 * val f ts = g t + 2 * val g ts
    rw [h t List.mem_cons_self, val_congr fun x hx => h x (List.mem_cons_of_mem _ hx)]
theorem val_range {f : Bits} : ∀ {ts : List Int}, Bit f ts → 0 ≤ val f ts ∧ val f ts < 2 ^ ts.length
  | [], _ => ⟨Int.le_refl _, by show (0 : Int) < 2 ^ 0; decide⟩
  | t :: ts, h => by
    obtain ⟨a, b⟩ := val_range (f := f) (ts := ts) fun x hx => h x (List.mem_cons_of_mem _ hx)
    have := h t List.mem_cons_self
    show 0 ≤ f t + 2 * val f ts ∧ f t + 2 * val f ts < 2 ^ (ts.length + 1)
    rw [Int.pow_succ]
    omega
theorem div_div {a b c : Int} (h : 0 ≤ b) : a / b / c = a / (b * c) := by
  first | exact Int.ediv_ediv h | exact Int.ediv_ediv_of_nonneg h | exact Int.ediv_ediv_eq_ediv_mul a h | exact Int.ediv_ediv _ h
theorem val_bit {f : Bits} : ∀ {ts : List Int} {k : Nat} {t : Int}, Bit f ts → ts[k]? = some t → f t = val f ts / 2 ^ k % 2
  | [], k, t, _, h => by simp at h
  | t :: ts, 0, u, hb, h => by
    simp at h
    subst h
    show f t = (f t + 2 * val f ts) / 2 ^ 0 % 2
    have := hb t List.mem_cons_self
    rw [Int.pow_zero, Int.ediv_one]
    omega
  | t :: ts, k + 1, u, hb, h => by
    have ih := val_bit (f := f) (ts := ts) (k := k) (t := u) (fun x hx => hb x (List.mem_cons_of_mem _ hx)) (by simpa using h)
    have h0 := hb t List.mem_cons_self
    show f u = (f t + 2 * val f ts) / 2 ^ (k + 1) % 2
    have e : (f t + 2 * val f ts) / 2 = val f ts := by omega
    rw [Int.pow_succ, Int.mul_comm (2 ^ k) 2, ← div_div (by decide), e]
    exact ih
/-! ### one step up or down -/
def wc (v : Int) (C : List (Int × Int)) (t s : Int) (P : List Int) : Gate := (t, sortP ((s, 1) :: (P.map fun w => (w, v)) ++ C))
def incG (v : Int) (C : List (Int × Int)) (s : Int) : List Int → List Int → List Gate
  | _, [] => []
  | P, t :: ts => incG v C s (P ++ [t]) ts ++ [wc v C t s P]
def addG (v : Int) (C : List (Int × Int)) : List Int → List Int → List Gate
  | t :: ts, s :: ss => incG v C s [] (t :: ts) ++ addG v C ts ss
  | _, _ => []
theorem insP_perm (x : Int × Int) : ∀ l : List (Int × Int), (insP x l).Perm (x :: l)
  | [] => .refl _
  | y :: r => by
    show (if leP x y = true then x :: y :: r else y :: insP x r).Perm (x :: y :: r)
    split
    · exact .refl _
    · exact ((insP_perm x r).cons y).trans (.swap x y r)
theorem sortP_perm : ∀ l : List (Int × Int), (sortP l).Perm l
  | [] => .refl _
  | x :: l => (insP_perm x _).trans ((sortP_perm l).cons x)
theorem wc_held {v : Int} {C : List (Int × Int)} {t s : Int} {P : List Int} {f : Bits} : heldF (wc v C t s P).2 f = true ↔ f s = 1 ∧ (∀ p, p ∈ P → f p = v) ∧ heldF C f = true := by
  have pm := sortP_perm ((s, 1) :: (P.map fun w => (w, v)) ++ C)
  rw [heldF_iff, heldF_iff]
  constructor
  · intro h
    have h' : ∀ c, c ∈ (s, (1 : Int)) :: (P.map fun w => (w, v)) ++ C → f c.1 = c.2 := fun c hc => h c (pm.mem_iff.mpr hc)
    exact ⟨h' (s, 1) (by simp), fun p hp => h' (p, v) (by simp [hp]), fun c hc => h' c (by simp [hc])⟩
  · rintro ⟨h1, h2, h3⟩ c hc
    have hc := pm.mem_iff.mp hc
    simp at hc
    rcases hc with rfl | ⟨w, hw, rfl⟩ | hc
    · exact h1
    · exact h2 w hw
    · exact h3 c hc
theorem inc_run {v : Int} {C : List (Int × Int)} {s : Int} (hv : v = 0 ∨ v = 1) : ∀ {ts P : List Int} {f : Bits}, ts.Nodup → s ∉ ts → (∀ p, p ∈ P → p ∉ ts) → (∀ c, c ∈ C → c.1 ∉ ts) → Bit f ts →
    (∀ i, i ∉ ts → runF (incG v C s P ts) f i = f i) ∧ Bit (runF (incG v C s P ts) f) ts ∧
    val (runF (incG v C s P ts) f) ts = if f s = 1 ∧ (∀ p, p ∈ P → f p = v) ∧ heldF C f = true then (val f ts + (2 * v - 1)) % 2 ^ ts.length else val f ts
  | [], P, f, _, _, _, _, hb => ⟨fun _ _ => rfl, fun _ h => absurd h (by simp), by
      show (0 : Int) = _
      split
      · show (0 : Int) = (0 + _) % 2 ^ 0
        rw [Int.pow_zero, Int.emod_one]
      · rfl⟩
  | t :: ts, P, f, nd, hs, hP, hC, hb => by
    obtain ⟨ht, nd'⟩ := List.nodup_cons.mp nd
    simp only [List.mem_cons, not_or] at hs
    have hP' : ∀ p, p ∈ P ++ [t] → p ∉ ts := fun p hp => by
      rcases List.mem_append.mp hp with hp | hp
      · exact fun z => hP p hp (List.mem_cons_of_mem _ z)
      · rw [List.mem_singleton.mp hp]; exact ht
    obtain ⟨i1, i2, i3⟩ := inc_run hv (ts := ts) (P := P ++ [t]) (f := f) nd' hs.2 hP' (fun c hc z => hC c hc (List.mem_cons_of_mem _ z)) fun x hx => hb x (List.mem_cons_of_mem _ hx)
    generalize hf1 : runF (incG v C s (P ++ [t]) ts) f = f1 at i1 i2 i3
    have e : runF (incG v C s P (t :: ts)) f = turnF f1 (wc v C t s P) := by
      show runF (incG v C s (P ++ [t]) ts ++ [wc v C t s P]) f = _
      rw [runF_app, hf1]; rfl
    have f1t : f1 t = f t := i1 t ht
    have hgo : heldF (wc v C t s P).2 f1 = true ↔ f s = 1 ∧ (∀ p, p ∈ P → f p = v) ∧ heldF C f = true := by
      rw [wc_held, i1 s hs.2, heldF_congr (g := f) fun c hc => i1 c.1 fun z => hC c hc (List.mem_cons_of_mem _ z)]
      constructor
      · rintro ⟨a, b, c⟩; exact ⟨a, fun p hp => by rw [← i1 p fun z => hP p hp (List.mem_cons_of_mem _ z)]; exact b p hp, c⟩
      · rintro ⟨a, b, c⟩; exact ⟨a, fun p hp => by rw [i1 p fun z => hP p hp (List.mem_cons_of_mem _ z)]; exact b p hp, c⟩
    have hbt := hb t List.mem_cons_self
    have hr := val_range (f := f) (ts := ts) fun x hx => hb x (List.mem_cons_of_mem _ hx)
    rw [e]
    by_cases go : f s = 1 ∧ (∀ p, p ∈ P → f p = v) ∧ heldF C f = true
    · have et : turnF f1 (wc v C t s P) = put f1 t (1 - f1 t) := by unfold turnF; rw [if_pos (hgo.mpr go)]; rfl
      rw [et, if_pos go]
      have vts : val (put f1 t (1 - f1 t)) ts = val f1 ts := val_congr fun x hx => put_ne fun z => ht (by rw [← z]; exact hx)
      refine ⟨fun i hi => ?_, fun x hx => ?_, ?_⟩
      · simp only [List.mem_cons, not_or] at hi
        rw [put_ne hi.1, i1 i hi.2]
      · rcases List.mem_cons.mp hx with rfl | hx
        · rw [put_self, f1t]; omega
        · rw [put_ne fun z => ht (by rw [← z]; exact hx)]; exact i2 x hx
      · show put f1 t (1 - f1 t) t + 2 * val (put f1 t (1 - f1 t)) ts = (f t + 2 * val f ts + (2 * v - 1)) % 2 ^ (ts.length + 1)
        rw [put_self, vts, f1t, i3, Int.pow_succ]
        have hp : (0 : Int) < 2 ^ ts.length := Int.pow_pos (by decide)
        by_cases h1 : f t = v
        · rw [if_pos ⟨go.1, fun p hp => by
            rcases List.mem_append.mp hp with hp | hp
            · exact go.2.1 p hp
            · rw [List.mem_singleton.mp hp]; exact h1, go.2.2⟩, h1]
          have e2 : v + 2 * val f ts + (2 * v - 1) = (1 - v) + 2 * (val f ts + (2 * v - 1)) := by omega
          rw [e2]
          generalize val f ts + (2 * v - 1) = z
          have h2 := Int.emod_add_mul_ediv z (2 ^ ts.length)
          have h3 := Int.emod_nonneg z (Int.ne_of_gt hp)
          have h4 := Int.emod_lt_of_pos z hp
          have e3 : (1 - v) + 2 * z = ((1 - v) + 2 * (z % 2 ^ ts.length)) + (2 ^ ts.length * 2) * (z / 2 ^ ts.length) := by
            have : 2 ^ ts.length * 2 * (z / 2 ^ ts.length) = 2 * (2 ^ ts.length * (z / 2 ^ ts.length)) := by
              rw [Int.mul_comm (2 ^ ts.length) 2, Int.mul_assoc]
            rw [this]
            omega
          rw [e3, Int.add_mul_emod_self_left]
          exact (Int.emod_eq_of_lt (by omega) (by omega)).symm
        · rw [if_neg fun z => h1 (z.2.1 t (by simp))]
          rw [Int.emod_eq_of_lt (by omega) (by omega)]
          omega
    · have et : turnF f1 (wc v C t s P) = f1 := by unfold turnF; rw [if_neg fun z => go (hgo.mp z)]
      rw [et, if_neg go]
      refine ⟨fun i hi => i1 i fun z => hi (List.mem_cons_of_mem _ z), fun x hx => ?_, ?_⟩
      · rcases List.mem_cons.mp hx with rfl | hx
        · rw [f1t]; exact hbt
        · exact i2 x hx
      · show f1 t + 2 * val f1 ts = f t + 2 * val f ts
        rw [f1t, i3, if_neg]
        rintro ⟨a, b, c⟩
        exact go ⟨a, fun p hp => b p (by simp [hp]), c⟩
theorem two_mod {a z p : Int} (ha : a = 0 ∨ a = 1) (hp : 0 < p) : a + 2 * (z % p) = (a + 2 * z) % (p * 2) := by
  have h2 := Int.emod_add_mul_ediv z p
  have h3 := Int.emod_nonneg z (Int.ne_of_gt hp)
  have h4 := Int.emod_lt_of_pos z hp
  have e3 : a + 2 * z = (a + 2 * (z % p)) + (p * 2) * (z / p) := by
    have : p * 2 * (z / p) = 2 * (p * (z / p)) := by rw [Int.mul_comm p 2, Int.mul_assoc]
    rw [this]
    omega
  rw [e3, Int.add_mul_emod_self_left]
  exact (Int.emod_eq_of_lt (by omega) (by omega)).symm
theorem add_run {v : Int} {C : List (Int × Int)} (hv : v = 0 ∨ v = 1) : ∀ {T Sx : List Int} {f : Bits}, T.Nodup → (∀ s, s ∈ Sx → s ∉ T) → (∀ c, c ∈ C → c.1 ∉ T) → Bit f T → Bit f Sx → Sx.length ≤ T.length →
    (∀ i, i ∉ T → runF (addG v C T Sx) f i = f i) ∧ Bit (runF (addG v C T Sx) f) T ∧ val (runF (addG v C T Sx) f) T = if heldF C f = true then (val f T + (2 * v - 1) * val f Sx) % 2 ^ T.length else val f T
  | T, [], f, nd, hs, hC, hb, _, _ => by
    have e : addG v C T [] = [] := by cases T <;> rfl
    rw [e]
    refine ⟨fun _ _ => rfl, hb, ?_⟩
    have := val_range hb
    show val f T = if _ then (val f T + (2 * v - 1) * 0) % _ else _
    rw [Int.mul_zero, Int.add_zero, Int.emod_eq_of_lt this.1 this.2]
    split <;> rfl
  | [], _ :: _, f, _, _, _, _, _, hl => by simp at hl
  | t :: ts, s :: ss, f, nd, hs, hC, hb, hbs, hl => by
    obtain ⟨ht, nd'⟩ := List.nodup_cons.mp nd
    have hs0 := hs s List.mem_cons_self
    obtain ⟨i1, i2, i3⟩ := inc_run (v := v) (C := C) (s := s) hv (ts := t :: ts) (P := []) (f := f) nd hs0 (fun p hp => absurd hp (by simp)) hC hb
    generalize hf1 : runF (incG v C s [] (t :: ts)) f = f1 at i1 i2 i3
    have hss : ∀ x, x ∈ ss → f1 x = f x := fun x hx => i1 x (hs x (List.mem_cons_of_mem _ hx))
    obtain ⟨j1, j2, j3⟩ := add_run hv (T := ts) (Sx := ss) (f := f1) nd' (fun x hx z => hs x (List.mem_cons_of_mem _ hx) (List.mem_cons_of_mem _ z)) (fun c hc z => hC c hc (List.mem_cons_of_mem _ z)) (fun x hx => i2 x (List.mem_cons_of_mem _ hx))
      (fun x hx => by rw [hss x hx]; exact hbs x (List.mem_cons_of_mem _ hx)) (by simpa using hl)
    have e : runF (addG v C (t :: ts) (s :: ss)) f = runF (addG v C ts ss) f1 := by
      show runF (incG v C s [] (t :: ts) ++ addG v C ts ss) f = _
      rw [runF_app, hf1]
    rw [e]
    generalize runF (addG v C ts ss) f1 = f2 at j1 j2 j3
    have f2t : f2 t = f1 t := j1 t ht
    have hheld : heldF C f1 = heldF C f := heldF_congr fun c hc => i1 c.1 (hC c hc)
    refine ⟨fun i hi => ?_, fun x hx => ?_, ?_⟩
    · rw [j1 i fun z => hi (List.mem_cons_of_mem _ z), i1 i hi]
    · rcases List.mem_cons.mp hx with rfl | hx
      · rw [f2t]; exact i2 x List.mem_cons_self
      · exact j2 x hx
    · have hp : (0 : Int) < 2 ^ ts.length := Int.pow_pos (by decide)
      have hr := val_range hb
      have b1 := i2 t List.mem_cons_self
      rw [hheld, val_congr hss] at j3
      show f2 t + 2 * val f2 ts = if _ then (val f (t :: ts) + (2 * v - 1) * (f s + 2 * val f ss)) % 2 ^ (ts.length + 1) else _
      rw [f2t, j3]
      cases hh : heldF C f with
      | false =>
        rw [hh] at i3
        rw [if_neg (by decide), if_neg (by decide)]
        rw [if_neg (fun z => absurd z.2.2 (by decide))] at i3
        exact i3
      | true =>
        rw [hh] at i3
        rw [if_pos rfl, if_pos rfl, two_mod b1 hp]
        have i4 : f1 t + 2 * val f1 ts = (val f (t :: ts) + (2 * v - 1) * f s) % 2 ^ (ts.length + 1) := by
          have hbs0 := hbs s List.mem_cons_self
          by_cases hfs : f s = 1
          · rw [if_pos ⟨hfs, fun p hp => absurd hp (by simp), rfl⟩] at i3
            rw [hfs, Int.mul_one]
            exact i3
          · rw [if_neg fun z => hfs z.1] at i3
            have : f s = 0 := by omega
            rw [this, Int.mul_zero, Int.add_zero]
            show _ = val f (t :: ts) % 2 ^ (t :: ts).length
            rw [Int.emod_eq_of_lt hr.1 hr.2]
            exact i3
        have e5 : f1 t + 2 * (val f1 ts + (2 * v - 1) * val f ss) = (f1 t + 2 * val f1 ts) + 2 * ((2 * v - 1) * val f ss) := by omega
        rw [e5, i4, ← Int.pow_succ, Int.emod_add_emod]
        congr 1
        rw [Int.mul_add, Int.mul_left_comm]
        omega
/-! ### copying -/
def copyG : List Int → List Int → List Gate
  | t :: ts, s :: ss => wc 1 [] t s [] :: copyG ts ss
  | _, _ => []
theorem copy_run : ∀ {T Sx : List Int} {f : Bits}, T.Nodup → (∀ s, s ∈ Sx → s ∉ T) → (∀ t, t ∈ T → f t = 0) → Bit f Sx → Sx.length ≤ T.length →
    (∀ i, i ∉ T → runF (copyG T Sx) f i = f i) ∧ Bit (runF (copyG T Sx) f) T ∧ val (runF (copyG T Sx) f) T = val f Sx
  | T, [], f, nd, hs, h0, hb, hl => by
    have e : copyG T [] = [] := by cases T <;> rfl
    rw [e]
    refine ⟨fun _ _ => rfl, fun t ht => .inl (h0 t ht), ?_⟩
    show val f T = 0
    have : ∀ {T : List Int}, (∀ t, t ∈ T → f t = 0) → val f T = 0 := fun {T} => by
      induction T with
      | nil => intro _; rfl
      | cons t ts ih => intro h; show f t + 2 * val f ts = 0; rw [h t List.mem_cons_self, ih fun x hx => h x (List.mem_cons_of_mem _ hx)]; rfl
    exact this h0
  | [], _ :: _, f, _, _, _, _, hl => by simp at hl
  | t :: ts, s :: ss, f, nd, hs, h0, hb, hl => by
    obtain ⟨ht, nd'⟩ := List.nodup_cons.mp nd
    have hs0 := hs s List.mem_cons_self
    simp only [List.mem_cons, not_or] at hs0
    have hbs := hb s List.mem_cons_self
    have t0 := h0 t List.mem_cons_self
    have et : turnF f (wc 1 [] t s []) = put f t (f s) := by
      unfold turnF
      by_cases h1 : f s = 1
      · rw [if_pos (wc_held.mpr ⟨h1, fun p hp => absurd hp (by simp), rfl⟩)]
        show put f t (1 - f t) = _
        rw [t0, h1]; rfl
      · rw [if_neg fun z => h1 (wc_held.mp z).1]
        have : f s = 0 := by omega
        rw [this]
        funext i
        unfold put
        split
        · rename_i e; rw [e, t0]
        · rfl
    have f1 : ∀ i, i ≠ t → put f t (f s) i = f i := fun i hi => put_ne hi
    obtain ⟨j1, j2, j3⟩ := copy_run (T := ts) (Sx := ss) (f := put f t (f s)) nd' (fun x hx z => hs x (List.mem_cons_of_mem _ hx) (List.mem_cons_of_mem _ z)) (fun x hx => by rw [f1 x fun z => ht (by rw [← z]; exact hx)]; exact h0 x (List.mem_cons_of_mem _ hx))
      (fun x hx => by rw [f1 x fun z => hs x (List.mem_cons_of_mem _ hx) (by rw [z]; exact List.mem_cons_self)]; exact hb x (List.mem_cons_of_mem _ hx)) (by simpa using hl)
    have e : runF (copyG (t :: ts) (s :: ss)) f = runF (copyG ts ss) (put f t (f s)) := by
      show runF (copyG ts ss) (turnF f (wc 1 [] t s [])) = _
      rw [et]
    rw [e]
    generalize runF (copyG ts ss) (put f t (f s)) = f2 at j1 j2 j3
    have f2t : f2 t = f s := by rw [j1 t ht, put_self]
    refine ⟨fun i hi => ?_, fun x hx => ?_, ?_⟩
    · simp only [List.mem_cons, not_or] at hi
      rw [j1 i hi.2, f1 i hi.1]
    · rcases List.mem_cons.mp hx with rfl | hx
      · rw [f2t]; exact hbs
      · exact j2 x hx
    · show f2 t + 2 * val f2 ts = f s + 2 * val f ss
      rw [f2t, j3, val_congr fun x hx => f1 x fun z => hs x (List.mem_cons_of_mem _ hx) (by rw [z]; exact List.mem_cons_self)]
/-! ### there and back -/
theorem turn_turn {f : Bits} {g : Gate} (h : ∀ c, c ∈ g.2 → c.1 ≠ g.1) : turnF (turnF f g) g = f := by
  by_cases hh : heldF g.2 f = true
  · have e : turnF f g = put f g.1 (1 - f g.1) := by unfold turnF; rw [if_pos hh]
    have e2 : heldF g.2 (put f g.1 (1 - f g.1)) = true := by rw [heldF_congr (g := f) fun c hc => put_ne (h c hc)]; exact hh
    rw [e]
    unfold turnF
    rw [if_pos e2]
    funext i
    unfold put
    split
    · rename_i e3; rw [e3]; simp; omega
    · rfl
  · have e : turnF f g = f := by unfold turnF; rw [if_neg hh]
    rw [e, e]
theorem run_back : ∀ {gs : List Gate} {f : Bits}, (∀ g, g ∈ gs → ∀ c, c ∈ g.2 → c.1 ≠ g.1) → runF gs.reverse (runF gs f) = f
  | [], _, _ => rfl
  | g :: gs, f, h => by
    have e : runF (g :: gs) f = runF gs (turnF f g) := rfl
    rw [e, List.reverse_cons, runF_app, run_back fun x hx => h x (List.mem_cons_of_mem _ hx)]
    exact turn_turn (h g List.mem_cons_self)
theorem run_apart : ∀ {gs : List Gate} {f : Bits} {w x : Int}, (∀ g, g ∈ gs → g.1 ≠ w ∧ ∀ c, c ∈ g.2 → c.1 ≠ w) → runF gs (put f w x) = put (runF gs f) w x
  | [], _, _, _, _ => rfl
  | g :: gs, f, w, x, h => by
    obtain ⟨h1, h2⟩ := h g List.mem_cons_self
    have e : turnF (put f w x) g = put (turnF f g) w x := by
      unfold turnF
      rw [heldF_congr (g := f) fun c hc => put_ne (h2 c hc)]
      split
      · funext i
        unfold put
        by_cases a : i = g.1
        · have : ¬ i = w := by rw [a]; exact h1
          simp [a, h1]
        · simp [a]
      · rfl
    show runF gs (turnF (put f w x) g) = put (runF gs (turnF f g)) w x
    rw [e]
    exact run_apart fun y hy => h y (List.mem_cons_of_mem _ hy)
/-! ### which wires the gates touch -/
theorem wc_mem {v : Int} {C : List (Int × Int)} {t s : Int} {P : List Int} {c : Int × Int} : c ∈ (wc v C t s P).2 ↔ c = (s, 1) ∨ (∃ w, w ∈ P ∧ c = (w, v)) ∨ c ∈ C := by
  show c ∈ sortP _ ↔ _
  rw [(sortP_perm _).mem_iff]
  simp only [List.cons_append, List.mem_cons, List.mem_append, List.mem_map]
  constructor
  · rintro (h | ⟨w, h1, h2⟩ | h)
    · exact .inl h
    · exact .inr (.inl ⟨w, h1, h2.symm⟩)
    · exact .inr (.inr h)
  · rintro (h | ⟨w, h1, h2⟩ | h)
    · exact .inl h
    · exact .inr (.inl ⟨w, h1, h2.symm⟩)
    · exact .inr (.inr h)
/-- a gate of incG -/
theorem inc_mem {v : Int} {C : List (Int × Int)} {s : Int} : ∀ {ts P : List Int} {g : Gate}, g ∈ incG v C s P ts → ∃ t Q, g = wc v C t s Q ∧ t ∈ ts ∧ (∀ q, q ∈ Q → q ∈ P ∨ q ∈ ts) ∧ (ts.Nodup → (∀ p, p ∈ P → p ∉ ts) → t ∉ Q) ∧ (P.Nodup → ts.Nodup → (∀ p, p ∈ P → p ∉ ts) → Q.Nodup) ∧ Q.length ≤ P.length + ts.length
  | [], P, g, h => absurd h (by simp [incG])
  | t :: ts, P, g, h => by
    rcases List.mem_append.mp h with h | h
    · obtain ⟨u, Q, rfl, h1, h2, h3, h4, h5⟩ := inc_mem h
      have dis : (t :: ts).Nodup → (∀ p, p ∈ P → p ∉ t :: ts) → ∀ p, p ∈ P ++ [t] → p ∉ ts := fun nd hp p hm => by
        rcases List.mem_append.mp hm with hm | hm
        · exact fun z => hp p hm (List.mem_cons_of_mem _ z)
        · rw [List.mem_singleton.mp hm]; exact (List.nodup_cons.mp nd).1
      refine ⟨u, Q, rfl, List.mem_cons_of_mem _ h1, fun q hq => ?_, fun nd hp => h3 (List.nodup_cons.mp nd).2 (dis nd hp), fun n1 nd hp => h4 ?_ (List.nodup_cons.mp nd).2 (dis nd hp), by simp at h5 ⊢; omega⟩
      · rcases h2 q hq with h | h
        · rcases List.mem_append.mp h with h | h
          · exact .inl h
          · rw [List.mem_singleton.mp h]; exact .inr List.mem_cons_self
        · exact .inr (List.mem_cons_of_mem _ h)
      · rw [List.nodup_append]
        exact ⟨n1, by simp, fun a ha b hb => by rw [List.mem_singleton.mp hb]; exact fun z => hp a ha (by rw [z]; exact List.mem_cons_self)⟩
    · obtain rfl := List.mem_singleton.mp h
      exact ⟨t, P, rfl, List.mem_cons_self, fun q hq => .inl hq, fun _ hp z => hp t z List.mem_cons_self, fun n1 _ _ => n1, by simp⟩
theorem add_mem {v : Int} {C : List (Int × Int)} : ∀ {T Sx : List Int} {g : Gate}, g ∈ addG v C T Sx → ∃ t s Q, g = wc v C t s Q ∧ t ∈ T ∧ s ∈ Sx ∧ (∀ q, q ∈ Q → q ∈ T) ∧ (T.Nodup → t ∉ Q ∧ Q.Nodup) ∧ Q.length ≤ T.length
  | T, [], g, h => by
    have e : addG v C T [] = [] := by cases T <;> rfl
    rw [e] at h
    exact absurd h (by simp)
  | [], _ :: _, g, h => absurd h (by simp [addG])
  | t :: ts, s :: ss, g, h => by
    rcases List.mem_append.mp h with h | h
    · obtain ⟨u, Q, rfl, h1, h2, h3, h4, h5⟩ := inc_mem h
      exact ⟨u, s, Q, rfl, h1, List.mem_cons_self, fun q hq => (h2 q hq).resolve_left (by simp), fun nd => ⟨h3 nd (fun p hp => absurd hp (by simp)), h4 List.nodup_nil nd fun p hp => absurd hp (by simp)⟩, by simpa using h5⟩
    · obtain ⟨u, x, Q, rfl, h1, h2, h3, h4, h5⟩ := add_mem h
      exact ⟨u, x, Q, rfl, List.mem_cons_of_mem _ h1, List.mem_cons_of_mem _ h2, fun q hq => List.mem_cons_of_mem _ (h3 q hq), fun nd => h4 (List.nodup_cons.mp nd).2, by simp at h5 ⊢; omega⟩
theorem copy_mem : ∀ {T Sx : List Int} {g : Gate}, g ∈ copyG T Sx → ∃ t s, g = wc 1 [] t s [] ∧ t ∈ T ∧ s ∈ Sx
  | T, [], g, h => by
    have e : copyG T [] = [] := by cases T <;> rfl
    rw [e] at h
    exact absurd h (by simp)
  | [], _ :: _, g, h => absurd h (by simp [copyG])
  | t :: ts, s :: ss, g, h => by
    rcases List.mem_cons.mp h with rfl | h
    · exact ⟨t, s, rfl, List.mem_cons_self, List.mem_cons_self⟩
    · obtain ⟨u, x, rfl, h1, h2⟩ := copy_mem h
      exact ⟨u, x, rfl, List.mem_cons_of_mem _ h1, List.mem_cons_of_mem _ h2⟩
/-! ### less -/
def borG (sp first second : List Int) : List Gate := copyG sp first ++ addG 0 [] sp second
theorem less_run {C : List (Int × Int)} {sp0 first second : List Int} {last wire : Int} {f : Bits} (nd : (sp0 ++ [last]).Nodup) (h1 : ∀ s, s ∈ first → s ∉ sp0 ++ [last]) (h2 : ∀ s, s ∈ second → s ∉ sp0 ++ [last])
    (hC : ∀ c, c ∈ C → c.1 ∉ sp0 ++ [last]) (hw : wire ∉ sp0 ++ [last]) (hw1 : wire ∉ first) (hw2 : wire ∉ second) (l1 : first.length = sp0.length) (l2 : second.length = sp0.length)
    (b1 : Bit f first) (b2 : Bit f second) (h0 : ∀ t, t ∈ sp0 ++ [last] → f t = 0) :
    runF (borG (sp0 ++ [last]) first second ++ [wc 1 C wire last []] ++ (borG (sp0 ++ [last]) first second).reverse) f = if heldF C f = true ∧ val f first < val f second then put f wire (1 - f wire) else f := by
  generalize hT : sp0 ++ [last] = T at *
  have lT : T.length = sp0.length + 1 := by rw [← hT]; simp
  obtain ⟨i1, i2, i3⟩ := copy_run (T := T) (Sx := first) (f := f) nd h1 h0 b1 (by omega)
  generalize hf1 : runF (copyG T first) f = f1 at i1 i2 i3
  obtain ⟨j1, j2, j3⟩ := add_run (v := 0) (C := []) (.inl rfl) (T := T) (Sx := second) (f := f1) nd h2 (fun c hc => absurd hc (by simp)) i2 (fun s hs => by rw [i1 s (h2 s hs)]; exact b2 s hs) (by omega)
  have e2 : runF (borG T first second) f = runF (addG 0 [] T second) f1 := by unfold borG; rw [runF_app, hf1]
  generalize hf2 : runF (addG 0 [] T second) f1 = f2 at j1 j2 j3 e2
  rw [if_pos (show heldF [] f1 = true from rfl), i3, val_congr fun s hs => i1 s (h2 s hs)] at j3
  have f2o : ∀ i, i ∉ T → f2 i = f i := fun i hi => by rw [j1 i hi, i1 i hi]
  have hlast : T[sp0.length]? = some last := by rw [← hT]; simp
  have vb := val_bit j2 hlast
  have r1 := val_range b1
  have r2 := val_range b2
  rw [l1] at r1
  rw [l2] at r2
  have hp : (0 : Int) < 2 ^ sp0.length := Int.pow_pos (by decide)
  have top : f2 last = if val f first < val f second then 1 else 0 := by
    rw [vb, j3, lT, Int.pow_succ]
    by_cases hlt : val f first < val f second
    · rw [if_pos hlt]
      have e : (val f first + (2 * 0 - 1) * val f second) % (2 ^ sp0.length * 2) = val f first - val f second + 2 ^ sp0.length * 2 := by
        rw [show val f first + (2 * 0 - 1) * val f second = (val f first - val f second + 2 ^ sp0.length * 2) + (2 ^ sp0.length * 2) * (-1) by omega, Int.add_mul_emod_self_left]
        exact Int.emod_eq_of_lt (by omega) (by omega)
      rw [e]
      have e3 : (val f first - val f second + 2 ^ sp0.length * 2) / 2 ^ sp0.length = 1 := by
        rw [show val f first - val f second + 2 ^ sp0.length * 2 = (val f first - val f second + 2 ^ sp0.length) + 2 ^ sp0.length * 1 by omega, Int.add_mul_ediv_left _ _ (by omega), Int.ediv_eq_zero_of_lt (by omega) (by omega)]
        rfl
      rw [e3]; rfl
    · rw [if_neg hlt]
      have e : (val f first + (2 * 0 - 1) * val f second) % (2 ^ sp0.length * 2) = val f first - val f second := by
        rw [show val f first + (2 * 0 - 1) * val f second = val f first - val f second by omega]
        exact Int.emod_eq_of_lt (by omega) (by omega)
      rw [e, Int.ediv_eq_zero_of_lt (by omega) (by omega)]
      rfl
  have apart : ∀ g, g ∈ (borG T first second).reverse → g.1 ≠ wire ∧ ∀ c, c ∈ g.2 → c.1 ≠ wire := fun g hg => by
    have hg := List.mem_reverse.mp hg
    unfold borG at hg
    rcases List.mem_append.mp hg with hg | hg
    · obtain ⟨t, s, rfl, ht, hs⟩ := copy_mem hg
      refine ⟨fun z => hw (by rw [← z]; exact ht), fun c hc z => ?_⟩
      rcases wc_mem.mp hc with rfl | ⟨w, hm, _⟩ | hm
      · exact hw1 (by rw [← z]; exact hs)
      · simp at hm
      · simp at hm
    · obtain ⟨t, s, Q, rfl, ht, hs, hQ, _, _⟩ := add_mem hg
      refine ⟨fun z => hw (by rw [← z]; exact ht), fun c hc z => ?_⟩
      rcases wc_mem.mp hc with rfl | ⟨w, hm, rfl⟩ | hm
      · exact hw2 (by rw [← z]; exact hs)
      · exact hw (by rw [← z]; exact hQ w hm)
      · simp at hm
  have selfless : ∀ g, g ∈ borG T first second → ∀ c, c ∈ g.2 → c.1 ≠ g.1 := fun g hg => by
    unfold borG at hg
    rcases List.mem_append.mp hg with hg | hg
    · obtain ⟨t, s, rfl, ht, hs⟩ := copy_mem hg
      intro c hc z
      rcases wc_mem.mp hc with rfl | ⟨w, hm, _⟩ | hm
      · exact h1 s hs (by rw [show s = t from z]; exact ht)
      · simp at hm
      · simp at hm
    · obtain ⟨t, s, Q, rfl, ht, hs, hQ, hn, _⟩ := add_mem hg
      intro c hc z
      rcases wc_mem.mp hc with rfl | ⟨w, hm, rfl⟩ | hm
      · exact h2 s hs (by rw [show s = t from z]; exact ht)
      · exact (hn nd).1 (by rw [← show w = t from z]; exact hm)
      · simp at hm
  have back := run_back (f := f) selfless
  rw [e2] at back
  rw [runF_app, runF_app, e2]
  have hC2 : heldF C f2 = heldF C f := heldF_congr fun c hc => f2o c.1 (hC c hc)
  have et : runF [wc 1 C wire last []] f2 = if heldF C f = true ∧ val f first < val f second then put f2 wire (1 - f wire) else f2 := by
    show turnF f2 (wc 1 C wire last []) = _
    unfold turnF
    by_cases hh : heldF C f = true ∧ val f first < val f second
    · rw [if_pos hh, if_pos (wc_held.mpr ⟨by rw [top, if_pos hh.2], fun p hp => absurd hp (by simp), by rw [hC2]; exact hh.1⟩)]
      show put f2 wire (1 - f2 wire) = _
      rw [f2o wire hw]
    · rw [if_neg hh, if_neg]
      intro z
      obtain ⟨a, _, c⟩ := wc_held.mp z
      rw [hC2] at c
      rw [top] at a
      refine hh ⟨c, ?_⟩
      by_cases q : val f first < val f second
      · exact q
      · rw [if_neg q] at a; cases a
  rw [et]
  split
  · rw [run_apart apart, back]
  · exact back
/-! ### right gates -/
theorem insP_strict {x : Int × Int} : ∀ {l : List (Int × Int)}, l.Pairwise (fun a b => a.1 < b.1) → (∀ y, y ∈ l → y.1 ≠ x.1) → (insP x l).Pairwise fun a b => a.1 < b.1
  | [], _, _ => by simp [insP]
  | y :: r, h, hx => by
    obtain ⟨h1, h2⟩ := List.pairwise_cons.mp h
    have hy := hx y List.mem_cons_self
    show (if leP x y = true then x :: y :: r else y :: insP x r).Pairwise _
    split
    · rename_i hl
      have hlt : x.1 < y.1 := by
        simp [leP] at hl
        omega
      refine List.pairwise_cons.mpr ⟨fun z hz => ?_, h⟩
      rcases List.mem_cons.mp hz with rfl | hz
      · exact hlt
      · exact Int.lt_trans hlt (h1 z hz)
    · rename_i hl
      have hlt : y.1 < x.1 := by
        simp [leP] at hl
        omega
      refine List.pairwise_cons.mpr ⟨fun z hz => ?_, insP_strict h2 fun z hz => hx z (List.mem_cons_of_mem _ hz)⟩
      rcases List.mem_cons.mp ((insP_perm x r).mem_iff.mp hz) with rfl | hz
      · exact hlt
      · exact h1 z hz
theorem sortP_strict : ∀ {l : List (Int × Int)}, (l.map (·.1)).Nodup → (sortP l).Pairwise fun a b => a.1 < b.1
  | [], _ => by simp [sortP]
  | x :: l, h => by
    obtain ⟨h1, h2⟩ := List.nodup_cons.mp (by simpa using h : (x.1 :: l.map (·.1)).Nodup)
    refine insP_strict (sortP_strict h2) fun y hy z => h1 ?_
    exact List.mem_map.mpr ⟨y, (sortP_perm l).mem_iff.mp hy, z⟩
/-- wires in order: apart, below n -/
structure Ctl (n : Int) (C : List (Int × Int)) : Prop where
  nd : (C.map (·.1)).Nodup
  c0 : ∀ c, c ∈ C → 0 ≤ c.1
  c1 : ∀ c, c ∈ C → c.1 < n
  v : ∀ c, c ∈ C → c.2 = 0 ∨ c.2 = 1
  len : C.length ≤ 100
theorem wc_good {n v : Int} {C : List (Int × Int)} {t s : Int} {Q : List Int} (hv : v = 0 ∨ v = 1) (c : Ctl n C) (t0 : 0 ≤ t) (t1 : t < n) (s0 : 0 ≤ s) (s1 : s < n) (hq : ∀ q, q ∈ Q → 0 ≤ q ∧ q < n) (hl : Q.length ≤ 100)
    (st : s ≠ t) (sQ : s ∉ Q) (sC : ∀ c, c ∈ C → c.1 ≠ s) (tQ : t ∉ Q) (tC : ∀ c, c ∈ C → c.1 ≠ t) (nQ : Q.Nodup) (QC : ∀ c, c ∈ C → c.1 ∉ Q) : GoodG n (wc v C t s Q) where
  t0 := t0
  t1 := t1
  c0 := fun x hx => by
    rcases wc_mem.mp hx with rfl | ⟨w, hw, rfl⟩ | hx
    · exact s0
    · exact (hq w hw).1
    · exact c.c0 x hx
  c1 := fun x hx => by
    rcases wc_mem.mp hx with rfl | ⟨w, hw, rfl⟩ | hx
    · exact s1
    · exact (hq w hw).2
    · exact c.c1 x hx
  len := by
    show (sortP _).length ≤ _
    rw [(sortP_perm _).length_eq]
    have := c.len
    simp
    omega
  v := fun x hx => by
    rcases wc_mem.mp hx with rfl | ⟨w, hw, rfl⟩ | hx
    · exact .inr rfl
    · exact hv
    · exact c.v x hx
  ne := fun x hx z => by
    rcases wc_mem.mp hx with rfl | ⟨w, hw, rfl⟩ | hx
    · exact st z
    · exact tQ (by rw [← show w = t from z]; exact hw)
    · exact tC x hx z
  srt := by
    refine sortP_strict ?_
    have e : ((s, (1 : Int)) :: (Q.map fun w => (w, v)) ++ C).map (·.1) = s :: (Q ++ C.map (·.1)) := by simp [Function.comp_def]
    rw [e, List.nodup_cons, List.nodup_append]
    refine ⟨fun z => ?_, nQ, c.nd, fun a ha b hb z => ?_⟩
    · rcases List.mem_append.mp z with z | z
      · exact sQ z
      · obtain ⟨x, hx, e⟩ := List.mem_map.mp z
        exact sC x hx e
    · obtain ⟨x, hx, rfl⟩ := List.mem_map.mp hb
      exact QC x hx (by rw [← z]; exact ha)
end Lw
set_option Elab.async false
set_option linter.all false
set_option maxRecDepth 100000
set_option maxHeartbeats 4000000
namespace Lw
open PySem MP L2
theorem ints_pairs (ws : List Int) : (ws.map fun w => MP.dPair (w, 1)) = (ws.map fun w => (w, (1 : Int))).map dPair := by simp
theorem with_eq {n : Nat} {t s : Int} {P : List Int} {C : List (Int × Int)} {S : Sto} (hl : P.length + C.length ≤ 500) (hS : ClS S) :
    callM Gc ft (n + 1) 10 [.dat (.int t), .dat (.list ((s :: P).map .int)), .dat (.tuple (C.map dPair))] S = .ok (.dat (dGate (wc 1 C t s P))) S := by
  refine is_eq (call_def ft_with_controls rfl ?_)
  obtain ⟨ws, hws⟩ : ∃ ws, ws = s :: P := ⟨_, rfl⟩
  have hwl : ws.length = P.length + 1 := by rw [hws]; rfl
  rw [← hws]
  simp [d_with_controls, start']
  refine forC_mapM PyData.int (fun w => dPair (w, 1)) (small_len (by omega)) ?_ ?_
  · intro w hw
    rw [comp_ap]
    simp [wipeL, dPair]
  · have hs : ∀ S : Sto, biW S .sorted false [.dat (.list ((ws.map fun w => dPair (w, 1)) ++ C.map dPair))] = .ok (.dat (.list ((wc 1 C t s P).2.map dPair))) S := fun S => by
      have := bi_sortP (ps := (s, 1) :: (P.map fun w => (w, 1)) ++ C) (S := S) (m := false)
      rw [hws]
      simpa [wc, Function.comp_def] using this
    have h2 : ws.length + C.length ≤ sizeLine := small_len' (by omega)
    simp [hs, h2, leave_same rfl hS]
    rfl
/-! ### the loops' lists -/
def at0 (xs : List Int) (k : Nat) : Int := xs.getD k 0
theorem at0_get {xs : List Int} {k : Nat} (h : k < xs.length) : xs[k]? = some (at0 xs k) := by simp [at0, List.getD, h]
theorem at_k {xs : List Int} {k : Nat} (h : k < xs.length) : atI (xs.map PyData.int) (k : Int) = some (.int (at0 xs k)) := atI_nat (by rw [List.getElem?_map, at0_get h]; rfl)
/-- the gates of a step, from the last wire down -/
theorem inc_idx {v : Int} {C : List (Int × Int)} {s : Int} : ∀ (ts P : List Int) (r : Nat), ts.length = r + 1 → ((List.range r).map fun i => wc v C (at0 ts (r - i)) s (P ++ ts.take (r - i))) ++ [wc v C (at0 ts 0) s P] = incG v C s P ts
  | [], _, _, h => by simp at h
  | [t], P, r, h => by
    have : r = 0 := by simpa using h
    subst this
    rfl
  | t :: u :: ts, P, 0, h => by simp at h
  | t :: u :: ts, P, r + 1, h => by
    have ih := inc_idx (v := v) (C := C) (s := s) (u :: ts) (P ++ [t]) r (by simpa using h)
    show _ = incG v C s (P ++ [t]) (u :: ts) ++ [wc v C t s P]
    rw [← ih, List.range_succ, List.map_append]
    congr 1
    congr 1
    · refine List.map_congr_left fun i hi => ?_
      have hi := List.mem_range.mp hi
      have e : r + 1 - i = (r - i) + 1 := by omega
      rw [e]
      show wc v C (at0 (u :: ts) (r - i)) s (P ++ t :: (u :: ts).take (r - i)) = _
      rw [List.append_cons]
    · simp [at0]
theorem add_idx {v : Int} {C : List (Int × Int)} : ∀ (T Sx : List Int), Sx.length ≤ T.length → ((List.range Sx.length).map fun k => incG v C (at0 Sx k) [] (T.drop k)).flatten = addG v C T Sx
  | T, [], _ => by cases T <;> rfl
  | [], _ :: _, h => by simp at h
  | t :: ts, s :: ss, h => by
    have ih := add_idx (v := v) (C := C) ts ss (by simpa using h)
    show _ = incG v C s [] (t :: ts) ++ addG v C ts ss
    rw [← ih, List.length_cons, List.range_succ_eq_map, List.map_cons, List.flatten_cons, List.map_map]
    rfl
theorem small_lt {n : Nat} (h : n ≤ 1000000) : n < sizeLine := by
  have := small_len' (n := 1000000) (Nat.le_refl _)
  have h2 : 1000000 ≠ sizeLine := by decide +kernel
  omega
theorem incG_len {v : Int} {C : List (Int × Int)} {s : Int} : ∀ (ts P : List Int), (incG v C s P ts).length = ts.length
  | [], _ => rfl
  | t :: ts, P => by show (incG v C s (P ++ [t]) ts ++ _).length = _; rw [List.length_append, incG_len ts]; rfl
def stepsG (v : Int) (C : List (Int × Int)) (T Sx : List Int) (k : Nat) : List Gate := ((List.range k).map fun k => incG v C (at0 Sx k) [] (T.drop k)).flatten
theorem stepsG_s {v : Int} {C : List (Int × Int)} {T Sx : List Int} {k : Nat} : stepsG v C T Sx (k + 1) = stepsG v C T Sx k ++ incG v C (at0 Sx k) [] (T.drop k) := by simp [stepsG, List.range_succ]
theorem stepsG_len {v : Int} {C : List (Int × Int)} {T Sx : List Int} : ∀ k, (stepsG v C T Sx k).length ≤ k * T.length
  | 0 => by simp [stepsG]
  | k + 1 => by
    rw [stepsG_s, List.length_append, incG_len, List.length_drop, Nat.add_mul]
    have := stepsG_len (v := v) (C := C) (T := T) (Sx := Sx) k
    omega
theorem at0_drop {T : List Int} {k i : Nat} : at0 (T.drop k) i = at0 T (k + i) := by simp [at0, List.getD]
theorem add_into_eq {n : Nat} {T Sx : List Int} {C : List (Int × Int)} {S : Sto} (hT : T.length ≤ 100) (hSx : Sx.length = T.length) (hC : C.length ≤ 100) (hS : ClS S) :
    callM Gc ft (n + 2) 13 [.dat (.tuple (T.map .int)), .dat (.tuple (Sx.map .int)), .dat (.tuple (C.map dPair))] S = .ok (.dat (dGates (addG 1 C T Sx))) S := by
  refine is_eq ?_
  refine call_def (n := n + 1) (fn := d_add_into) ft_add_into ?_ ?_
  · rfl
  have hS1 : ∀ ds : List MP.D, ClS (S ++ [.lst ds]) := fun ds k hk => by
    have := hS k (by simp at hk; omega)
    simp [this, obBelow]
  simp [d_add_into, start', small_i (i := (T.length : Int)) (by omega) (by omega)]
  refine forL_idx (fun k l S' => S' = S ++ [.lst ((stepsG 1 C T Sx k).map dGate)] ∧ ∃ a b, l = [some (.dat (.tuple (T.map .int))), some (.dat (.tuple (Sx.map .int))), some (.dat (.tuple (C.map dPair))), some (.obj S.length), some (.dat (.int T.length)), a, b]) ⟨rfl, none, none, rfl⟩ ?_ ?_
  · rintro k d hd l S' ⟨rfl, a, b, rfl⟩
    obtain ⟨hk, rfl⟩ := rngH_get hd
    have hlen := stepsG_len (v := 1) (C := C) (T := T) (Sx := Sx) k
    have hkT : k * T.length ≤ 100 * 100 := Nat.mul_le_mul (by omega) hT
    refine Holds.hide fun R hR => ?_
    rw [forB_ap]
    simp [d_add_into_b2, small_i (i := (T.length : Int) - 1) (by omega) (by omega), small_i (i := (k : Int)) (by omega) (by omega)]
    refine forL_idx (fun i l S' => S' = S ++ [.lst ((stepsG 1 C T Sx k ++ (List.range i).map fun i => wc 1 C (at0 (T.drop k) (T.length - 1 - k - i)) (at0 Sx k) ((T.drop k).take (T.length - 1 - k - i))).map dGate)] ∧
      ∃ b, l = [some (.dat (.tuple (T.map .int))), some (.dat (.tuple (Sx.map .int))), some (.dat (.tuple (C.map dPair))), some (.obj S.length), some (.dat (.int T.length)), some (.dat (.int k)), b]) ⟨by simp, b, rfl⟩ ?_ ?_
    · rintro i d hd l S' ⟨rfl, b, rfl⟩
      obtain ⟨hi, rfl⟩ := rngH_get hd
      have ej : (T.length : Int) - 1 + (i : Int) * -1 = ((T.length - 1 - i : Nat) : Int) := by omega
      refine Holds.hide fun R hR => ?_
      rw [ej, forB_ap]
      have hj : T.length - 1 - i < T.length := by omega
      have e1 : T.length - 1 - i - k = T.length - 1 - k - i := by omega
      have e2 : at0 T (T.length - 1 - i) = at0 (T.drop k) (T.length - 1 - k - i) := by rw [at0_drop]; congr 1; omega
      have hw := with_eq (n := n) (t := at0 T (T.length - 1 - i)) (s := at0 Sx k) (P := (T.drop k).take (T.length - 1 - k - i)) (C := C) (S := S ++ [.lst ((stepsG 1 C T Sx k ++ (List.range i).map fun i => wc 1 C (at0 (T.drop k) (T.length - 1 - k - i)) (at0 Sx k) ((T.drop k).take (T.length - 1 - k - i))).map dGate)]) (by simp; omega) (hS1 _)
      generalize hG : (stepsG 1 C T Sx k ++ (List.range i).map fun i => wc 1 C (at0 (T.drop k) (T.length - 1 - k - i)) (at0 Sx k) ((T.drop k).take (T.length - 1 - k - i))) = G at hw ⊢
      have hGl : G.length ≤ 100 * 100 + 100 := by rw [← hG]; simp; omega
      have hcut := cut_nat (xs := T.map PyData.int) (show k ≤ T.length - 1 - i by omega) (by simp; omega)
      have h2 : 1 + (T.length - 1 - i - k) ≤ sizeLine := small_len' (by omega)
      simp only [List.map_cons, List.map_take, List.map_drop, ← e1] at hw
      have h3 : 1 + min (T.length - 1 - i - k) (T.length - k) ≤ sizeLine := small_len' (by omega)
      simp [d_add_into_b1, at_k hk, at_k hj, at_k (show k < Sx.length by omega), recv_ob last_get, hcut, h3, hw]
      rw [app_last (small_lt (by simp; omega))]
      simp
      rw [hR]
      refine ⟨?_, _, rfl⟩
      rw [← hG]
      simp [List.range_succ, e2, e1]
    · rintro l S' ⟨rfl, b, rfl⟩
      have hidx := inc_idx (v := 1) (C := C) (s := at0 Sx k) (T.drop k) [] (T.length - 1 - k) (by simp; omega)
      generalize hG : (stepsG 1 C T Sx k ++ (List.range (T.length - 1 - k)).map fun i => wc 1 C (at0 (T.drop k) (T.length - 1 - k - i)) (at0 Sx k) ((T.drop k).take (T.length - 1 - k - i))) = G
      have hGl : G.length ≤ 100 * 100 + 100 := by rw [← hG]; simp; omega
      have hw := with_eq (n := n) (t := at0 T k) (s := at0 Sx k) (P := []) (C := C) (S := S ++ [.lst (G.map dGate)]) (by simp; omega) (hS1 _)
      simp only [List.map_cons, List.map_nil] at hw
      rw [rngH_len, hG]
      simp [at_k hk, at_k (show k < Sx.length by omega), recv_ob last_get, hw]
      rw [app_last (small_lt (by simp; omega))]
      simp
      rw [hR]
      refine ⟨?_, _, _, rfl⟩
      rw [stepsG_s, ← hidx, ← hG, at0_drop]
      simp
  · rintro l S' ⟨rfl, a, b, rfl⟩
    rw [rngH_len]
    simp [bi_ob last_get]
    rw [leave_more (by simp) hS]
    simp [dGates, ← add_idx T Sx (by omega), hSx, stepsG]
theorem copy_idx : ∀ (T Sx : List Int), Sx.length ≤ T.length → ((List.range Sx.length).map fun k => wc 1 [] (at0 T k) (at0 Sx k) []) = copyG T Sx
  | T, [], _ => by cases T <;> rfl
  | [], _ :: _, h => by simp at h
  | t :: ts, s :: ss, h => by
    have ih := copy_idx ts ss (by simpa using h)
    show _ = wc 1 [] t s [] :: copyG ts ss
    rw [← ih, List.length_cons, List.range_succ_eq_map, List.map_cons, List.map_map]
    rfl
theorem copy_into_eq {n : Nat} {T Sx : List Int} {S : Sto} (hT : T.length ≤ 100) (hSx : Sx.length ≤ T.length) (hS : ClS S) :
    callM Gc ft (n + 2) 12 [.dat (.tuple (T.map .int)), .dat (.tuple (Sx.map .int)), .dat (.tuple [])] S = .ok (.dat (dGates (copyG T Sx))) S := by
  refine is_eq (call_def ft_copy_into rfl ?_)
  simp [d_copy_into, start', small_i (i := (Sx.length : Int)) (by omega) (by omega), rng_map]
  refine forC_mapM (fun k : Nat => PyData.int k) (fun k => dGate (wc 1 [] (at0 T k) (at0 Sx k) [])) (small_len (by simp; omega)) ?_ ?_
  · intro k hk
    have hk := List.mem_range.mp hk
    have hw := with_eq (n := n) (t := at0 T k) (s := at0 Sx k) (P := []) (C := []) (S := S) (by simp) hS
    simp only [List.map_cons, List.map_nil] at hw
    rw [comp_ap]
    simp [wipeL, at_k (show k < T.length by omega), at_k hk, hw]
  · simp [leave_same rfl hS, dGates, ← copy_idx T Sx hSx]
theorem idx_aux {k i L : Nat} (h : i < L - 1 - k) : k + (L - 1 - k - i) = L - 1 - i := by omega
theorem borrow_eq {n : Nat} {T A B : List Int} {S : Sto} (hT : T.length ≤ 100) (hA : A.length ≤ T.length) (hB : B.length ≤ T.length) (hS : ClS S) :
    callM Gc ft (n + 3) 11 [.dat (.tuple (T.map .int)), .dat (.tuple (A.map .int)), .dat (.tuple (B.map .int))] S = .ok (.dat (dGates (borG T A B))) S := by
  refine is_eq (call_def ft_borrow_gates rfl ?_)
  have hS1 : ∀ ds : List MP.D, ClS (S ++ [.lst ds]) := fun ds k hk => by
    have := hS k (by simp at hk; omega)
    simp [this, obBelow]
  have hcp := copy_into_eq (n := n) (T := T) (Sx := A) (S := S) hT hA hS
  have hcl : (copyG T A).length ≤ 100 := by rw [← copy_idx T A hA]; simp; omega
  simp [d_borrow_gates, start', hcp, dGates, small_i (i := (B.length : Int)) (by omega) (by omega)]
  refine forL_idx (fun k l S' => S' = S ++ [.lst ((copyG T A ++ stepsG 0 [] T B k).map dGate)] ∧ ∃ a b, l = [some (.dat (.tuple (T.map .int))), some (.dat (.tuple (A.map .int))), some (.dat (.tuple (B.map .int))), some (.obj S.length), a, b, none]) ?_ ?_ ?_
  · exact ⟨by simp [stepsG], none, none, rfl⟩
  · rintro k d hd l S' ⟨rfl, a, b, rfl⟩
    obtain ⟨hk, rfl⟩ := rngH_get hd
    have hlen := stepsG_len (v := 0) (C := []) (T := T) (Sx := B) k
    have hkT : k * T.length ≤ 100 * 100 := Nat.mul_le_mul (by omega) hT
    refine Holds.hide fun R hR => ?_
    rw [forB_ap]
    simp [-List.map_append, d_borrow_gates_b2, small_i (i := (T.length : Int) - 1) (by omega) (by omega), small_i (i := (k : Int)) (by omega) (by omega)]
    refine forL_idx (fun i l S' => S' = S ++ [.lst ((copyG T A ++ stepsG 0 [] T B k ++ (List.range i).map fun i => wc 0 [] (at0 (T.drop k) (T.length - 1 - k - i)) (at0 B k) ((T.drop k).take (T.length - 1 - k - i))).map dGate)] ∧
      ∃ b, l = [some (.dat (.tuple (T.map .int))), some (.dat (.tuple (A.map .int))), some (.dat (.tuple (B.map .int))), some (.obj S.length), some (.dat (.int k)), b, none]) ⟨by simp, b, rfl⟩ ?_ ?_
    · rintro i d hd l S' ⟨rfl, b, rfl⟩
      obtain ⟨hi, rfl⟩ := rngH_get hd
      have ej : (T.length : Int) - 1 + (i : Int) * -1 = ((T.length - 1 - i : Nat) : Int) := by omega
      refine Holds.hide fun R hR => ?_
      rw [ej, forB_ap]
      have hj : T.length - 1 - i < T.length := by omega
      have e1 : T.length - 1 - i - k = T.length - 1 - k - i := by omega
      have e2 : at0 T (T.length - 1 - i) = at0 (T.drop k) (T.length - 1 - k - i) := by
        have e0 : k + (T.length - 1 - k - i) = T.length - 1 - i := idx_aux hi
        rw [at0_drop, e0]
      generalize hG : (copyG T A ++ stepsG 0 [] T B k ++ (List.range i).map fun i => wc 0 [] (at0 (T.drop k) (T.length - 1 - k - i)) (at0 B k) ((T.drop k).take (T.length - 1 - k - i))) = G
      have hGl : G.length ≤ 100 * 100 + 300 := by rw [← hG]; simp; omega
      have hcut := cut_nat (xs := T.map PyData.int) (show k ≤ T.length - 1 - i by omega) (by simp; omega)
      rw [← List.map_drop, ← List.map_take] at hcut
      generalize hP : (T.drop k).take (T.length - 1 - i - k) = P at hcut
      have hPl : P.length ≤ 100 := by rw [← hP]; simp; omega
      have q1 := at_k (xs := B) hk
      have q2 := at_k (xs := T) hj
      simp [d_borrow_gates_b1, q1, q2, recv_ob last_get, hcut]
      refine forC_mapM PyData.int (fun w => dPair (w, 0)) (small_len (by omega)) ?_ ?_
      · intro w hw
        rw [comp_ap]
        simp [wipeL, dPair]
      · have hs : ∀ S : Sto, biW S .sorted false [.dat (.list (.tuple [.int (at0 B k), .int 1] :: P.map fun w => dPair (w, 0)))] = .ok (.dat (.list ((wc 0 [] (at0 T (T.length - 1 - i)) (at0 B k) P).2.map dPair))) S := fun S => by
          have := bi_sortP (ps := (at0 B k, 1) :: (P.map fun w => (w, 0))) (S := S) (m := false)
          simpa [wc, dPair, Function.comp_def] using this
        have h2 : 1 + P.length ≤ sizeLine := small_len' (by omega)
        simp [h2, hs]
        rw [app_last (small_lt (by simp; omega))]
        simp
        rw [hR]
        refine ⟨?_, _, rfl⟩
        rw [← hG, ← hP]
        simp [List.range_succ, e2, e1, dGate, wc]
    · rintro l S' ⟨rfl, b, rfl⟩
      have hidx := inc_idx (v := 0) (C := []) (s := at0 B k) (T.drop k) [] (T.length - 1 - k) (by simp; omega)
      generalize hG : (copyG T A ++ stepsG 0 [] T B k ++ (List.range (T.length - 1 - k)).map fun i => wc 0 [] (at0 (T.drop k) (T.length - 1 - k - i)) (at0 B k) ((T.drop k).take (T.length - 1 - k - i))) = G
      have hGl : G.length ≤ 100 * 100 + 300 := by rw [← hG]; simp; omega
      rw [rngH_len, hG]
      simp [at_k hk, at_k (show k < T.length by omega), recv_ob last_get]
      rw [app_last (small_lt (by simp; omega))]
      simp
      rw [hR]
      refine ⟨?_, _, _, rfl⟩
      rw [stepsG_s, ← hidx, ← hG, at0_drop]
      simp [dGate, wc, sortP, insP, dPair]
  · rintro l S' ⟨rfl, a, b, rfl⟩
    rw [rngH_len]
    simp [-List.map_append, bi_ob last_get]
    rw [leave_more (by simp) hS]
    simp [dGates, borG, ← add_idx T B hB, stepsG]
theorem less_into_eq {n : Nat} {wire last : Int} {T A B : List Int} {C : List (Int × Int)} {S : Sto} (hT : T.length ≤ 99) (hA : A.length ≤ T.length) (hB : B.length ≤ T.length) (hC : C.length ≤ 100) (hS : ClS S) :
    callM Gc ft (n + 4) 9 [.dat (.int wire), .dat (.tuple (A.map .int)), .dat (.tuple (B.map .int)), .dat (.tuple ((T ++ [last]).map .int)), .dat (.tuple (C.map dPair))] S = .ok (.dat (dGates (borG (T ++ [last]) A B ++ [wc 1 C wire last []] ++ (borG (T ++ [last]) A B).reverse))) S := by
  refine is_eq (call_def ft_less_into rfl ?_)
  have hb := borrow_eq (n := n) (T := T ++ [last]) (A := A) (B := B) (S := S) (by simp; omega) (by simp; omega) (by simp; omega) hS
  have hw := with_eq (n := n + 2) (t := wire) (s := last) (P := []) (C := C) (S := S) (by simp; omega) hS
  simp only [List.map_cons, List.map_nil] at hw
  simp only [List.map_append, List.map_cons, List.map_nil] at hb
  have hl : atI (T.map PyData.int ++ [.int last]) (-1) = some (.int last) := atI_last _ _
  have hlen : (borG (T ++ [last]) A B).length ≤ 20000 := by
    unfold borG
    rw [List.length_append, ← copy_idx _ _ (by simp; omega), ← add_idx _ _ (by simp; omega)]
    have := stepsG_len (v := 0) (C := []) (T := T ++ [last]) (Sx := B) B.length
    have h2 : B.length * (T ++ [last]).length ≤ 100 * 100 := Nat.mul_le_mul (by omega) (by simp; omega)
    unfold stepsG at this
    simp at this h2 ⊢
    omega
  have h1 : (borG (T ++ [last]) A B).length + 1 ≤ sizeLine := small_len' (by omega)
  have h2 : (borG (T ++ [last]) A B).length + 1 + (borG (T ++ [last]) A B).length ≤ sizeLine := small_len' (by omega)
  simp [d_less_into, start', hb, hl, hw, dGates]
  simp [h1, h2, leave_same rfl hS]
theorem sum_val (f : Bits) : ∀ (ws : List Int) (c : Int), ((List.range ws.length).map fun k => f (at0 ws k) * (c * 2 ^ k)).sum = c * val f ws
  | [], c => by simp [val]
  | w :: ws, c => by
    have ih := sum_val f ws (c * 2)
    rw [List.length_cons, List.range_succ_eq_map, List.map_cons, List.map_map, List.sum_cons]
    have e : ((fun k => f (at0 (w :: ws) k) * (c * 2 ^ k)) ∘ Nat.succ) = fun k => f (at0 ws k) * (c * 2 * 2 ^ k) := by
      funext k
      show f (at0 (w :: ws) (k + 1)) * (c * 2 ^ (k + 1)) = _
      have : at0 (w :: ws) (k + 1) = at0 ws k := by simp [at0, List.getD]
      rw [this, Int.pow_succ, Int.mul_comm (2 ^ k) 2, Int.mul_assoc c 2]
    rw [e, ih]
    show f w * (c * 2 ^ 0) + c * 2 * val f ws = c * (f w + 2 * val f ws)
    rw [Int.pow_zero, Int.mul_one, Int.mul_add, Int.mul_assoc, Int.mul_comm (f w) c]
theorem lread_eq {n : Nat} {bs ws : List Int} {w : W} {S : Sto} (hw : ∀ i, idxW S w (.dat (.int i)) = optD (atI (bs.map .int) i) S) (hin : ∀ x, x ∈ ws → 0 ≤ x ∧ x < bs.length) (hb : Bit (getI bs) ws) (hl : ws.length ≤ 1000) (hS : ClS S) :
    callM Gc ft (n + 1) 3 [w, .dat (.list (ws.map .int))] S = .ok (.dat (.int (val (getI bs) ws))) S := by
  refine is_eq (call_def ft_Lread rfl ?_)
  simp [d_Lread, start', small_i (i := (ws.length : Int)) (by omega) (by omega), rng_map]
  refine forC_mapM (fun k : Nat => PyData.int k) (fun k => .int (getI bs (at0 ws k) * 2 ^ k)) (small_len (by simp; omega)) ?_ ?_
  · intro k hk
    have hk := List.mem_range.mp hk
    have hm : at0 ws k ∈ ws := List.mem_of_getElem? (at0_get hk)
    have h1 := hin _ hm
    have h2 := hb _ hm
    have h3 : shlOk (getI bs (at0 ws k)) k := ⟨by omega, by omega, by omega⟩
    rw [comp_ap]
    simp [wipeL, at_k hk, hw, at_getI h1.1 h1.2, h3]
  · have e : ((List.range ws.length).map fun k => PyData.int (getI bs (at0 ws k) * 2 ^ k)) = ((List.range ws.length).map fun k => getI bs (at0 ws k) * 2 ^ k).map PyData.int := by simp
    have e2 := sum_val (getI bs) ws 1
    simp only [Int.one_mul] at e2
    simp only [kmk_ap, mk_f, holds_ok, ka1_ap, wa_nil, ka2_ap, kf_ap, e, bi_sum, krets_ap, kseq_ret, kdone_ret, leave_same rfl hS, e2]
    exact ⟨rfl, rfl⟩
/-! ### a drawn order -/
theorem erase_perm {α : Type} : ∀ {l : List α} {i : Nat} (h : i < l.length), (l[i] :: l.eraseIdx i).Perm l
  | x :: l, 0, _ => .refl _
  | x :: l, i + 1, h => (List.Perm.swap x _ _).trans ((erase_perm (l := l) (i := i) (by simpa using h)).cons x)
theorem erase_map {α β : Type} (f : α → β) : ∀ (l : List α) (i : Nat), (l.map f).eraseIdx i = (l.eraseIdx i).map f
  | [], _ => rfl
  | x :: l, 0 => rfl
  | x :: l, i + 1 => congrArg (f x :: ·) (erase_map f l i)
def SomeQ (R : Sto) (xs : List Int) : W → Sto → Prop := fun w S => ∃ (ys : List Int) (o : Ob), w = .dat (.list (ys.map .int)) ∧ ys.Perm xs ∧ Dw o ∧ S = o :: R
def SomeI (R : Sto) (xs : List Int) (i : Nat) (acc : List MP.D) (S : Sto) : Prop := ∃ (ys rest : List Int) (o : Ob), acc = ys.map .int ∧ (ys ++ rest).Perm xs ∧ ys.length = i ∧ Dw o ∧ S = o :: (R ++ [.lst (rest.map .int)])
theorem snoc_get {R : Sto} {o x : Ob} : (o :: (R ++ [x]))[R.length + 1]? = some x := by simp
theorem snoc_set {R : Sto} {o x y : Ob} : (o :: (R ++ [x])).set (R.length + 1) y = o :: (R ++ [y]) := by simp
theorem cl_snoc {R : Sto} {ds : List MP.D} (h : Cl R) : Cl (R ++ [.lst ds]) := fun k hk => by
  have := h k (by simp at hk; omega)
  simp [this, obBelow]
theorem some_ok {n : Nat} {o : Ob} {R : Sto} {xs : List Int} (ho : Dw o) (hx : xs.length ≤ 1000) (hR : Cl R) :
    Holds (callM Gc ft (n + 2) 14 [.obj 0, .dat (.list (xs.map .int)), .dat (.int xs.length)] (o :: R)) (SomeQ R xs) := by
  refine call_def ft_Lsome rfl ?_
  refine Holds.hide fun Q hQ => ?_
  show wpS _ _ _ _ _ _
  simp [d_Lsome, start', small_i (i := (xs.length : Int)) (by omega) (by omega), rng_map]
  refine forC_idx (SomeI R xs) ?_ ?_ ?_
  · exact ⟨[], xs, o, rfl, .refl _, rfl, ho, by simp⟩
  · rintro i d hd acc S ⟨ys, rest, o, rfl, hp, hi, ho, rfl⟩
    rw [List.getElem?_map] at hd
    obtain ⟨k, hk, rfl⟩ := Option.map_eq_some_iff.mp hd
    have hlt := (List.getElem?_eq_some_iff.mp hk).1
    have hpl := hp.length_eq
    simp at hlt hpl
    refine Holds.hide fun Q hQ => ?_
    rw [comp_ap]
    simp [wipeL, recv_ob snoc_get, bi_ob snoc_get]
    refine (take_ok (n := n) (R := R ++ [.lst (rest.map .int)]) (m := rest.length) ho (by omega) (by omega) (cl_snoc hR)).imp ?_
    rintro _ _ ⟨v, o', rfl, hv0, hv1, ho', rfl⟩
    obtain ⟨v, rfl⟩ := nat_of hv0
    have hvl : v < rest.length := by omega
    have hd : (rest.map PyData.int)[((v : Nat) : Int).toNat]? = some (.int rest[v]) := by simp [hvl]
    simp
    rw [popAt_ob snoc_get (by omega) (by omega) hd]
    simp
    rw [hQ]
    refine ⟨small_lt (by simp; omega), ys ++ [rest[v]], rest.eraseIdx v, o', by simp, ?_, by simp [hi], ho', ?_⟩
    · refine .trans ?_ hp
      rw [List.append_assoc]
      exact List.Perm.append_left _ (erase_perm hvl)
    · simp [erase_map]
  · rintro acc S ⟨ys, rest, o, rfl, hp, hi, ho, rfl⟩
    simp at hi
    have hpl := hp.length_eq
    simp at hpl
    have hr : rest = [] := List.eq_nil_of_length_eq_zero (by omega)
    subst hr
    have hS : ClS (o :: R) := by
      obtain ⟨cs, p, c, s, rfl, _⟩ := ho
      exact cls_cons hR
    simp
    rw [hQ]
    have hlv : ∀ d : MP.D, leave (R.length + 1) (.dat d) (o :: (R ++ [Ob.lst []])) = .ok (.dat d) (o :: R) := fun d => leave_more (S := o :: R) (T := [Ob.lst []]) rfl hS
    simp [hlv]
    exact ⟨ys, o, rfl, by simpa using hp, ho, rfl⟩
end Lw
set_option Elab.async false
set_option linter.all false
set_option maxRecDepth 100000
set_option maxHeartbeats 8000000
namespace Lw
open PySem MP L2
/-- the places that are drawn -/
structure Pl (m tot : Nat) (A B sp0 : List Int) (last wire : Int) (C : List (Int × Int)) : Prop where
  m1 : 1 ≤ m
  m5 : m ≤ 5
  htot : tot = 3 * m + 6
  lA : A.length = m
  lB : B.length = m
  lS : sp0.length = m
  rA : ∀ x, x ∈ A → 0 ≤ x ∧ x < tot
  rB : ∀ x, x ∈ B → 0 ≤ x ∧ x < tot
  rS : ∀ x, x ∈ sp0 ++ [last] → 0 ≤ x ∧ x < tot
  rw0 : 0 ≤ wire
  rw1 : wire < tot
  ndA : A.Nodup
  ndS : (sp0 ++ [last]).Nodup
  BA : ∀ b, b ∈ B → b ∉ A
  AS : ∀ a, a ∈ A → a ∉ sp0 ++ [last]
  BS : ∀ b, b ∈ B → b ∉ sp0 ++ [last]
  wA : wire ∉ A
  wB : wire ∉ B
  wS : wire ∉ sp0 ++ [last]
  c : Ctl tot C
  CA : ∀ c, c ∈ C → c.1 ∉ A
  CB : ∀ c, c ∈ C → c.1 ∉ B
  CS : ∀ c, c ∈ C → c.1 ∉ sp0 ++ [last]
  Cw : ∀ c, c ∈ C → c.1 ≠ wire
section
variable {m tot : Nat} {A B sp0 : List Int} {last wire : Int} {C : List (Int × Int)}
def addingG (C : List (Int × Int)) (A B : List Int) : List Gate := addG 1 C A B
def tellingG (C : List (Int × Int)) (A B sp0 : List Int) (last wire : Int) : List Gate := borG (sp0 ++ [last]) A B ++ [wc 1 C wire last []] ++ (borG (sp0 ++ [last]) A B).reverse
theorem ctl_nil {n : Int} : Ctl n [] := ⟨List.nodup_nil, fun _ h => absurd h (by simp), fun _ h => absurd h (by simp), fun _ h => absurd h (by simp), by simp⟩
theorem adding_good (P : Pl m tot A B sp0 last wire C) : ∀ g, g ∈ addingG C A B → GoodG tot g := fun g hg => by
  obtain ⟨t, s, Q, rfl, ht, hs, hQ, hn, hl⟩ := add_mem hg
  have h5 := P.m5
  have hlA := P.lA
  exact wc_good (.inr rfl) P.c (P.rA t ht).1 (P.rA t ht).2 (P.rB s hs).1 (P.rB s hs).2 (fun q hq => P.rA q (hQ q hq)) (by omega) (fun z => P.BA s hs (by rw [z]; exact ht)) (fun z => P.BA s hs (hQ s z)) (fun c hc z => P.CB c hc (by rw [z]; exact hs))
    (hn P.ndA).1 (fun c hc z => P.CA c hc (by rw [z]; exact ht)) (hn P.ndA).2 (fun c hc z => P.CA c hc (hQ _ z))
theorem bor_good (P : Pl m tot A B sp0 last wire C) : ∀ g, g ∈ borG (sp0 ++ [last]) A B → GoodG tot g := fun g hg => by
  have h5 := P.m5
  have hlS := P.lS
  rcases List.mem_append.mp hg with hg | hg
  · obtain ⟨t, s, rfl, ht, hs⟩ := copy_mem hg
    exact wc_good (.inr rfl) ctl_nil (P.rS t ht).1 (P.rS t ht).2 (P.rA s hs).1 (P.rA s hs).2 (fun q hq => absurd hq (by simp)) (by simp) (fun z => P.AS s hs (by rw [z]; exact ht)) (by simp) (fun c hc => absurd hc (by simp)) (by simp) (fun c hc => absurd hc (by simp)) List.nodup_nil (fun c hc => absurd hc (by simp))
  · obtain ⟨t, s, Q, rfl, ht, hs, hQ, hn, hl⟩ := add_mem hg
    exact wc_good (.inl rfl) ctl_nil (P.rS t ht).1 (P.rS t ht).2 (P.rB s hs).1 (P.rB s hs).2 (fun q hq => P.rS q (hQ q hq)) (by simp at hl; omega) (fun z => P.BS s hs (by rw [z]; exact ht)) (fun z => P.BS s hs (hQ s z)) (fun c hc => absurd hc (by simp))
      (hn P.ndS).1 (fun c hc => absurd hc (by simp)) (hn P.ndS).2 (fun c hc => absurd hc (by simp))
theorem telling_good (P : Pl m tot A B sp0 last wire C) : ∀ g, g ∈ tellingG C A B sp0 last wire → GoodG tot g := fun g hg => by
  have hlast : last ∈ sp0 ++ [last] := by simp
  rcases List.mem_append.mp hg with hg | hg
  · rcases List.mem_append.mp hg with hg | hg
    · exact bor_good P g hg
    · obtain rfl := List.mem_singleton.mp hg
      exact wc_good (.inr rfl) P.c P.rw0 P.rw1 (P.rS last hlast).1 (P.rS last hlast).2 (fun q hq => absurd hq (by simp)) (by simp) (fun z => P.wS (by rw [← z]; exact hlast)) (by simp) (fun c hc z => P.CS c hc (by rw [z]; exact hlast)) (by simp) (fun c hc => P.Cw c hc) List.nodup_nil (fun c hc => by simp)
  · exact bor_good P g (List.mem_reverse.mp hg)
/-- what the two circuits do to bits -/
def dueAdd (C : List (Int × Int)) (A B : List Int) (m : Nat) (bs : List Int) : List Int :=
  if heldL C bs = true then (List.range m).foldl (fun l k => l.set (at0 A k).toNat (((val (getI bs) A + val (getI bs) B) % 2 ^ m) / 2 ^ k % 2)) bs else bs
def B01 (bs : List Int) : Prop := ∀ x, x ∈ bs → x = 0 ∨ x = 1
theorem b01_get {bs : List Int} (h : B01 bs) (i : Int) : getI bs i = 0 ∨ getI bs i = 1 := by
  unfold getI
  by_cases hi : i.toNat < bs.length
  · simp only [List.getD, List.getElem?_eq_getElem hi, Option.getD_some]
    exact h _ (List.getElem_mem hi)
  · rw [List.getD, List.getElem?_eq_none (by omega)]; exact .inl rfl
theorem fold_len (A : List Int) (V : Int) (bs : List Int) : ∀ k, ((List.range k).foldl (fun l k => l.set (at0 A k).toNat (V / 2 ^ k % 2)) bs).length = bs.length
  | 0 => rfl
  | k + 1 => by rw [List.range_succ, List.foldl_append]; simp [fold_len A V bs k]
theorem fold_get {A : List Int} {V : Int} {bs : List Int} (nd : A.Nodup) (h0 : ∀ x, x ∈ A → 0 ≤ x ∧ x < bs.length) : ∀ k, k ≤ A.length →
    (∀ i, 0 ≤ i → i ∉ A → getI ((List.range k).foldl (fun l k => l.set (at0 A k).toNat (V / 2 ^ k % 2)) bs) i = getI bs i) ∧ (∀ j, j < k → getI ((List.range k).foldl (fun l k => l.set (at0 A k).toNat (V / 2 ^ k % 2)) bs) (at0 A j) = V / 2 ^ j % 2)
  | 0, _ => ⟨fun _ _ _ => rfl, fun j h => absurd h (by omega)⟩
  | k + 1, hk => by
    obtain ⟨h1, h2⟩ := fold_get (V := V) nd h0 k (by omega)
    have hm : at0 A k ∈ A := List.mem_of_getElem? (at0_get (by omega))
    have hr := h0 _ hm
    have hl := fold_len A V bs k
    have e : (List.range (k + 1)).foldl (fun l k => l.set (at0 A k).toNat (V / 2 ^ k % 2)) bs = ((List.range k).foldl (fun l k => l.set (at0 A k).toNat (V / 2 ^ k % 2)) bs).set (at0 A k).toNat (V / 2 ^ k % 2) := by
      rw [List.range_succ, List.foldl_append]; rfl
    rw [e]
    generalize (List.range k).foldl (fun l k => l.set (at0 A k).toNat (V / 2 ^ k % 2)) bs = L at h1 h2 hl
    refine ⟨fun i hi hA => ?_, fun j hj => ?_⟩
    · rw [getI_set hr.1 (by rw [hl]; exact hr.2) hi, put_ne (fun z => hA (by rw [z]; exact hm))]
      exact h1 i hi hA
    · have hmj : at0 A j ∈ A := List.mem_of_getElem? (at0_get (by omega))
      rw [getI_set hr.1 (by rw [hl]; exact hr.2) (h0 _ hmj).1]
      by_cases hjk : j = k
      · subst hjk; exact put_self
      · rw [put_ne, h2 j (by omega)]
        intro z
        have g1 := at0_get (xs := A) (k := j) (by omega)
        have g2 := at0_get (xs := A) (k := k) (by omega)
        rw [z] at g1
        exact hjk ((List.getElem?_inj (by omega) nd).mp (g1.trans g2.symm))
theorem add_due (P : Pl m tot A B sp0 last wire C) {bs : List Int} (hl : bs.length = tot) (hb : B01 bs) : runL (addingG C A B) bs = dueAdd C A B m bs := by
  have inG : ∀ g, g ∈ addingG C A B → InG bs.length g := fun g hg => by rw [hl]; exact (adding_good P g hg).toInG
  have bA : Bit (getI bs) A := fun t _ => b01_get hb t
  have bB : Bit (getI bs) B := fun t _ => b01_get hb t
  obtain ⟨r1, r2, r3⟩ := add_run (v := 1) (C := C) (.inr rfl) (T := A) (Sx := B) (f := getI bs) P.ndA P.BA P.CA bA bB (by rw [P.lA, P.lB]; exact Nat.le_refl _)
  have rr := run_rel (f := getI bs) inG fun i _ => rfl
  have rng : ∀ x, x ∈ A → 0 ≤ x ∧ x < bs.length := fun x hx => by rw [hl]; exact P.rA x hx
  have lenD : (dueAdd C A B m bs).length = bs.length := by
    unfold dueAdd; split
    · exact fold_len _ _ _ _
    · rfl
  refine list_ext (by rw [runL_len, lenD]) fun i hi _ => ?_
  rw [rr i hi]
  have hCe : heldF C (getI bs) = heldL C bs := rfl
  by_cases hh : heldL C bs = true
  · rw [hCe, if_pos hh, show (2 * 1 - 1 : Int) = 1 from rfl, Int.one_mul, P.lA] at r3
    unfold dueAdd
    rw [if_pos hh]
    obtain ⟨f1, f2⟩ := fold_get (V := (val (getI bs) A + val (getI bs) B) % 2 ^ m) P.ndA rng m (by rw [P.lA]; exact Nat.le_refl _)
    by_cases hA : i ∈ A
    · obtain ⟨j, hj, rfl⟩ := List.getElem_of_mem hA
      have e : A[j] = at0 A j := by simp [at0, List.getD, hj]
      rw [e, f2 j (by rw [← P.lA]; exact hj)]
      show runF (addG 1 C A B) (getI bs) (at0 A j) = _
      rw [val_bit r2 (at0_get hj), r3]
    · rw [f1 i hi hA]; exact r1 i hA
  · rw [hCe, if_neg hh] at r3
    unfold dueAdd
    rw [if_neg hh]
    by_cases hA : i ∈ A
    · obtain ⟨j, hj, rfl⟩ := List.getElem_of_mem hA
      have e : A[j] = at0 A j := by simp [at0, List.getD, hj]
      show runF (addG 1 C A B) (getI bs) A[j] = _
      rw [e, val_bit r2 (at0_get hj), r3]
      exact (val_bit bA (at0_get hj)).symm
    · exact r1 i hA
def dueLess (C : List (Int × Int)) (A B : List Int) (wire : Int) (bs : List Int) : List Int :=
  if heldL C bs = true ∧ val (getI bs) A < val (getI bs) B then bs.set wire.toNat (1 - getI bs wire) else bs
theorem less_due (P : Pl m tot A B sp0 last wire C) {bs : List Int} (hl : bs.length = tot) (hb : B01 bs) (h0 : ∀ t, t ∈ sp0 ++ [last] → getI bs t = 0) : runL (tellingG C A B sp0 last wire) bs = dueLess C A B wire bs := by
  have inG : ∀ g, g ∈ tellingG C A B sp0 last wire → InG bs.length g := fun g hg => by rw [hl]; exact (telling_good P g hg).toInG
  have lr := less_run (C := C) (f := getI bs) P.ndS P.AS P.BS P.CS P.wS P.wA P.wB (by rw [P.lA, P.lS]) (by rw [P.lB, P.lS]) (fun t _ => b01_get hb t) (fun t _ => b01_get hb t) h0
  have rr := run_rel (f := getI bs) inG fun i _ => rfl
  have hw1 : wire < bs.length := by rw [hl]; exact P.rw1
  refine list_ext (by rw [runL_len]; unfold dueLess; split <;> simp) fun i hi _ => ?_
  rw [rr i hi]
  show runF (borG (sp0 ++ [last]) A B ++ [wc 1 C wire last []] ++ (borG (sp0 ++ [last]) A B).reverse) (getI bs) i = _
  rw [lr]
  have hCe : heldF C (getI bs) = heldL C bs := rfl
  rw [hCe]
  unfold dueLess
  split
  · rw [getI_set P.rw0 hw1 hi]
  · rfl
/-! ### a turn -/
def LL (v0 v4 : Option W) (m tot : Nat) (A B sp0 : List Int) (last wire : Int) (C : List (Int × Int)) (x9 x13 x14 x15 x16 x17 x18 x19 : Option W) : MP.Loc :=
  [v0, some (.obj 0), some (.dat (.int m)), some (.dat (.int tot)), v4, some (.dat (.int wire)), some (.dat (.list (C.map dPair))), some (.dat (dGates (addingG C A B))), some (.dat (dGates (tellingG C A B sp0 last wire))), x9,
    some (.dat (.list (A.map .int))), some (.dat (.list (B.map .int))), some (.dat (.list (sp0.map .int ++ [.int last]))), x13, x14, x15, x16, x17, x18, x19]
def LR (R : Sto) : Prop := ∀ ob, ob ∈ R → ∃ ds, ob = Ob.lst ds
theorem LR.cl {R : Sto} (h : LR R) : Cl R := fun n _ => List.all_eq_true.mpr fun o ho => by
  obtain ⟨ds, rfl⟩ := h o ho
  rfl
theorem LR.snoc {R : Sto} {ds : List MP.D} (h : LR R) : LR (R ++ [.lst ds]) := fun ob hob => by
  rcases List.mem_append.mp hob with hob | hob
  · exact h ob hob
  · rw [List.mem_singleton.mp hob]; exact ⟨ds, rfl⟩
theorem LR.cls {R : Sto} {o : Ob} (h : LR R) (ho : Dw o) : ClS (o :: R) := by
  obtain ⟨cs, p, c, s, rfl, _⟩ := ho
  exact cls_cons h.cl
def TurnI (v0 v4 : Option W) (m tot : Nat) (A B sp0 : List Int) (last wire : Int) (C : List (Int × Int)) (l : MP.Loc) (S : Sto) : Prop :=
  ∃ o R x9 x13 x14 x15 x16 x17 x18 x19, Dw o ∧ LR R ∧ S = o :: R ∧ l = LL v0 v4 m tot A B sp0 last wire C x9 x13 x14 x15 x16 x17 x18 x19
/-- the drawn bits -/
def BitsI (R : Sto) (i : Nat) (acc : List MP.D) (S : Sto) : Prop := ∃ (bs : List Int) (o : Ob), acc = bs.map .int ∧ bs.length = i ∧ B01 bs ∧ Dw o ∧ S = o :: R
/-- behind the second statement -/
def Mid1 (v0 v4 : Option W) (m tot : Nat) (A B sp0 : List Int) (last wire : Int) (C : List (Int × Int)) (R : Sto) (y : Fl × MP.Loc) (S : Sto) : Prop :=
  ∃ (bs : List Int) (o : Ob) (x9 x14 x15 x16 x17 x18 x19 : Option W), bs.length = tot ∧ B01 bs ∧ Dw o ∧ y = (.nx, LL v0 v4 m tot A B sp0 last wire C x9 (some (.obj (R.length + 1))) x14 x15 x16 x17 x18 x19) ∧ S = o :: (R ++ [.lst (bs.map .int)])
theorem get2a {R : Sto} {o x y : Ob} : (o :: (R ++ [x, y]))[R.length + 1]? = some x := by simp
theorem get2b {R : Sto} {o x y : Ob} : (o :: (R ++ [x, y]))[R.length + 1 + 1]? = some y := by simp
theorem set2a {R : Sto} {o x y z : Ob} : (o :: (R ++ [x, y])).set (R.length + 1) z = o :: (R ++ [z, y]) := by simp
theorem set2b {R : Sto} {o x y z : Ob} : (o :: (R ++ [x, y])).set (R.length + 1 + 1) z = o :: (R ++ [x, z]) := by simp
theorem get3a {R : Sto} {o x y z : Ob} : (o :: (R ++ [x, y, z]))[R.length + 1]? = some x := by simp
theorem get3c {R : Sto} {o x y z : Ob} : (o :: (R ++ [x, y, z]))[R.length + 1 + 1 + 1]? = some z := by simp
theorem set3c {R : Sto} {o x y z u : Ob} : (o :: (R ++ [x, y, z])).set (R.length + 1 + 1 + 1) u = o :: (R ++ [x, y, u]) := by simp
theorem LR.two {R : Sto} {d e : List MP.D} (h : LR R) : LR (R ++ [.lst d, .lst e]) := fun ob hob => by
  rcases List.mem_append.mp hob with hob | hob
  · exact h ob hob
  · simp at hob
    rcases hob with rfl | rfl
    · exact ⟨d, rfl⟩
    · exact ⟨e, rfl⟩
theorem LR.three {R : Sto} {d e f : List MP.D} (h : LR R) : LR (R ++ [.lst d, .lst e, .lst f]) := fun ob hob => by
  rcases List.mem_append.mp hob with hob | hob
  · exact h ob hob
  · simp at hob
    rcases hob with rfl | rfl | rfl
    · exact ⟨d, rfl⟩
    · exact ⟨e, rfl⟩
    · exact ⟨f, rfl⟩
theorem band_1 (x : Int) : Builtin.bitAnd x 1 = x % 2 := by
  have := PySem.W.kbt_mask x 1
  simpa using this
theorem at0_eq {xs : List Int} {j : Nat} (h : j < xs.length) : at0 xs j = xs[j] := by simp [at0, List.getD, h]
/-- behind the last but one -/
def Mid3 (v0 v4 : Option W) (m tot : Nat) (A B sp0 : List Int) (last wire : Int) (C : List (Int × Int)) (R : Sto) (o : Ob) (b : Bool) (cs : List Int) (DA : List MP.D) (y : Fl × MP.Loc) (S : Sto) : Prop :=
  ∃ (x9 x16 x17 x18 x19 : Option W), y = (.nx, LL v0 v4 m tot A B sp0 last wire C x9 (some (.obj (R.length + 1))) (some (.dat (.bool b))) (some (.obj (R.length + 1 + 1 + 1))) x16 x17 x18 x19) ∧ S = o :: (R ++ [.lst (cs.map .int), .lst DA, .lst ((dueLess C A B wire cs).map .int)])
/-- behind the fifth statement -/
def Mid2 (v0 v4 : Option W) (m tot : Nat) (A B sp0 : List Int) (last wire : Int) (C : List (Int × Int)) (R : Sto) (o : Ob) (bs : List Int) (y : Fl × MP.Loc) (S : Sto) : Prop :=
  ∃ (x9 x16 x17 x18 x19 : Option W), y = (.nx, LL v0 v4 m tot A B sp0 last wire C x9 (some (.obj (R.length + 1))) (some (.dat (.bool (heldL C bs)))) (some (.obj (R.length + 1 + 1))) x16 x17 x18 x19) ∧ S = o :: (R ++ [.lst (bs.map .int), .lst ((dueAdd C A B m bs).map .int)])
theorem b01_set {bs : List Int} {i : Nat} {x : Int} (h : B01 bs) (hx : x = 0 ∨ x = 1) : B01 (bs.set i x) := fun y hy => by
  rcases List.mem_or_eq_of_mem_set hy with hy | rfl
  · exact h y hy
  · exact hx
theorem map_set_int {bs : List Int} {i : Nat} {x : Int} : (bs.map PyData.int).set i (.int x) = (bs.set i x).map PyData.int := by simp
theorem turn_ok {n : Nat} {v0 v4 : Option W} {d : MP.D} {l : MP.Loc} {S : Sto} (P : Pl m tot A B sp0 last wire C) {j : Int} (hd : d = .int j) (h : TurnI v0 v4 m tot A B sp0 last wire C l S) :
    Holds (forB Gc (callM Gc ft (n + 3)) (.tnm 9) d_law_b4 d l S) fun r S' => r.1 = .nx ∧ TurnI v0 v4 m tot A B sp0 last wire C r.2 S' := by
  subst hd
  obtain ⟨o, R, x9, x13, x14, x15, x16, x17, x18, x19, ho, hR, rfl, rfl⟩ := h
  have hm1 := P.m1
  have hm5 := P.m5
  have htot := P.htot
  refine Holds.hide fun Q hQ => ?_
  rw [forB_ap]
  simp [d_law_b4, LL, small_i (i := (tot : Int)) (by omega) (by omega)]
  refine forC_idx (BitsI R) ?_ ?_ ?_
  · exact ⟨[], o, rfl, rfl, fun x hx => absurd hx (by simp), ho, rfl⟩
  · rintro i d hd acc S ⟨bs, o, rfl, hi, hb, ho, rfl⟩
    obtain ⟨hlt, _⟩ := rngH_get hd
    refine Holds.hide fun Q hQ => ?_
    rw [comp_ap]
    simp [wipeL]
    refine (take_ok (n := n + 2) (m := 2) ho (by decide) (by decide) hR.cl).imp ?_
    rintro _ _ ⟨v, o', rfl, hv0, hv1, ho', rfl⟩
    simp
    rw [hQ]
    exact ⟨small_lt (by simp; omega), bs ++ [v], o', by simp, by simp [hi], fun x hx => by
      rcases List.mem_append.mp hx with hx | hx
      · exact hb x hx
      · rw [List.mem_singleton.mp hx]; omega, ho', rfl⟩
  rintro acc S ⟨bs, o, rfl, hi, hb, ho, rfl⟩
  rw [rngH_len] at hi
  simp
  refine kifs_cut (Mid1 v0 v4 m tot A B sp0 last wire C R) ?_ ?_
  · refine kifs_b (fun _ => ?_) fun _ => ?_
    · refine Holds.hide fun Q hQ => ?_
      show wpS _ _ _ _ _ _
      simp
      refine forL_inv (fun l S => Mid1 v0 v4 m tot A B sp0 last wire C R (.nx, l) S) ?_ ?_ ?_
      · exact ⟨bs, o, _, _, _, _, _, _, _, hi, hb, ho, rfl, rfl⟩
      · rintro d hd l S ⟨bs, o, y9, y14, y15, y16, y17, y18, y19, hi, hb, ho, e, rfl⟩
        obtain rfl : l = _ := (Prod.mk.inj e).2
        obtain ⟨c, hc, rfl⟩ := List.mem_map.mp hd
        have c0 := P.c.c0 c hc
        have c1 := P.c.c1 c hc
        refine Holds.hide fun Q hQ => ?_
        rw [forB_ap, dPair, wg_tup]
        refine ⟨rfl, ?_⟩
        have hs := ix_nn (n := (bs.map PyData.int).length) c0 (by simp; omega)
        simp [d_law_b3, LL, set_ob snoc_get hs]
        rw [hQ]
        exact ⟨bs.set c.1.toNat c.2, o, _, _, _, _, _, _, _, by simpa using hi, b01_set hb (P.c.v c hc), ho, rfl, by simp⟩
      · rintro l S h
        simp
        rw [hQ]
        exact h
    · simp
      exact ⟨bs, o, _, _, _, _, _, _, _, hi, hb, ho, rfl, rfl⟩
  rintro y S ⟨bs, o, x9, x14, x15, x16, x17, x18, x19, hi, hb, ho, rfl, rfl⟩
  simp [LL]
  have hgI : ∀ c, c ∈ C → getI bs c.1 = getI bs c.1 := fun _ _ => rfl
  refine forC_filtM dPair (fun p => !decide (getI bs p.1 = p.2)) (fun p => .int p.1) (small_len (by have := P.c.len; omega)) ?_ ?_
  · intro p hp
    have c0 := P.c.c0 p hp
    have c1 := P.c.c1 p hp
    rw [comp_ap, dPair, wg_tup]
    refine ⟨rfl, ?_⟩
    simp [wipeL, idx_ob snoc_get, at_getI c0 (by rw [hi]; exact c1)]
    by_cases h : getI bs p.1 = p.2 <;> simp [h]
  have hheld : ((C.filter fun p => !decide (getI bs p.1 = p.2)).map fun p => PyData.int p.1).isEmpty = heldL C bs := by
    rw [Bool.eq_iff_iff]
    simp [heldL]
  simp
  rw [cmp_eq_nil (k := 1) (sh_list fun x hx => by
    obtain ⟨p, _, rfl⟩ := List.mem_map.mp hx
    exact sh_int), hheld]
  have bbc : ∀ S : Sto, biW (o :: (R ++ [.lst (bs.map .int)])) .list true [.obj (R.length + 1)] = .ok (.obj (R.length + 1 + 1)) (o :: (R ++ [.lst (bs.map .int), .lst (bs.map .int)])) := fun S => by
    rw [bi_ob snoc_get]; simp
  simp [bbc []]
  have rdA : ∀ S : Sto, (∀ i, idxW S (.obj (R.length + 1)) (.dat (.int i)) = optD (atI (bs.map .int) i) S) → ClS S → callM Gc ft (n + 2 + 1) 3 [.obj (R.length + 1), .dat (.list (A.map .int))] S = .ok (.dat (.int (val (getI bs) A))) S :=
    fun S h hS => lread_eq h (fun x hx => by rw [hi]; exact P.rA x hx) (fun t _ => b01_get hb t) (by rw [P.lA]; omega) hS
  have rdB : ∀ S : Sto, (∀ i, idxW S (.obj (R.length + 1)) (.dat (.int i)) = optD (atI (bs.map .int) i) S) → ClS S → callM Gc ft (n + 2 + 1) 3 [.obj (R.length + 1), .dat (.list (B.map .int))] S = .ok (.dat (.int (val (getI bs) B))) S :=
    fun S h hS => lread_eq h (fun x hx => by rw [hi]; exact P.rB x hx) (fun t _ => b01_get hb t) (by rw [P.lB]; omega) hS
  have hcl2 : ∀ d e : List MP.D, ClS (o :: (R ++ [.lst d, .lst e])) := fun d e => (LR.two hR).cls ho
  refine kifs_cut (Mid2 v0 v4 m tot A B sp0 last wire C R o bs) ?_ ?_
  · refine kifs_b (fun hh => ?_) fun hh => ?_
    · refine Holds.hide fun Q hQ => ?_
      show wpS _ _ _ _ _ _
      simp [rdA _ (fun i => idx_ob get2a) (hcl2 _ _), rdB _ (fun i => idx_ob get2a) (hcl2 _ _), shl_1 (show m ≤ 1000000 by omega), PySem.W.kbt_mask, small_i (i := (m : Int)) (by omega) (by omega)]
      generalize hV : (val (getI bs) A + val (getI bs) B) % 2 ^ m = V
      refine forL_idx (fun k l S => ∃ y18, l = LL v0 v4 m tot A B sp0 last wire C x9 (some (.obj (R.length + 1))) (some (.dat (.bool (heldL C bs)))) (some (.obj (R.length + 1 + 1))) x16 (some (.dat (.int V))) y18 x19 ∧
        S = o :: (R ++ [.lst (bs.map .int), .lst (((List.range k).foldl (fun l k => l.set (at0 A k).toNat (V / 2 ^ k % 2)) bs).map .int)])) ?_ ?_ ?_
      · exact ⟨_, rfl, rfl⟩
      · rintro k d hd l S ⟨y18, rfl, rfl⟩
        obtain ⟨hk, rfl⟩ := rngH_get hd
        have hkA : k < A.length := by rw [P.lA]; exact hk
        have hm : at0 A k ∈ A := List.mem_of_getElem? (at0_get hkA)
        have hr := P.rA _ hm
        have hlen := fold_len A V bs k
        have hs := ix_nn (n := (((List.range k).foldl (fun l k => l.set (at0 A k).toNat (V / 2 ^ k % 2)) bs).map PyData.int).length) hr.1 (by simp only [List.length_map]; rw [hlen, hi]; exact hr.2)
        have ef : (List.range (k + 1)).foldl (fun l k => l.set (at0 A k).toNat (V / 2 ^ k % 2)) bs = ((List.range k).foldl (fun l k => l.set (at0 A k).toNat (V / 2 ^ k % 2)) bs).set (at0 A k).toNat (V / 2 ^ k % 2) := by
          rw [List.range_succ, List.foldl_append]; rfl
        rw [ef]
        generalize (List.range k).foldl (fun l k => l.set (at0 A k).toNat (V / 2 ^ k % 2)) bs = L at hs
        refine Holds.hide fun Q hQ => ?_
        rw [forB_ap]
        simp [d_law_b2, LL, at_k hkA, band_1, set_ob get2b hs]
        rw [hQ]
        exact ⟨_, rfl, by simp⟩
      · rintro l S ⟨y18, rfl, rfl⟩
        rw [rngH_len]
        simp
        rw [hQ]
        refine ⟨_, _, _, _, _, rfl, ?_⟩
        unfold dueAdd
        rw [if_pos hh, hV]
    · simp
      refine ⟨_, _, _, _, _, rfl, ?_⟩
      unfold dueAdd
      rw [if_neg (by rw [hh]; decide)]
  rintro y S ⟨x9, x16, x17, x18, x19, rfl, rfl⟩
  have tA : ∀ S : Sto, S[R.length + 1]? = some (.lst (bs.map .int)) → ClS S → callM Gc ft (n + 2 + 1) 4 [.dat (dGates (addingG C A B)), .obj (R.length + 1)] S = .ok (.dat (.tuple ((dueAdd C A B m bs).map .int))) S := fun S h hS => by
    rw [← add_due P hi hb]
    exact lturned_eq (fun g hg => by rw [hi]; exact (adding_good P g hg).toInG) (by rw [bi_ob h]; rfl) hS
  simp [LL, tA _ get2a (hcl2 _ _), bi_ob get2b]
  rw [cmp_ne_self (k := 1) (sh_tuple sh_ints)]
  simp
  have hsp : (sp0.map PyData.int ++ [PyData.int last]) = (sp0 ++ [last]).map PyData.int := by simp
  generalize hDA : (dueAdd C A B m bs).map PyData.int = DA
  refine forL_idx (fun k l S => ∃ (cs : List Int) (y16 : Option W), cs.length = tot ∧ B01 cs ∧ (∀ i, 0 ≤ i → i ∉ sp0 ++ [last] → getI cs i = getI bs i) ∧ (∀ j, j < k → getI cs (at0 (sp0 ++ [last]) j) = 0) ∧
    l = LL v0 v4 m tot A B sp0 last wire C x9 (some (.obj (R.length + 1))) (some (.dat (.bool (heldL C bs)))) (some (.obj (R.length + 1 + 1))) y16 x17 x18 x19 ∧ S = o :: (R ++ [.lst (cs.map .int), .lst DA])) ?_ ?_ ?_
  · exact ⟨bs, _, hi, hb, fun _ _ _ => rfl, fun j h => absurd h (by omega), rfl, rfl⟩
  · rintro k d hd l S ⟨cs, y16, hi, hb, q1, q2, rfl, rfl⟩
    rw [hsp, List.getElem?_map] at hd
    obtain ⟨x, hx, rfl⟩ := Option.map_eq_some_iff.mp hd
    have hk := (List.getElem?_eq_some_iff.mp hx).1
    have hx2 : x = at0 (sp0 ++ [last]) k := Option.some.inj (hx.symm.trans (at0_get hk))
    have hm := List.mem_of_getElem? hx
    have hr := P.rS x hm
    have hs := ix_nn (n := (cs.map PyData.int).length) hr.1 (by simp only [List.length_map]; rw [hi]; exact hr.2)
    refine Holds.hide fun Q hQ => ?_
    rw [forB_ap]
    simp [d_law_b1, LL, set_ob get2a hs]
    rw [hQ]
    refine ⟨cs.set x.toNat 0, _, by simpa using hi, b01_set hb (.inl rfl), fun i h0 hn => ?_, fun j hj => ?_, rfl, by simp⟩
    · rw [getI_set hr.1 (by rw [hi]; exact hr.2) h0, put_ne (fun z => hn (by rw [z]; exact hm))]
      exact q1 i h0 hn
    · have hjm : at0 (sp0 ++ [last]) j ∈ sp0 ++ [last] := List.mem_of_getElem? (at0_get (by omega))
      rw [getI_set hr.1 (by rw [hi]; exact hr.2) (P.rS _ hjm).1]
      by_cases e : at0 (sp0 ++ [last]) j = x
      · rw [e, put_self]
      · rw [put_ne e]
        refine q2 j ?_
        by_cases hjk : j = k
        · exact absurd (by rw [hjk]; exact hx2.symm) e
        · omega
  rintro l S ⟨cs, y16, hi, hb, q1, q2, rfl, rfl⟩
  have hlen : (sp0.map PyData.int ++ [PyData.int last]).length = (sp0 ++ [last]).length := by simp
  rw [hlen] at q2
  have z0 : ∀ t, t ∈ sp0 ++ [last] → getI cs t = 0 := fun t ht => by
    obtain ⟨j, hj, rfl⟩ := List.getElem_of_mem ht
    have := q2 j hj
    rwa [at0_eq hj] at this
  have hheld2 : heldL C cs = heldL C bs := heldF_congr (f := getI cs) (g := getI bs) fun c hc => q1 c.1 (P.c.c0 c hc) (P.CS c hc)
  have hcl3 : ∀ d e f : List MP.D, ClS (o :: (R ++ [.lst d, .lst e, .lst f])) := fun d e f => (LR.three hR).cls ho
  have rdA' : ∀ S : Sto, (∀ i, idxW S (.obj (R.length + 1)) (.dat (.int i)) = optD (atI (cs.map .int) i) S) → ClS S → callM Gc ft (n + 2 + 1) 3 [.obj (R.length + 1), .dat (.list (A.map .int))] S = .ok (.dat (.int (val (getI cs) A))) S :=
    fun S h hS => lread_eq h (fun x hx => by rw [hi]; exact P.rA x hx) (fun t _ => b01_get hb t) (by rw [P.lA]; omega) hS
  have rdB' : ∀ S : Sto, (∀ i, idxW S (.obj (R.length + 1)) (.dat (.int i)) = optD (atI (cs.map .int) i) S) → ClS S → callM Gc ft (n + 2 + 1) 3 [.obj (R.length + 1), .dat (.list (B.map .int))] S = .ok (.dat (.int (val (getI cs) B))) S :=
    fun S h hS => lread_eq h (fun x hx => by rw [hi]; exact P.rB x hx) (fun t _ => b01_get hb t) (by rw [P.lB]; omega) hS
  have bbc2 : biW (o :: (R ++ [.lst (cs.map .int), .lst DA])) .list true [.obj (R.length + 1)] = .ok (.obj (R.length + 1 + 1 + 1)) (o :: (R ++ [.lst (cs.map .int), .lst DA, .lst (cs.map .int)])) := by
    rw [bi_ob get2a]; simp
  simp [LL, bbc2]
  refine kand_val (v := decide (val (getI cs) A < val (getI cs) B)) (fun _ Q' hQ' => ?_) ?_
  · simp [rdA' _ (fun i => idx_ob get3a) (hcl3 _ _ _), rdB' _ (fun i => idx_ob get3a) (hcl3 _ _ _)]
    exact hQ'
  refine kifs_cut (Mid3 v0 v4 m tot A B sp0 last wire C R o (heldL C bs) cs DA) ?_ ?_
  · refine kifs_b (fun hh => ?_) fun hh => ?_
    · refine Holds.hide fun Q hQ => ?_
      show wpS _ _ _ _ _ _
      have hs := ix_nn (n := (cs.map PyData.int).length) P.rw0 (by simp only [List.length_map]; rw [hi]; exact P.rw1)
      simp [idx_ob get3c, set_ob get3c hs, at_getI P.rw0 (by rw [hi]; exact P.rw1)]
      rw [hQ]
      refine ⟨_, _, _, _, _, rfl, ?_⟩
      have : dueLess C A B wire cs = cs.set wire.toNat (1 - getI cs wire) := by
        unfold dueLess
        rw [if_pos]
        rw [hheld2]
        simpa using hh
      rw [this]
      simp
    · simp
      refine ⟨_, _, _, _, _, rfl, ?_⟩
      have : dueLess C A B wire cs = cs := by
        unfold dueLess
        rw [if_neg]
        rw [hheld2]
        intro z
        simp [z.1, z.2] at hh
      rw [this]
  rintro y S ⟨x9, x16, x17, x18, x19, rfl, rfl⟩
  have tB : ∀ S : Sto, S[R.length + 1]? = some (.lst (cs.map .int)) → ClS S → callM Gc ft (n + 2 + 1) 4 [.dat (dGates (tellingG C A B sp0 last wire)), .obj (R.length + 1)] S = .ok (.dat (.tuple ((dueLess C A B wire cs).map .int))) S := fun S h hS => by
    rw [← less_due P hi hb z0]
    exact lturned_eq (fun g hg => by rw [hi]; exact (telling_good P g hg).toInG) (by rw [bi_ob h]; rfl) hS
  simp [LL, tB _ get3a (hcl3 _ _ _), bi_ob get3c]
  rw [cmp_ne_self (k := 1) (sh_tuple sh_ints)]
  simp
  rw [hQ]
  exact ⟨rfl, o, _, _, _, _, _, _, _, _, _, ho, hR.three, rfl, rfl⟩
end
/-! ### the places out of the drawn order -/
def seg (ys : List Int) (j k : Nat) : List Int := (ys.drop j).take k
theorem seg_len {ys : List Int} {j k : Nat} (h : j + k ≤ ys.length) : (seg ys j k).length = k := by simp [seg]; omega
theorem seg_sub {ys : List Int} {j k : Nat} {x : Int} (h : x ∈ seg ys j k) : x ∈ ys := List.mem_of_mem_drop (List.mem_of_mem_take h)
theorem seg_nd {ys : List Int} {j k : Nat} (h : ys.Nodup) : (seg ys j k).Nodup := h.sublist ((List.take_sublist _ _).trans (List.drop_sublist _ _))
theorem seg_ne {ys : List Int} {j k j2 k2 : Nat} (nd : ys.Nodup) (h : j + k ≤ j2) {x y : Int} (hx : x ∈ seg ys j k) (hy : y ∈ seg ys j2 k2) : x ≠ y := by
  obtain ⟨a, ha, rfl⟩ := List.getElem_of_mem hx
  obtain ⟨b, hb, rfl⟩ := List.getElem_of_mem hy
  simp [seg] at ha hb ⊢
  intro e
  have := (List.getElem_inj nd).mp e
  omega
theorem insI_perm (x : Int) : ∀ l : List Int, (insI x l).Perm (x :: l)
  | [] => .refl _
  | y :: r => by
    show (if x ≤ y then x :: y :: r else y :: insI x r).Perm (x :: y :: r)
    split
    · exact .refl _
    · exact ((insI_perm x r).cons y).trans (.swap x y r)
theorem sortI_perm : ∀ l : List Int, (sortI l).Perm l
  | [] => .refl _
  | x :: l => (insI_perm x _).trans ((sortI_perm l).cons x)
theorem pl_mk {m : Nat} {ys : List Int} {C : List (Int × Int)} {t : Nat} (h1 : 1 ≤ m) (h5 : m ≤ 5) (hp : ys.Perm ((List.range (3 * m + 6)).map fun i : Nat => (i : Int))) (ht : t ≤ 2)
    (hC : C.map (·.1) = sortI (seg ys (3 * m + 2) t)) (hv : ∀ c, c ∈ C → c.2 = 0 ∨ c.2 = 1) :
    ∃ sp0 last, seg ys (2 * m) (m + 1) = sp0 ++ [last] ∧ Pl m (3 * m + 6) (seg ys 0 m) (seg ys m m) sp0 last (at0 ys (3 * m + 1)) C := by
  have hl : ys.length = 3 * m + 6 := by rw [hp.length_eq]; simp
  have nd : ys.Nodup := by
    refine hp.nodup_iff.mpr ?_
    rw [List.nodup_iff_pairwise_ne, List.pairwise_map]
    exact (List.nodup_iff_pairwise_ne.mp List.nodup_range).imp fun h z => h (by omega)
  have rg : ∀ x, x ∈ ys → 0 ≤ x ∧ x < ((3 * m + 6 : Nat) : Int) := fun x hx => by
    obtain ⟨i, hi, rfl⟩ := List.mem_map.mp (hp.mem_iff.mp hx)
    have := List.mem_range.mp hi
    omega
  have hsl := seg_len (ys := ys) (j := 2 * m) (k := m + 1) (by omega)
  have hne : seg ys (2 * m) (m + 1) ≠ [] := fun z => by rw [z] at hsl; simp at hsl
  have hs : seg ys (2 * m) (m + 1) = (seg ys (2 * m) (m + 1)).dropLast ++ [(seg ys (2 * m) (m + 1)).getLast hne] := (List.dropLast_concat_getLast hne).symm
  have hw : at0 ys (3 * m + 1) ∈ seg ys (3 * m + 1) 1 := by
    have : seg ys (3 * m + 1) 1 = [at0 ys (3 * m + 1)] := by
      unfold seg
      rw [List.drop_eq_getElem_cons (by omega), at0_eq (by omega)]
      rfl
    rw [this]; simp
  have hCm : ∀ c, c ∈ C → c.1 ∈ seg ys (3 * m + 2) t := fun c hc => (sortI_perm _).mem_iff.mp (by rw [← hC]; exact List.mem_map.mpr ⟨c, hc, rfl⟩)
  have hCl : C.length = t := by
    have := congrArg List.length hC
    rw [List.length_map, (sortI_perm _).length_eq, seg_len (by omega)] at this
    exact this
  refine ⟨_, _, hs, ?_⟩
  generalize (seg ys (2 * m) (m + 1)).dropLast = sp0 at hs
  generalize (seg ys (2 * m) (m + 1)).getLast hne = last at hs
  have e0 : (0 : Nat) + m ≤ m := by omega
  constructor
  · exact h1
  · exact h5
  · rfl
  · exact seg_len (by omega)
  · exact seg_len (by omega)
  · have := congrArg List.length hs
    rw [hsl] at this
    simp at this
    omega
  · exact fun x hx => rg x (seg_sub hx)
  · exact fun x hx => rg x (seg_sub hx)
  · exact fun x hx => rg x (seg_sub (by rw [hs]; exact hx))
  · exact (rg _ (seg_sub hw)).1
  · exact (rg _ (seg_sub hw)).2
  · exact seg_nd nd
  · rw [← hs]; exact seg_nd nd
  · exact fun b hb z => seg_ne nd (by omega) z hb rfl
  · rw [← hs]; exact fun a ha z => seg_ne nd (by omega) ha z rfl
  · rw [← hs]; exact fun a ha z => seg_ne nd (by omega) ha z rfl
  · exact fun z => seg_ne nd (by omega) z hw rfl
  · exact fun z => seg_ne nd (by omega) z hw rfl
  · rw [← hs]; exact fun z => seg_ne nd (by omega) z hw rfl
  · refine ⟨?_, fun c hc => (rg _ (seg_sub (hCm c hc))).1, fun c hc => (rg _ (seg_sub (hCm c hc))).2, hv, by omega⟩
    rw [hC]
    exact (sortI_perm _).nodup_iff.mpr (seg_nd nd)
  · exact fun c hc z => seg_ne nd (by omega) z (hCm c hc) rfl
  · exact fun c hc z => seg_ne nd (by omega) z (hCm c hc) rfl
  · rw [← hs]; exact fun c hc z => seg_ne nd (by omega) z (hCm c hc) rfl
  · exact fun c hc z => seg_ne nd (by omega) hw (hCm c hc) z.symm
theorem rng_ints (n : Nat) : rng 0 1 n = ((List.range n).map fun i : Nat => (i : Int)).map PyData.int := by rw [rng_map, List.map_map]; rfl
theorem cut_seg {ys : List Int} {lo hi : Int} {j k : Nat} (h1 : lo = j) (h2 : hi = (j + k : Nat)) (hl : j + k ≤ ys.length) : cutD (ys.map PyData.int) (some lo) (some hi) = (seg ys j k).map PyData.int := by
  subst h1 h2
  rw [cut_nat (by omega) (by simp; omega)]
  simp [seg]
theorem bor_len {T A B : List Int} (hT : T.length ≤ 100) (hA : A.length ≤ T.length) (hB : B.length ≤ T.length) : (borG T A B).length ≤ 20000 := by
  unfold borG
  rw [List.length_append, ← copy_idx _ _ hA, ← add_idx _ _ hB]
  have := stepsG_len (v := 0) (C := []) (T := T) (Sx := B) B.length
  have h2 : B.length * T.length ≤ 100 * 100 := Nat.mul_le_mul (by omega) hT
  unfold stepsG at this
  simp at this h2 ⊢
  omega
theorem adding_len {C : List (Int × Int)} {A B : List Int} (hA : A.length ≤ 100) (hB : B.length ≤ A.length) : (addingG C A B).length ≤ 20000 := by
  unfold addingG
  rw [← add_idx _ _ hB]
  have := stepsG_len (v := 1) (C := C) (T := A) (Sx := B) B.length
  have h2 : B.length * A.length ≤ 100 * 100 := Nat.mul_le_mul (by omega) hA
  unfold stepsG at this
  omega
theorem bi_tupG {gs : List Gate} {S : Sto} : biW S .tuple false [.dat (dGates gs)] = .ok (.dat (dGates gs)) S := rfl
def CtlI (K : List Int) (i : Nat) (acc : List MP.D) (S : Sto) : Prop := ∃ (C : List (Int × Int)) (o : Ob), acc = C.map dPair ∧ C.map (·.1) = K.take i ∧ (∀ c, c ∈ C → c.2 = 0 ∨ c.2 = 1) ∧ Dw o ∧ S = [o]
theorem law_true : ∀ ns : List Int, ns.length ≤ 63 → ∃ S, callM Gc ft 60 2 [.scr (ns.map .int)] [] = .ok (.dat (.bool true)) S := by
  intro ns hl
  refine holds_ex1 (call_def ft_law rfl ?_)
  refine Holds.hide fun Q hQ => ?_
  show wpS _ _ _ _ _ _
  simp [d_law, start']
  refine (draw_ok (n := 58) hl).imp ?_
  rintro _ _ ⟨o, rfl, ho, rfl⟩
  simp
  refine (take_ok (n := 58) (m := 5) ho (by decide) (by decide) cl_nil).imp ?_
  rintro _ _ ⟨v, o1, rfl, hv0, hv1, ho1, rfl⟩
  obtain ⟨m, hm⟩ : ∃ m : Nat, 1 + v = m := ⟨(1 + v).toNat, by omega⟩
  have hm1 : 1 ≤ m := by omega
  have hm5 : m ≤ 5 := by omega
  have hmul : mulOk 3 m := mulOk_s (by decide) (by omega)
  obtain ⟨tot, ht⟩ : ∃ tot : Nat, tot = 3 * m + 6 := ⟨_, rfl⟩
  have htot : (3 : Int) * m + 6 = tot := by omega
  simp [hm, hmul, htot, small_i (i := (tot : Int)) (by omega) (by omega), show (tot : Int) ≤ 1000000 by omega]
  have hxs := some_ok (n := 57) (o := o1) (R := []) (xs := (List.range tot).map fun i : Nat => (i : Int)) ho1 (by simp; omega) cl_nil
  rw [← rng_ints] at hxs
  simp only [List.length_map, List.length_range] at hxs
  refine hxs.imp ?_
  rintro _ _ ⟨ys, o2, rfl, hp, ho2, rfl⟩
  have hyl : ys.length = tot := by rw [hp.length_eq]; simp
  have mul2 : mulOk 2 m := mulOk_s (by decide) (by omega)
  have c1 : cutD (ys.map PyData.int) none (some (m : Int)) = (seg ys 0 m).map PyData.int := by rw [cut_0 (by simp; omega)]; simp [seg]
  have c2 : cutD (ys.map PyData.int) (some (m : Int)) (some (2 * (m : Int))) = (seg ys m m).map PyData.int := cut_seg rfl (by omega) (by omega)
  have c3 : cutD (ys.map PyData.int) (some (2 * (m : Int))) (some (3 * (m : Int) + 1)) = (seg ys (2 * m) (m + 1)).map PyData.int := cut_seg (by omega) (by omega) (by omega)
  have iw : atI (ys.map PyData.int) (3 * (m : Int) + 1) = some (.int (at0 ys (3 * m + 1))) := by
    have := at_k (xs := ys) (k := 3 * m + 1) (by omega)
    rw [← this]; congr 1
  simp [c1, c2, c3, iw, hmul, mul2, setPar]
  refine (take_ok (n := 58) (m := 3) ho2 (by decide) (by decide) cl_nil).imp ?_
  rintro _ _ ⟨t, o3, rfl, ht0, ht1, ho3, rfl⟩
  obtain ⟨t, rfl⟩ := nat_of ht0
  have c4 : cutD (ys.map PyData.int) (some (3 * (m : Int) + 2)) (some (3 * (m : Int) + 2 + (t : Int))) = (seg ys (3 * m + 2) t).map PyData.int := cut_seg (by omega) (by omega) (by omega)
  simp [c4, bi_sortI]
  refine forC_idx (CtlI (sortI (seg ys (3 * m + 2) t))) ?_ ?_ ?_
  · exact ⟨[], o3, rfl, rfl, fun c hc => absurd hc (by simp), ho3, rfl⟩
  · rintro i d hd acc S ⟨C, o, rfl, hC, hv, ho, rfl⟩
    rw [List.getElem?_map] at hd
    obtain ⟨w, hw, rfl⟩ := Option.map_eq_some_iff.mp hd
    refine Holds.hide fun Q hQ => ?_
    rw [comp_ap]
    simp [wipeL]
    refine (take_ok (n := 58) (m := 2) ho (by decide) (by decide) cl_nil).imp ?_
    rintro _ _ ⟨v, o', rfl, hv0, hv1, ho', rfl⟩
    simp
    rw [hQ]
    have hCl : C.length ≤ 1000 := by
      have := congrArg List.length hC
      rw [List.length_map, List.length_take, (sortI_perm _).length_eq, seg_len (by omega)] at this
      omega
    refine ⟨small_lt (by simp; omega), C ++ [(w, v)], o', by simp [dPair], ?_, fun c hc => ?_, ho', rfl⟩
    · rw [List.take_add_one, hw]
      simp [hC]
    · rcases List.mem_append.mp hc with hc | hc
      · exact hv c hc
      · rw [List.mem_singleton.mp hc]
        show v = 0 ∨ v = 1
        omega
  rintro acc S ⟨C, o4, rfl, hC, hv, ho4, rfl⟩
  rw [List.length_map, List.take_length] at hC
  obtain ⟨sp0, last, hsp, P⟩ := pl_mk hm1 hm5 (by rw [← ht]; exact hp) (by omega) hC hv
  rw [← ht] at P
  have hcls : ClS [o4] := by
    obtain ⟨cs, p, c, s, rfl, _⟩ := ho4
    exact cls_cons cl_nil
  rw [hsp]
  generalize seg ys 0 m = A at P
  generalize seg ys m m = B at P
  generalize at0 ys (3 * m + 1) = wire at P
  have lA := P.lA
  have lB := P.lB
  have lS := P.lS
  have lC := P.c.len
  have e1 := add_into_eq (n := 57) (T := A) (Sx := B) (C := C) (S := [o4]) (by omega) (by omega) (by omega) hcls
  have e2 := less_into_eq (n := 55) (wire := wire) (last := last) (T := sp0) (A := A) (B := B) (C := C) (S := [o4]) (by omega) (by omega) (by omega) (by omega) hcls
  simp only [List.map_append, List.map_cons, List.map_nil] at e2
  have f1 := faults_eq (n := 56) (m := tot) (gs := addingG C A B) (S := [o4]) (by omega) (Nat.le_trans (adding_len (by omega) (by omega)) (by decide)) (adding_good P) hcls
  have f2 := faults_eq (n := 56) (m := tot) (gs := tellingG C A B sp0 last wire) (S := [o4]) (by omega) (by
    have := bor_len (T := sp0 ++ [last]) (A := A) (B := B) (by simp; omega) (by simp; omega) (by simp; omega)
    unfold tellingG
    simp
    omega) (telling_good P) hcls
  change _ = Rs.ok (W.dat (dGates (addingG C A B))) [o4] at e1
  change _ = Rs.ok (W.dat (dGates (tellingG C A B sp0 last wire))) [o4] at e2
  simp [e1, e2, f1, f2, bi_tupG, cmp_ne_nil sh_nil, small_i]
  refine forL_inv (TurnI (some (.scr (ns.map .int))) (some (.dat (.list (ys.map .int)))) m tot A B sp0 last wire C) ?_ ?_ ?_
  · exact ⟨o4, [], _, _, _, _, _, _, _, _, ho4, fun _ h => absurd h (by simp), rfl, rfl⟩
  · intro d hd l S h
    obtain ⟨i, hi⟩ := List.getElem?_of_mem hd
    obtain ⟨_, rfl⟩ := rngH_get hi
    refine (turn_ok (n := 56) P rfl h).imp ?_
    rintro ⟨f, l⟩ S ⟨rfl, h⟩
    exact h
  · rintro l S ⟨o, R, x9, x13, x14, x15, x16, x17, x18, x19, ho, hR, rfl, rfl⟩
    simp [LL]
    rw [hQ]
    have hlv : leave 0 (.dat (.bool true)) (o :: R) = .ok (.dat (.bool true)) [] := leave_more (S := []) (T := o :: R) rfl (fun _ _ => rfl)
    simp [hlv]
end Lw
set_option Elab.async false
set_option linter.all false
set_option maxRecDepth 100000
set_option maxHeartbeats 4000000
namespace Lw
open PySem PySem.Spec L2 MP
def tp (i : Nat) : Stmt := PySem.Challenge.pw_backrun_k42_adders_and_comparisons.main.body.getD i (.Pass ⟨0, 0, 0, 0⟩)
def D_Ldraw : Df := ⟨"_law_draw", tp 12, ["_law_script"], ["_law_script", "_law_seed", "_law_cell"], d_Ldraw⟩
def D_Ltake : Df := ⟨"_law_take", tp 13, ["_law_draw_here", "_law_many"], ["_law_draw_here", "_law_many", "_law_found"], d_Ltake⟩
def D_law : Df := ⟨"law", tp 22, ["_law_script"], ["_law_script", "_law_draw_here", "_law_many", "_law_total", "_law_order", "_law_wire", "_law_controls", "_law_adding", "_law_telling", "_law_turn", "_law_first", "_law_second", "_law_spare", "_law_bits_here", "_law_held", "_law_due", "_law_one", "_law_sum_now", "_law_k", "_law_value_here"], d_law⟩
def D_Lread : Df := ⟨"_law_read", tp 21, ["_law_bits_here", "_law_wires"], ["_law_bits_here", "_law_wires", "_law_k"], d_Lread⟩
def D_Lturned : Df := ⟨"_law_turned", tp 16, ["_law_gates", "_law_bits_here"], ["_law_gates", "_law_bits_here", "_law_target", "_law_controls", "_law_wire", "_law_value_here"], d_Lturned⟩
def D_circuit_faults : Df := ⟨"circuit_faults", tp 10, ["value"], ["value", "found", "k"], d_circuit_faults⟩
def D_wires_of : Df := ⟨"wires_of", tp 9, ["gate"], ["gate", "wire", "value"], d_wires_of⟩
def D_is_gate : Df := ⟨"is_gate", tp 8, ["value"], ["value", "before", "control"], d_is_gate⟩
def D_is_number : Df := ⟨"is_number", tp 7, ["value"], ["value"], d_is_number⟩
def D_less_into : Df := ⟨"less_into", tp 5, ["wire", "first", "second", "spare", "controls"], ["wire", "first", "second", "spare", "controls", "gates", "told"], d_less_into⟩
def D_with_controls : Df := ⟨"with_controls", tp 1, ["target", "wires", "controls"], ["target", "wires", "controls", "wire"], d_with_controls⟩
def D_borrow_gates : Df := ⟨"borrow_gates", tp 4, ["spare", "first", "second"], ["spare", "first", "second", "gates", "k", "j", "wire"], d_borrow_gates⟩
def D_copy_into : Df := ⟨"copy_into", tp 3, ["target", "source", "controls"], ["target", "source", "controls", "k"], d_copy_into⟩
def D_add_into : Df := ⟨"add_into", tp 2, ["target", "source", "controls"], ["target", "source", "controls", "gates", "many", "k", "j"], d_add_into⟩
def D_Lsome : Df := ⟨"_law_some", tp 20, ["_law_draw_here", "_law_wires", "_law_many"], ["_law_draw_here", "_law_wires", "_law_many", "_law_rest", "_law_k"], d_Lsome⟩
def tb : List Df := [D_Ldraw, D_Ltake, D_law, D_Lread, D_Lturned, D_circuit_faults, D_wires_of, D_is_gate, D_is_number, D_less_into, D_with_controls, D_borrow_gates, D_copy_into, D_add_into, D_Lsome]
def gl (i : Nat) : Option Str := ([] : List Str)[i]?
def blt : List Str := ["abs", "int", "len", "range", "tuple", "list", "sorted", "sum", "max", "isinstance", "bool", "reversed"]
theorem fns_tb : fnsOf tb = ft := by
  funext i
  show ((tb)[i]?).map (·.fn) = _
  rw [← List.getElem?_map]
  rfl
def ckd (d : Df) : Bool := Df.ok gl (nmsOf tb) blt d
theorem ck_Ldraw : Df.ok gl (nmsOf tb) blt D_Ldraw = true := by decide +kernel
theorem ck_Ltake : Df.ok gl (nmsOf tb) blt D_Ltake = true := by decide +kernel
theorem ck_law : Df.ok gl (nmsOf tb) blt D_law = true := by decide +kernel
theorem ck_Lread : Df.ok gl (nmsOf tb) blt D_Lread = true := by decide +kernel
theorem ck_Lturned : Df.ok gl (nmsOf tb) blt D_Lturned = true := by decide +kernel
theorem ck_circuit_faults : Df.ok gl (nmsOf tb) blt D_circuit_faults = true := by decide +kernel
theorem ck_wires_of : Df.ok gl (nmsOf tb) blt D_wires_of = true := by decide +kernel
theorem ck_is_gate : Df.ok gl (nmsOf tb) blt D_is_gate = true := by decide +kernel
theorem ck_is_number : Df.ok gl (nmsOf tb) blt D_is_number = true := by decide +kernel
theorem ck_less_into : Df.ok gl (nmsOf tb) blt D_less_into = true := by decide +kernel
theorem ck_with_controls : Df.ok gl (nmsOf tb) blt D_with_controls = true := by decide +kernel
theorem ck_borrow_gates : Df.ok gl (nmsOf tb) blt D_borrow_gates = true := by decide +kernel
theorem ck_copy_into : Df.ok gl (nmsOf tb) blt D_copy_into = true := by decide +kernel
theorem ck_add_into : Df.ok gl (nmsOf tb) blt D_add_into = true := by decide +kernel
theorem ck_Lsome : Df.ok gl (nmsOf tb) blt D_Lsome = true := by decide +kernel
theorem ck_all : tb.all (Df.ok gl (nmsOf tb) blt) = true := by
  show ([D_Ldraw, D_Ltake, D_law, D_Lread, D_Lturned, D_circuit_faults, D_wires_of, D_is_gate, D_is_number, D_less_into, D_with_controls, D_borrow_gates, D_copy_into, D_add_into, D_Lsome].all _) = true
  simp only [List.all_cons, List.all_nil, Bool.and_true, ck_Ldraw, ck_Ltake, ck_law, ck_Lread, ck_Lturned, ck_circuit_faults, ck_wires_of, ck_is_gate, ck_is_number, ck_less_into, ck_with_controls, ck_borrow_gates, ck_copy_into, ck_add_into, ck_Lsome]
theorem all_mk {K : PySem.W.Frag} {h : Heap} {mg : Str → Option Value} (X : K.In h) (G : h.Ns mainGlobals mg)
  {f0 f1 f2 f3 f4 f5 f6 f7 f8 f9 f10 f11 f12 f13 f14 : Addr} {od0 an0 od1 an1 od2 an2 od3 an3 od4 an4 od5 an5 od6 an6 od7 an7 od8 an8 od9 an9 od10 an10 od11 an11 od12 an12 od13 an13 od14 an14 : Option Addr} {sl0 sl1 sl2 sl3 sl4 sl5 sl6 sl7 sl8 sl9 sl10 sl11 sl12 sl13 sl14 : Array (Option Value)} {oc0 kV0 dc0 pm0 cd0 ct0 oc1 kV1 dc1 pm1 cd1 ct1 oc2 kV2 dc2 pm2 cd2 ct2 oc3 kV3 dc3 pm3 cd3 ct3 oc4 kV4 dc4 pm4 cd4 ct4 oc5 kV5 dc5 pm5 cd5 ct5 oc6 kV6 dc6 pm6 cd6 ct6 oc7 kV7 dc7 pm7 cd7 ct7 oc8 kV8 dc8 pm8 cd8 ct8 oc9 kV9 dc9 pm9 cd9 ct9 oc10 kV10 dc10 pm10 cd10 ct10 oc11 kV11 dc11 pm11 cd11 ct11 oc12 kV12 dc12 pm12 cd12 ct12 oc13 kV13 dc13 pm13 cd13 ct13 oc14 kV14 dc14 pm14 cd14 ct14 : Value}
  (a0 : PySem.W.nsIn K mainGlobals "_law_draw" = some (some (.ref f0))) (l0 : K.lookup f0 = some ⟨oc0, od0, .func (PySem.W.fnOf "_law_draw" "_law_draw" (defArgs (tp 12)) (defBody (tp 12)) (defScope (tp 12)) .none kV0 dc0 pm0 an0 cd0 ct0), sl0⟩) (c0 : PySem.W.codeIn K cd0 "_law_draw" = true) (k0 : PySem.W.keepIn K (.ref f0) = true)
  (a1 : PySem.W.nsIn K mainGlobals "_law_take" = some (some (.ref f1))) (l1 : K.lookup f1 = some ⟨oc1, od1, .func (PySem.W.fnOf "_law_take" "_law_take" (defArgs (tp 13)) (defBody (tp 13)) (defScope (tp 13)) .none kV1 dc1 pm1 an1 cd1 ct1), sl1⟩) (c1 : PySem.W.codeIn K cd1 "_law_take" = true) (k1 : PySem.W.keepIn K (.ref f1) = true)
  (a2 : PySem.W.nsIn K mainGlobals "law" = some (some (.ref f2))) (l2 : K.lookup f2 = some ⟨oc2, od2, .func (PySem.W.fnOf "law" "law" (defArgs (tp 22)) (defBody (tp 22)) (defScope (tp 22)) .none kV2 dc2 pm2 an2 cd2 ct2), sl2⟩) (c2 : PySem.W.codeIn K cd2 "law" = true) (k2 : PySem.W.keepIn K (.ref f2) = true)
  (a3 : PySem.W.nsIn K mainGlobals "_law_read" = some (some (.ref f3))) (l3 : K.lookup f3 = some ⟨oc3, od3, .func (PySem.W.fnOf "_law_read" "_law_read" (defArgs (tp 21)) (defBody (tp 21)) (defScope (tp 21)) .none kV3 dc3 pm3 an3 cd3 ct3), sl3⟩) (c3 : PySem.W.codeIn K cd3 "_law_read" = true) (k3 : PySem.W.keepIn K (.ref f3) = true)
  (a4 : PySem.W.nsIn K mainGlobals "_law_turned" = some (some (.ref f4))) (l4 : K.lookup f4 = some ⟨oc4, od4, .func (PySem.W.fnOf "_law_turned" "_law_turned" (defArgs (tp 16)) (defBody (tp 16)) (defScope (tp 16)) .none kV4 dc4 pm4 an4 cd4 ct4), sl4⟩) (c4 : PySem.W.codeIn K cd4 "_law_turned" = true) (k4 : PySem.W.keepIn K (.ref f4) = true)
  (a5 : PySem.W.nsIn K mainGlobals "circuit_faults" = some (some (.ref f5))) (l5 : K.lookup f5 = some ⟨oc5, od5, .func (PySem.W.fnOf "circuit_faults" "circuit_faults" (defArgs (tp 10)) (defBody (tp 10)) (defScope (tp 10)) .none kV5 dc5 pm5 an5 cd5 ct5), sl5⟩) (c5 : PySem.W.codeIn K cd5 "circuit_faults" = true) (k5 : PySem.W.keepIn K (.ref f5) = true)
  (a6 : PySem.W.nsIn K mainGlobals "wires_of" = some (some (.ref f6))) (l6 : K.lookup f6 = some ⟨oc6, od6, .func (PySem.W.fnOf "wires_of" "wires_of" (defArgs (tp 9)) (defBody (tp 9)) (defScope (tp 9)) .none kV6 dc6 pm6 an6 cd6 ct6), sl6⟩) (c6 : PySem.W.codeIn K cd6 "wires_of" = true) (k6 : PySem.W.keepIn K (.ref f6) = true)
  (a7 : PySem.W.nsIn K mainGlobals "is_gate" = some (some (.ref f7))) (l7 : K.lookup f7 = some ⟨oc7, od7, .func (PySem.W.fnOf "is_gate" "is_gate" (defArgs (tp 8)) (defBody (tp 8)) (defScope (tp 8)) .none kV7 dc7 pm7 an7 cd7 ct7), sl7⟩) (c7 : PySem.W.codeIn K cd7 "is_gate" = true) (k7 : PySem.W.keepIn K (.ref f7) = true)
  (a8 : PySem.W.nsIn K mainGlobals "is_number" = some (some (.ref f8))) (l8 : K.lookup f8 = some ⟨oc8, od8, .func (PySem.W.fnOf "is_number" "is_number" (defArgs (tp 7)) (defBody (tp 7)) (defScope (tp 7)) .none kV8 dc8 pm8 an8 cd8 ct8), sl8⟩) (c8 : PySem.W.codeIn K cd8 "is_number" = true) (k8 : PySem.W.keepIn K (.ref f8) = true)
  (a9 : PySem.W.nsIn K mainGlobals "less_into" = some (some (.ref f9))) (l9 : K.lookup f9 = some ⟨oc9, od9, .func (PySem.W.fnOf "less_into" "less_into" (defArgs (tp 5)) (defBody (tp 5)) (defScope (tp 5)) .none kV9 dc9 pm9 an9 cd9 ct9), sl9⟩) (c9 : PySem.W.codeIn K cd9 "less_into" = true) (k9 : PySem.W.keepIn K (.ref f9) = true)
  (a10 : PySem.W.nsIn K mainGlobals "with_controls" = some (some (.ref f10))) (l10 : K.lookup f10 = some ⟨oc10, od10, .func (PySem.W.fnOf "with_controls" "with_controls" (defArgs (tp 1)) (defBody (tp 1)) (defScope (tp 1)) .none kV10 dc10 pm10 an10 cd10 ct10), sl10⟩) (c10 : PySem.W.codeIn K cd10 "with_controls" = true) (k10 : PySem.W.keepIn K (.ref f10) = true)
  (a11 : PySem.W.nsIn K mainGlobals "borrow_gates" = some (some (.ref f11))) (l11 : K.lookup f11 = some ⟨oc11, od11, .func (PySem.W.fnOf "borrow_gates" "borrow_gates" (defArgs (tp 4)) (defBody (tp 4)) (defScope (tp 4)) .none kV11 dc11 pm11 an11 cd11 ct11), sl11⟩) (c11 : PySem.W.codeIn K cd11 "borrow_gates" = true) (k11 : PySem.W.keepIn K (.ref f11) = true)
  (a12 : PySem.W.nsIn K mainGlobals "copy_into" = some (some (.ref f12))) (l12 : K.lookup f12 = some ⟨oc12, od12, .func (PySem.W.fnOf "copy_into" "copy_into" (defArgs (tp 3)) (defBody (tp 3)) (defScope (tp 3)) .none kV12 dc12 pm12 an12 cd12 ct12), sl12⟩) (c12 : PySem.W.codeIn K cd12 "copy_into" = true) (k12 : PySem.W.keepIn K (.ref f12) = true)
  (a13 : PySem.W.nsIn K mainGlobals "add_into" = some (some (.ref f13))) (l13 : K.lookup f13 = some ⟨oc13, od13, .func (PySem.W.fnOf "add_into" "add_into" (defArgs (tp 2)) (defBody (tp 2)) (defScope (tp 2)) .none kV13 dc13 pm13 an13 cd13 ct13), sl13⟩) (c13 : PySem.W.codeIn K cd13 "add_into" = true) (k13 : PySem.W.keepIn K (.ref f13) = true)
  (a14 : PySem.W.nsIn K mainGlobals "_law_some" = some (some (.ref f14))) (l14 : K.lookup f14 = some ⟨oc14, od14, .func (PySem.W.fnOf "_law_some" "_law_some" (defArgs (tp 20)) (defBody (tp 20)) (defScope (tp 20)) .none kV14 dc14 pm14 an14 cd14 ct14), sl14⟩) (c14 : PySem.W.codeIn K cd14 "_law_some" = true) (k14 : PySem.W.keepIn K (.ref f14) = true)
  (b0 : PySem.W.nsIn K mainGlobals "abs" = some none)
  (b1 : PySem.W.nsIn K mainGlobals "int" = some none)
  (b2 : PySem.W.nsIn K mainGlobals "len" = some none)
  (b3 : PySem.W.nsIn K mainGlobals "range" = some none)
  (b4 : PySem.W.nsIn K mainGlobals "tuple" = some none)
  (b5 : PySem.W.nsIn K mainGlobals "list" = some none)
  (b6 : PySem.W.nsIn K mainGlobals "sorted" = some none)
  (b7 : PySem.W.nsIn K mainGlobals "sum" = some none)
  (b8 : PySem.W.nsIn K mainGlobals "max" = some none)
  (b9 : PySem.W.nsIn K mainGlobals "isinstance" = some none)
  (b10 : PySem.W.nsIn K mainGlobals "bool" = some none)
  (b11 : PySem.W.nsIn K mainGlobals "reversed" = some none) :
  (∀ g x w', gl g = some x → Gc g = some w' → ∃ v u, mg x = some u ∧ RelV v u ∧ ∀ H μ, RepW K H μ w' v) ∧ (∀ x, x ∈ blt → mg x = none) ∧ (∀ d, d ∈ tb → There K mg d) := by
  refine ⟨fun g x w' e1 e2 => ?_, fun x hx => ?_, fun d hd => ?_⟩
  · cases e1
  · simp only [blt, List.mem_cons, List.not_mem_nil, or_false] at hx
    rcases hx with rfl | rfl | rfl | rfl | rfl | rfl | rfl | rfl | rfl | rfl | rfl | rfl
    · exact PySem.W.mg_none_of X G b0
    · exact PySem.W.mg_none_of X G b1
    · exact PySem.W.mg_none_of X G b2
    · exact PySem.W.mg_none_of X G b3
    · exact PySem.W.mg_none_of X G b4
    · exact PySem.W.mg_none_of X G b5
    · exact PySem.W.mg_none_of X G b6
    · exact PySem.W.mg_none_of X G b7
    · exact PySem.W.mg_none_of X G b8
    · exact PySem.W.mg_none_of X G b9
    · exact PySem.W.mg_none_of X G b10
    · exact PySem.W.mg_none_of X G b11
  · simp only [tb, List.mem_cons, List.not_mem_nil, or_false] at hd
    rcases hd with rfl | rfl | rfl | rfl | rfl | rfl | rfl | rfl | rfl | rfl | rfl | rfl | rfl | rfl | rfl
    · exact there_mk (d := D_Ldraw) X G a0 l0 c0 k0 fun _ _ _ _ _ _ us hl => match us, hl with | [_], _ => rfl
    · exact there_mk (d := D_Ltake) X G a1 l1 c1 k1 fun _ _ _ _ _ _ us hl => match us, hl with | [_, _], _ => rfl
    · exact there_mk (d := D_law) X G a2 l2 c2 k2 fun _ _ _ _ _ _ us hl => match us, hl with | [_], _ => rfl
    · exact there_mk (d := D_Lread) X G a3 l3 c3 k3 fun _ _ _ _ _ _ us hl => match us, hl with | [_, _], _ => rfl
    · exact there_mk (d := D_Lturned) X G a4 l4 c4 k4 fun _ _ _ _ _ _ us hl => match us, hl with | [_, _], _ => rfl
    · exact there_mk (d := D_circuit_faults) X G a5 l5 c5 k5 fun _ _ _ _ _ _ us hl => match us, hl with | [_], _ => rfl
    · exact there_mk (d := D_wires_of) X G a6 l6 c6 k6 fun _ _ _ _ _ _ us hl => match us, hl with | [_], _ => rfl
    · exact there_mk (d := D_is_gate) X G a7 l7 c7 k7 fun _ _ _ _ _ _ us hl => match us, hl with | [_], _ => rfl
    · exact there_mk (d := D_is_number) X G a8 l8 c8 k8 fun _ _ _ _ _ _ us hl => match us, hl with | [_], _ => rfl
    · exact there_mk (d := D_less_into) X G a9 l9 c9 k9 fun _ _ _ _ _ _ us hl => match us, hl with | [_, _, _, _, _], _ => rfl
    · exact there_mk (d := D_with_controls) X G a10 l10 c10 k10 fun _ _ _ _ _ _ us hl => match us, hl with | [_, _, _], _ => rfl
    · exact there_mk (d := D_borrow_gates) X G a11 l11 c11 k11 fun _ _ _ _ _ _ us hl => match us, hl with | [_, _, _], _ => rfl
    · exact there_mk (d := D_copy_into) X G a12 l12 c12 k12 fun _ _ _ _ _ _ us hl => match us, hl with | [_, _, _], _ => rfl
    · exact there_mk (d := D_add_into) X G a13 l13 c13 k13 fun _ _ _ _ _ _ us hl => match us, hl with | [_, _, _], _ => rfl
    · exact there_mk (d := D_Lsome) X G a14 l14 c14 k14 fun _ _ _ _ _ _ us hl => match us, hl with | [_, _, _], _ => rfl
end Lw
open PySem PySem.W PyProof.Rows
set_option maxRecDepth 100000 in
set_option maxHeartbeats 0 in
theorem PySem.Challenge.cw_backrun_k42_adders_and_comparisons_holds : PySem.Challenge.rw_backrun_k42_adders_and_comparisons.Holds := by
  w_on; o_law; k_head; (case hw => w_witness2)
  k_fill
  refine MP.walk_mp (l := PySem.Challenge.rw_backrun_k42_adders_and_comparisons) (k := 60) (i := 2) (dl := Lw.D_law) (x := "_law_script") (tb := Lw.tb) (G := Lw.Gc) (gl := Lw.gl) (blt := Lw.blt) rfl rfl ⟨rfl, by decide, by decide⟩ (fun w h Y => PySem.W.kIn_of Y) rfl rfl rfl Lw.ck_all ?T ?L
  case L => exact Lw.fns_tb ▸ Lw.law_true
  case T =>
    intro w mg h KX G
    refine' Lw.all_mk KX G ?zza0 ?zzl0 ?zzc0 ?zzk0 ?zza1 ?zzl1 ?zzc1 ?zzk1 ?zza2 ?zzl2 ?zzc2 ?zzk2 ?zza3 ?zzl3 ?zzc3 ?zzk3 ?zza4 ?zzl4 ?zzc4 ?zzk4 ?zza5 ?zzl5 ?zzc5 ?zzk5 ?zza6 ?zzl6 ?zzc6 ?zzk6 ?zza7 ?zzl7 ?zzc7 ?zzk7 ?zza8 ?zzl8 ?zzc8 ?zzk8 ?zza9 ?zzl9 ?zzc9 ?zzk9 ?zza10 ?zzl10 ?zzc10 ?zzk10 ?zza11 ?zzl11 ?zzc11 ?zzk11 ?zza12 ?zzl12 ?zzc12 ?zzk12 ?zza13 ?zzl13 ?zzc13 ?zzk13 ?zza14 ?zzl14 ?zzc14 ?zzk14 ?zzb0 ?zzb1 ?zzb2 ?zzb3 ?zzb4 ?zzb5 ?zzb6 ?zzb7 ?zzb8 ?zzb9 ?zzb10 ?zzb11
    (case zza0 => k_is)
    (case zzl0 => k_is)
    (case zzc0 => k_is)
    (case zzk0 => k_is)
    (case zza1 => k_is)
    (case zzl1 => k_is)
    (case zzc1 => k_is)
    (case zzk1 => k_is)
    (case zza2 => k_is)
    (case zzl2 => k_is)
    (case zzc2 => k_is)
    (case zzk2 => k_is)
    (case zza3 => k_is)
    (case zzl3 => k_is)
    (case zzc3 => k_is)
    (case zzk3 => k_is)
    (case zza4 => k_is)
    (case zzl4 => k_is)
    (case zzc4 => k_is)
    (case zzk4 => k_is)
    (case zza5 => k_is)
    (case zzl5 => k_is)
    (case zzc5 => k_is)
    (case zzk5 => k_is)
    (case zza6 => k_is)
    (case zzl6 => k_is)
    (case zzc6 => k_is)
    (case zzk6 => k_is)
    (case zza7 => k_is)
    (case zzl7 => k_is)
    (case zzc7 => k_is)
    (case zzk7 => k_is)
    (case zza8 => k_is)
    (case zzl8 => k_is)
    (case zzc8 => k_is)
    (case zzk8 => k_is)
    (case zza9 => k_is)
    (case zzl9 => k_is)
    (case zzc9 => k_is)
    (case zzk9 => k_is)
    (case zza10 => k_is)
    (case zzl10 => k_is)
    (case zzc10 => k_is)
    (case zzk10 => k_is)
    (case zza11 => k_is)
    (case zzl11 => k_is)
    (case zzc11 => k_is)
    (case zzk11 => k_is)
    (case zza12 => k_is)
    (case zzl12 => k_is)
    (case zzc12 => k_is)
    (case zzk12 => k_is)
    (case zza13 => k_is)
    (case zzl13 => k_is)
    (case zzc13 => k_is)
    (case zzk13 => k_is)
    (case zza14 => k_is)
    (case zzl14 => k_is)
    (case zzc14 => k_is)
    (case zzk14 => k_is)
    (case zzb0 => k_is)
    (case zzb1 => k_is)
    (case zzb2 => k_is)
    (case zzb3 => k_is)
    (case zzb4 => k_is)
    (case zzb5 => k_is)
    (case zzb6 => k_is)
    (case zzb7 => k_is)
    (case zzb8 => k_is)
    (case zzb9 => k_is)
    (case zzb10 => k_is)
    (case zzb11 => k_is)
#print axioms PySem.Challenge.cw_backrun_k42_adders_and_comparisons_holds
