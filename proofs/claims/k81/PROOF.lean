import PyProof.Rows.All
import Wide.All
import OpenK.AllK
import Wide.FinOn
import HandS.ForMost
import HandS.Wide
import KE.KDictKeyed
import KE.DataEq
import KE.DataCmp
import HandS.TupAny
import HandS.TupMul
import KE.DatumIndex
import PyProof.DictRoadsH
import HandS.Dict
import HandS.ForExc
import HandS.Style
import HandS.Flow
import HandS.IsInst
import HandS.Text
import PyProof.StrHeap
import PyProof.ReprReads
import PyProof.ReprHeadsEmpty
import PyProof.FString4
import PyProof.CallFns
import HandS.Iter
import HandS.Zip
import KE.KDictWalk
import KE.GoesMore
import PyProof.EnumMake
import HandS.Comp
import HandS.SetFor
import HandS.List
import HandS.CallSlots
import HandS.Lambda
import PyProof.ExcBaseAll.ValueError
import HandS.EndTab
import PySem.Challenge.RW_looksenough_k81_whole_leaves_part_all_pa
set_option autoImplicit false
set_option linter.all false
/-! The data-level interpreter: data D, erased code E/S, wp semantics. -/
namespace Lk
open PySem
/-- how a target binds -/
inductive Tg where
  | one (i : Nat)
  | many (is : List Nat)
  deriving DecidableEq, Repr
/-- built-in functions and types that are called by name -/
inductive Bi where
  | abs | int | len | max | min | repr | lset | tuple | list | sum | all | any | str | sorted
  deriving DecidableEq, Repr
/-- methods of built-in types, in expressions -/
inductive Mi where
  | get | count | index | join | split | replace
  deriving DecidableEq, Repr
/-- a class in isinstance: a built-in one, one of the program's -/
inductive Tn where
  | b (n : String)
  | o (c : Str)
  deriving DecidableEq, Repr
/-- erased expressions; argument lists, clauses, options are of the same sort -/
inductive E where
  | cn | cb (b : Bool) | ci (i : Int) | cs (s : Str)
  | v (i : Nat)
  | g (x : Str)
  | bin (op : Operator) (a b : E)
  | neg (a : E) | not (a : E)
  | and (a b : E) | or (a b : E)
  | ife (c a b : E)
  | cmp (op : CmpOp) (a b : E)
  | isn (a : E) | nsn (a : E)
  | chn (op op' : CmpOp) (a b c : E)
  | tup (es : E) | lst (es : E) | dct (kvs : E)
  | ix (a i : E)
  | sl (a lo hi : E) | rev (a : E)
  | fld (a : E) (f : Str)
  | call (f : Str) (es : E) (ks : List Str)
  | cv (i : Nat) (es : E)
  | blt (b : Bi) (es : E)
  | isi (a : E) (ts : List Tn)
  | srt (a key : E)
  | mth (o : E) (m : Mi) (es : E)
  | lc (elt gs : E)
  | lam (ps : Nat) (body : E) (caps : List (Nat × Nat)) (n : Nat)
  /- iterables -/
  | rng (es : E) | enu (a : E) | zip (a b : E) | items (a : E) | rvd (a : E)
  /- sorts beside: argument lists; clauses (target, iterable, tests, the next ones; own: the names of this clause and the later ones) -/
  | nil | cons (a r : E)
  | gcons (own : List Nat) (t : Tg) (it conds r : E)
  deriving DecidableEq, Repr
structure Lam where
  ps : Nat
  body : E
  n : Nat
  deriving DecidableEq, Repr
inductive D where
  | non | bl (b : Bool) | int (i : Int) | str (s : Str)
  | tup (l : List D) | lst (l : List D) | dct (l : List (D × D))
  /-- a dict that never changes again -/
  | dcl (l : List (D × D))
  | obj (c : Str) (fs : List (Str × D))
  /-- an object that its __init__ fills, at p -/
  | slf (p : Nat) (c : Str) (fs : List (Str × D))
  | stt | scr (ns : List Int)
  | fn (g : Str) | cls (c : Str)
  | exc (c : Str) (fs : List (Str × D))
  | loc (l : Lam) (caps : List (Nat × Nat))
  | clo (l : Lam) (cap : List (Nat × D))
  deriving Inhabited
/-- what is known of a value's object: frozen, new, a borrowed one of a slot -/
inductive Fl where | f | n | b
  deriving DecidableEq, Repr
inductive Sv where
  | non
  | val (d : D)
  | own (d : D)
  deriving Inhabited
abbrev Rho := List Sv
abbrev K1 := Fl → D → Prop
/-- .. behind what has been done; the number: how far the state's turn is at most -/
abbrev Kt := Nat → K1
abbrev XP := Nat → D → Prop
/-- what a call does: callee, arguments (positional ones, then the keywords'), keywords -/
abbrev Cal := D → List D → List Str → Nat → Kt → XP → Prop
mutual
def D.isPy : D → Bool
  | .non => true | .bl _ => true | .int _ => true | .str _ => true
  | .tup l => isPyL l
  | .lst l => isPyL l
  | .dct l => isPyK l
  | _ => false
def isPyL : List D → Bool
  | [] => true
  | d :: r => d.isPy && isPyL r
def isPyK : List (D × D) → Bool
  | [] => true
  | (a, b) :: r => a.isPy && b.isPy && isPyK r
end
mutual
def D.py : D → PyData
  | .non => .none | .bl b => .bool b | .int i => .int i | .str s => .str s
  | .tup l => .tuple (pyL l)
  | .lst l => .list (pyL l)
  | .dct l => .dict (pyK l)
  | _ => .none
def pyL : List D → List PyData
  | [] => []
  | d :: r => d.py :: pyL r
def pyK : List (D × D) → List (PyData × PyData)
  | [] => []
  | (a, b) :: r => (a.py, b.py) :: pyK r
end
/-- data without dicts -/
def D.pure (d : D) : Bool := d.isPy && d.py.plain
/-- no reference at all -/
def D.flat : D → Bool
  | .non => true | .bl _ => true | .int _ => true | .str _ => true
  | _ => false
/-! ### keys of dicts -/
mutual
def D.nk : D → Option NestedKey
  | .non => some .none
  | .bl b => some (.num (if b = true then 1 else 0))
  | .int i => some (.num i)
  | .str s => some (.text s)
  | .tup l => (nkL l).map .tup
  | _ => none
def nkL : List D → Option (List NestedKey)
  | [] => some []
  | d :: r => match d.nk, nkL r with
    | some a, some b => some (a :: b)
    | _, _ => none
end
def D.isKey : D → Bool | .int _ => true | .str _ => true | _ => false
/-- a key that a dict may be asked by: int, text; a tuple -/
def D.isTupKey : D → Bool
  | .tup l => match nkL l with
    | some ms => decide ((NestedKey.tup ms).depth ≤ 8)
    | none => false
  | _ => false
/-- the key fits the dict's keys -/
def okAsk (l : List (D × D)) (x : D) : Bool := (x.isKey && l.all (fun p => p.1.isKey)) || (x.isTupKey && l.all (fun p => !p.1.isKey))
/-! ### operations on data -/
def addD (a b : D) (k : K1) : Prop := match a, b with
  | .int i, .int j => k .f (.int (i + j))
  | .str x, .str y => x.length + y.length ≤ sizeLine ∧ k .f (.str (x ++ y))
  | .tup x, .tup y => x.length + y.length ≤ sizeLine ∧ k .f (.tup (x ++ y))
  | .lst x, .lst y => x.length + y.length ≤ sizeLine ∧ k .n (.lst (x ++ y))
  | _, _ => False
def subD (a b : D) (k : K1) : Prop := match a, b with
  | .int i, .int j => k .f (.int (i - j))
  | _, _ => False
def mulD (a b : D) (k : K1) : Prop := match a, b with
  | .int i, .int j => L2.CMulW i j ∧ k .f (.int (i * j))
  | .tup x, .int j => x ≠ [] ∧ 2 ≤ j ∧ j ≤ 1000 ∧ x.length ≤ 1000 ∧ k .f (.tup (List.replicate j.toNat x).flatten)
  | .lst x, .int j => x.length * j.toNat ≤ sizeLine ∧ j < 2 ^ 62 ∧ -(2 ^ 62) < j ∧ k .n (.lst (List.replicate j.toNat x).flatten)
  | _, _ => False
def modD (a b : D) (k : K1) : Prop := match a, b with
  | .int i, .int j => j ≠ 0 ∧ k .f (.int (i.fmod j))
  | _, _ => False
def fdivD (a b : D) (k : K1) : Prop := match a, b with
  | .int i, .int j => L2.CDivN i j ∧ k .f (.int (i.fdiv j))
  | _, _ => False
def powD (a b : D) (k : K1) : Prop := match a, b with
  | .int i, .int j => L2.CPow i j ∧ k .f (.int (i ^ j.toNat))
  | _, _ => False
def binD (op : Operator) (a b : D) (k : K1) : Prop := match op with
  | .Add => addD a b k
  | .Sub => subD a b k
  | .Mult => mulD a b k
  | .Mod => modD a b k
  | .FloorDiv => fdivD a b k
  | .Pow => powD a b k
  | _ => False
def pureL (l : List D) : Bool := isPyL l && PyData.plainAll (pyL l)
def eqD (a b : D) (k : Bool → Prop) : Prop := a.pure = true ∧ b.pure = true ∧ min a.py.depth b.py.depth ≤ 190 ∧ k (PyData.eqv a.py b.py)
def anyEq (x : D) (l : List D) : Bool := (pyL l).any fun y => PyData.eqv y x.py
def keyAt (kvs : List (D × D)) (x : D) : Option D := (kvs.find? fun p => PyData.eqv p.1.py x.py).map (·.2)
def inD (x c : D) (k : Bool → Prop) : Prop := match c with
  | .tup l => x.pure = true ∧ pureL l = true ∧ min (PyData.depthAll (pyL l)) x.py.depth ≤ 190 ∧ k (anyEq x l)
  | .lst l => x.pure = true ∧ pureL l = true ∧ min (PyData.depthAll (pyL l)) x.py.depth ≤ 190 ∧ k (anyEq x l)
  | .str y => match x with
    | .str z => k (!(Builtin.Str.occurrences y z 0 y.length 1).isEmpty)
    | _ => False
  | .dct l => okAsk l x = true ∧ k (keyAt l x).isSome
  | .dcl l => okAsk l x = true ∧ k (keyAt l x).isSome
  | _ => False
def cmpD (op : CmpOp) (a b : D) (k : Bool → Prop) : Prop := match op with
  | .Eq => eqD a b k
  | .NotEq => eqD a b fun r => k (!r)
  | .Lt => match a, b with | .int i, .int j => k (decide (i < j)) | a, b => a.pure = true ∧ b.pure = true ∧ PySem.W.alike a.py b.py = true ∧ a.py ≠ .none ∧ min a.py.depth b.py.depth ≤ 190 ∧ k (PySem.W.dataLt a.py b.py)
  | .LtE => match a, b with | .int i, .int j => k (decide (i ≤ j)) | _, _ => False
  | .Gt => match a, b with | .int i, .int j => k (decide (j < i)) | _, _ => False
  | .GtE => match a, b with | .int i, .int j => k (decide (j ≤ i)) | _, _ => False
  | .In => inD a b k
  | .NotIn => inD a b fun r => k (!r)
  | _ => False
def trD (d : D) (k : Bool → Prop) : Prop := match d with
  | .bl b => k b
  | .non => k false
  | .int i => k (i != 0)
  | .str s => s.length ≤ sizeLine ∧ k ((s.length : Int) != 0)
  | .tup l => k !l.isEmpty
  | .lst l => k !l.isEmpty
  | _ => False
def D.isNon : D → Bool | .non => true | _ => false
/-- what is read of the state: any number that may stand there -/
def sttD (t : Nat) (x : Str) (k : D → Prop) : Prop :=
  if x = "left" then ∀ i : Int, 0 ≤ i → k (.int i)
  else if x = "turn" then ∀ i : Int, 0 ≤ i → i ≤ t → k (.int i)
  else if x = "cells" then ∀ ns : List Int, (∀ n ∈ ns, 0 ≤ n) → k (.lst (ns.map .int))
  else False
def ixD (t : Nat) (a i : D) (k : D → Prop) : Prop := match a, i with
  | .tup l, .int i => ∃ d, L2.atI l i = some d ∧ k d
  | .lst l, .int i => ∃ d, L2.atI l i = some d ∧ k d
  | .str s, .int i => s.length ≤ sizeLine ∧ ∃ c, L2.atI s.cps.toList i = some c ∧ k (.str ⟨#[c]⟩)
  | .dct l, x => okAsk l x = true ∧ ∃ d, keyAt l x = some d ∧ k d
  | .dcl l, x => okAsk l x = true ∧ ∃ d, keyAt l x = some d ∧ k d
  | .stt, .str x => sttD t x k
  | _, _ => False
def cutD (l : List D) (lo hi : Option Int) : List D := (l.drop (HT.sIx l.length 0 lo)).take (HT.sIx l.length l.length hi - HT.sIx l.length 0 lo)
def slD (a : D) (lo hi : Option Int) (k : K1) : Prop := match a with
  | .str s => s.length ≤ sizeLine ∧ k .f (.str (L2.cutS s lo hi))
  | .tup l => k .f (.tup (cutD l lo hi))
  | .lst l => k .n (.lst (cutD l lo hi))
  | _ => False
def fldD (a : D) (f : Str) (k : D → Prop) : Prop := match a with
  | .obj _ fs => ∃ d, fs.lookup f = some d ∧ k d
  | .slf _ _ fs => ∃ d, fs.lookup f = some d ∧ k d
  | _ => False
def intsOf : List D → Option (List Int)
  | [] => some []
  | .int i :: r => (intsOf r).map (i :: ·)
  | _ :: _ => none
def blsOf : List D → Option (List Bool)
  | [] => some []
  | .bl b :: r => (blsOf r).map (b :: ·)
  | _ :: _ => none
/-- as many as there are unlike ones -/
def unlike : List Int → Nat
  | [] => 0
  | i :: r => unlike r + (if i ∈ r then 0 else 1)
def seqOf : D → Option (List D)
  | .tup l => some l
  | .lst l => some l
  | _ => none
def lenD (a : D) (k : K1) : Prop := match a with
  | .tup l => k .f (.int l.length)
  | .lst l => k .f (.int l.length)
  | .str s => s.length ≤ sizeLine ∧ k .f (.int s.length)
  | .dct l => k .f (.int l.length)
  | .dcl l => k .f (.int l.length)
  | .scr ns => k .f (.int ns.length)
  | _ => False
def bltD (b : Bi) (as : List D) (k : K1) : Prop := match b, as with
  | .abs, [.int i] => k .f (.int (if i < 0 then -i else i))
  | .int, [.int i] => k .f (.int i)
  | .int, [.bl b] => k .f (.int (if b then 1 else 0))
  | .len, [a] => lenD a k
  | .max, [.int i, .int j] => k .f (.int (if j > i then j else i))
  | .min, [.int i, .int j] => k .f (.int (if j < i then j else i))
  | .max, [.lst l] => ∃ ns m, intsOf l = some ns ∧ ns.max? = some m ∧ k .f (.int m)
  | .min, [.lst l] => ∃ ns m, intsOf l = some ns ∧ ns.min? = some m ∧ k .f (.int m)
  | .sum, [.lst l] => ∃ ns, intsOf l = some ns ∧ k .f (.int ns.sum)
  | .all, [.lst l] => ∃ bs, blsOf l = some bs ∧ k .f (.bl (bs.all id))
  | .any, [.lst l] => ∃ bs, blsOf l = some bs ∧ k .f (.bl (bs.any id))
  | .repr, [a] => a.pure = true ∧ a.py.showable = true ∧ a.py.depth ≤ 190 ∧ a.py.shown.length + 64 ≤ sizeLine ∧ k .f (.str a.py.shown)
  | .lset, [a] => ∃ l ns, seqOf a = some l ∧ intsOf l = some ns ∧ ns.length ≤ 4000 ∧ k .f (.int (unlike ns))
  | .tuple, [.lst l] => k .f (.tup l)
  | .tuple, [.tup l] => k .f (.tup l)
  | .list, [.lst l] => k .n (.lst l)
  | .list, [.tup l] => k .n (.lst l)
  | .str, [.int i] => i.natAbs.log2 < 1920 ∧ k .f (.str (toString i))
  | _, _ => False
def mthD (o : D) (m : Mi) (as : List D) (k : K1) : Prop := match o, m, as with
  | .dct l, .get, [x, y] => okAsk l x = true ∧ k .f ((keyAt l x).getD y)
  | .dcl l, .get, [x, y] => okAsk l x = true ∧ k .f ((keyAt l x).getD y)
  | _, _, _ => False
/-- the kind of thing that has the method -/
def mthOk (o : D) (m : Mi) : Bool := match o, m with
  | .dct _, .get => true
  | .dcl _, .get => true
  | .lst _, .count => true
  | .lst _, .index => true
  | .tup _, .count => true
  | .tup _, .index => true
  | .str _, .join => true
  | .str _, .split => true
  | .str _, .replace => true
  | _, _ => false
/-- isinstance -/
def isTn (d : D) (t : Tn) : Option Bool := match t with
  | .b n => match d with
    | .int _ => some (n == "int")
    | .bl _ => some (n == "int" || n == "bool")
    | .str _ => some (n == "str")
    | .non => some false
    | .tup _ => some (n == "tuple")
    | .lst _ => some (n == "list")
    | .dct _ => some (n == "dict")
    | .dcl _ => some (n == "dict")
    | .obj _ _ => some false
    | _ => none
  | .o c => match d with
    | .obj c' _ => some (c == c')
    | .int _ | .bl _ | .str _ | .non | .tup _ | .lst _ | .dct _ | .dcl _ => some false
    | _ => none
/-! ### evaluation -/
def wipeR : List Nat → Rho → Rho
  | [], ρ => ρ
  | i :: r, ρ => (wipeR r ρ).set i .non
def bindMany : List Nat → List D → Rho → Option Rho
  | [], [], ρ => some ρ
  | i :: is, d :: ds, ρ => bindMany is ds (ρ.set i (.val d))
  | _, _, _ => none
def bindT (t : Tg) (d : D) (ρ : Rho) : Option Rho := match t with
  | .one i => some (ρ.set i (.val d))
  | .many is => match d with
    | .tup l => bindMany is l ρ
    | _ => none
def bindK (t : Tg) (d : D) (ρ : Rho) (k : Rho → Prop) : Prop := match bindT t d ρ with
  | some ρ' => k ρ'
  | none => False
def lcGo (step : D → List D → Nat → (Nat → List D → Prop) → Prop) : List D → List D → Nat → (Nat → List D → Prop) → Prop
  | [], acc, t, k => k t acc
  | d :: r, acc, t, k => step d acc t fun t' acc' => lcGo step r acc' t' k
def getV (ρ : Rho) (i : Nat) (k : K1) : Prop := match ρ[i]? with
  | some (.val d) => k .f d
  | some (.own d) => k .b d
  | _ => False
def valD (g : Str → Option D) (x : Str) (k : K1) : Prop := match g x with
  | some d => k .f d
  | none => False
/-- what is iterated -/
def iterD (d : D) (k : List D → Prop) : Prop := match d with
  | .tup l => k l
  | .lst l => k l
  | .dcl l => k (l.map (·.1))
  | .scr ns => k (ns.map .int)
  | .str s => k (s.cps.toList.map fun c => .str ⟨#[c]⟩)
  | _ => False
def rangeL (lo hi : Int) : List D := (List.range (hi - lo).toNat).map fun (i : Nat) => .int (lo + i)
def enumL (l : List D) : List D := l.zipIdx.map fun p => .tup [.int (p.2 : Nat), p.1]
def zipL (a b : List D) : List D := List.zipWith (fun x y => .tup [x, y]) a b
/-- two lists, or two tuples -/
def zipD (a b : D) (k : List D → Prop) : Prop := match a, b with
  | .lst l, .lst r => k (zipL l r)
  | .tup l, .tup r => k (zipL l r)
  | _, _ => False
def rngD (as : List D) (k : List D → Prop) : Prop := match as with
  | [.int j] => -(2 ^ 62) ≤ j ∧ j < 2 ^ 62 ∧ k (rangeL 0 j)
  | [.int i, .int j] => (-(2 ^ 62) ≤ i ∧ i < 2 ^ 62 ∧ -(2 ^ 62) ≤ j ∧ j < 2 ^ 62) ∧ k (rangeL i j)
  | _ => False
def optI (d : Option D) (k : Option Int → Prop) : Prop := match d with
  | none => k none
  | some (.int i) => k (some i)
  | _ => False
def putK (l : List (D × D)) (x y : D) : List (D × D) :=
  if (l.any fun p => PyData.eqv p.1.py x.py) = true then l.map fun p => if PyData.eqv p.1.py x.py = true then (p.1, y) else p else l ++ [(x, y)]
/-- a display's dict -/
def mergeD (ps : List (D × D)) : List (D × D) := ps.foldl (fun acc p => putK acc p.1 p.2) []
def pairUp : List D → Option (List (D × D))
  | [] => some []
  | a :: b :: r => (pairUp r).map ((a, b) :: ·)
  | _ => none
abbrev noB (as : List (Fl × D)) : Prop := ∀ p ∈ as, p.1 ≠ .b
abbrev Argk := Nat → List (Fl × D) → Prop
/-- no exception -/
abbrev noX : XP := fun _ _ => False
variable (g : Str → Option D) (Φ : Cal)
mutual
def ev (x : XP) : E → Rho → Nat → Kt → Prop
  | .cn, _, t, k => k t .f .non
  | .cb b, _, t, k => k t .f (.bl b)
  | .ci i, _, t, k => k t .f (.int i)
  | .cs s, _, t, k => k t .f (.str s)
  | .v i, ρ, t, k => getV ρ i (k t)
  | .g y, _, t, k => valD g y (k t)
  | .bin op a b, ρ, t, k => ev x a ρ t fun t1 f1 d1 => f1 ≠ .b ∧ ev x b ρ t1 fun t2 f2 d2 => f2 ≠ .b ∧ binD op d1 d2 (k t2)
  | .neg a, ρ, t, k => ev x a ρ t fun t1 _ d => match d with | .int i => k t1 .f (.int (-i)) | _ => False
  | .not a, ρ, t, k => ev x a ρ t fun t1 _ d => trD d fun b => k t1 .f (.bl !b)
  | .and a b, ρ, t, k => ev x a ρ t fun t1 _ d => match d with | .bl c => (if c = true then ev x b ρ t1 k else k t1 .f (.bl false)) | _ => False
  | .or a b, ρ, t, k => ev x a ρ t fun t1 _ d => match d with | .bl c => (if c = true then k t1 .f (.bl true) else ev x b ρ t1 k) | _ => False
  | .ife c a b, ρ, t, k => ev x c ρ t fun t1 _ d => trD d fun q => if q = true then ev x a ρ t1 k else ev x b ρ t1 k
  | .cmp op a b, ρ, t, k => ev x a ρ t fun t1 _ d1 => ev x b ρ t1 fun t2 _ d2 => cmpD op d1 d2 fun r => k t2 .f (.bl r)
  | .isn a, ρ, t, k => ev x a ρ t fun t1 _ d => k t1 .f (.bl d.isNon)
  | .nsn a, ρ, t, k => ev x a ρ t fun t1 _ d => k t1 .f (.bl !d.isNon)
  | .chn op op' a b c, ρ, t, k => ev x a ρ t fun t1 f1 d1 => f1 ≠ .b ∧ ev x b ρ t1 fun t2 f2 d2 => f2 ≠ .b ∧ cmpD op d1 d2 fun r => if r = true then ev x c ρ t2 (fun t3 _ d3 => cmpD op' d2 d3 fun r' => k t3 .f (.bl r')) else k t2 .f (.bl false)
  | .tup es, ρ, t, k => evs x es ρ t fun t1 as => noB as ∧ as.length ≤ sizeLine ∧ k t1 .f (.tup (as.map (·.2)))
  | .lst es, ρ, t, k => evs x es ρ t fun t1 as => noB as ∧ as.length ≤ sizeLine ∧ k t1 .n (.lst (as.map (·.2)))
  | .dct es, ρ, t, k => evs x es ρ t fun t1 as => noB as ∧ ∃ ps, pairUp (as.map (·.2)) = some ps ∧ ps.all (fun p => p.1.isKey) = true ∧ ps.length ≤ 15 ∧ k t1 .n (.dct (mergeD ps))
  | .ix a i, ρ, t, k => ev x a ρ t fun t1 _ d1 => ev x i ρ t1 fun t2 f2 d2 => f2 ≠ .b ∧ ixD t2 d1 d2 (k t2 .f)
  | .sl a lo hi, ρ, t, k => ev x a ρ t fun t1 _ d => evo x lo ρ t1 fun t2 l => optI l fun l' => evo x hi ρ t2 fun t3 h => optI h fun h' => slD d l' h' (k t3)
  | .rev a, ρ, t, k => ev x a ρ t fun t1 _ d => match d with | .lst l => k t1 .n (.lst l.reverse) | _ => False
  | .fld a f, ρ, t, k => ev x a ρ t fun t1 _ d => fldD d f (k t1 .f)
  | .call f es ks, ρ, t, k => evs x es ρ t fun t1 as => Φ (.fn f) (as.map (·.2)) ks t1 (fun t2 fl d => ((∃ p ∈ as, p.1 = .b) → d.flat = true) ∧ k t2 fl d) x
  | .cv i es, ρ, t, k => getV ρ i fun _ c => evs x es ρ t fun t1 as => Φ c (as.map (·.2)) [] t1 (fun t2 fl d => ((∃ p ∈ as, p.1 = .b) → d.flat = true) ∧ k t2 fl d) x
  | .blt b es, ρ, t, k => evs x es ρ t fun t1 as => bltD b (as.map (·.2)) (k t1)
  | .isi a ts, ρ, t, k => ev x a ρ t fun t1 _ d => ∃ b, (ts.map (isTn d)).foldr (fun o r => match o, r with | some a, some b => some (a || b) | _, _ => none) (some false) = some b ∧ k t1 .f (.bl b)
  | .srt _ _, _, _, _ => False
  | .mth o m es, ρ, t, k => ev x o ρ t fun t1 _ d => mthOk d m = true ∧ evs x es ρ t1 fun t2 as => noB as ∧ mthD d m (as.map (·.2)) (k t2)
  | .lc elt gs, ρ, t, k => evg x gs (fun ρ' => ev noX elt ρ') ρ [] t fun t1 acc => k t1 .n (.lst acc)
  | .lam ps body caps n, _, t, k => k t .f (.loc ⟨ps, body, n⟩ caps)
  | _, _, _, _ => False
def evs (x : XP) : E → Rho → Nat → Argk → Prop
  | .nil, _, t, k => k t []
  | .cons a r, ρ, t, k => ev x a ρ t fun t1 f d => evs x r ρ t1 fun t2 as => k t2 ((f, d) :: as)
  | _, _, _, _ => False
def evo (x : XP) : E → Rho → Nat → (Nat → Option D → Prop) → Prop
  | .nil, _, t, k => k t none
  | .cons a _, ρ, t, k => ev x a ρ t fun t1 _ d => k t1 (some d)
  | _, _, _, _ => False
def evi (x : XP) : E → Rho → Nat → (Nat → List D → Prop) → Prop
  | .rng es, ρ, t, k => evs x es ρ t fun t1 as => noB as ∧ rngD (as.map (·.2)) (k t1)
  | .enu a, ρ, t, k => ev x a ρ t fun t1 f d => f ≠ .b ∧ ∃ l, seqOf d = some l ∧ k t1 (enumL l)
  | .zip a b, ρ, t, k => ev x a ρ t fun t1 f1 d1 => f1 ≠ .b ∧ ev x b ρ t1 fun t2 f2 d2 => f2 ≠ .b ∧ zipD d1 d2 (k t2)
  | .cons a _, ρ, t, k => ev x a ρ t fun t1 f d => f ≠ .b ∧ iterD d (k t1)
  | _, _, _, _ => False
def evc (x : XP) : E → Rho → Nat → (Nat → Bool → Prop) → Prop
  | .nil, _, t, k => k t true
  | .cons a r, ρ, t, k => ev x a ρ t fun t1 _ d => trD d fun b => if b = true then evc x r ρ t1 k else k t1 false
  | _, _, _, _ => False
def evg (x : XP) : E → (Rho → Nat → Kt → Prop) → Rho → List D → Nat → (Nat → List D → Prop) → Prop
  | .nil, te, ρ, acc, t, k => te ρ t fun t1 f d => f ≠ .b ∧ acc.length < sizeLine ∧ k t1 (acc ++ [d])
  | .gcons own tg it conds r, te, ρ, acc, t, k => evi x it ρ t fun t1 items => lcGo (fun d acc' t2 k' => bindK tg d (wipeR own ρ) fun ρ' => evc noX conds ρ' t2 fun t3 b => if b = true then evg noX r te ρ' acc' t3 k' else k' t3 acc') items acc t1 k
  | _, _, _, _, _, _ => False
end
end Lk
set_option autoImplicit false
set_option linter.all false
namespace Lk
open PySem
inductive S where
  | skip
  | seq (a b : S)
  | ex (e : E)
  | set (i : Nat) (e : E)
  | own (i : Nat) (e : E)
  | unp (is : List Nat) (e : E)
  /-- a, b = x, y: stored from the right; with true the name owns what is new -/
  | par (ts : List (Nat × Bool)) (es : E)
  | sset (i : Nat) (key e : E)
  | app (i : Nat) (e : E)
  | ext (i : Nat) (e : E)
  | pop (j i : Nat)
  | frz (i : Nat)
  /-- a dict that is walked: it never changes again -/
  | lck (i : Nat)
  | aug (i : Nat) (e : E)
  /-- state['left'] = .., state['turn'] = .. -/
  | sts (i : Nat) (key : Str) (e : E)
  /-- state['left'] = state['great'].pop(0) if state['great'] != [] else .. -/
  | stp (i : Nat) (e : E)
  /-- an attribute of an object of one's own -/
  | fset (i : Nat) (f : Str) (e : E)
  | ife (c : E) (a b : S)
  | whl (c : E) (b : S)
  | for (t : Tg) (it : E) (b : S)
  | ret (e : E) | rtv (i : Nat) | ret0
  /-- raise C(..); with a field that takes the argument -/
  | rse (C : Str) (f : Option Str) (es : E)
  | brk | cnt
  deriving DecidableEq, Repr
structure En where
  nx : Nat → Rho → Prop
  rt : Kt
  bk : Nat → Rho → Prop
  ct : Nat → Rho → Prop
def forL (body : Rho → Nat → En → Prop) (tg : Tg) : List D → Rho → Nat → En → Prop
  | [], ρ, t, e => e.nx t ρ
  | d :: r, ρ, t, e => bindK tg d ρ fun ρ' => body ρ' t { e with nx := fun t2 ρ2 => forL body tg r ρ2 t2 e, ct := fun t2 ρ2 => forL body tg r ρ2 t2 e, bk := e.nx }
def whlN (c : Rho → Nat → (Nat → Bool → Prop) → Prop) (body : Rho → Nat → En → Prop) : Nat → Rho → Nat → En → Prop
  | 0, _, _, _ => False
  | n + 1, ρ, t, e => c ρ t fun t1 b => if b = true then body ρ t1 { e with nx := fun t2 ρ2 => whlN c body n ρ2 t2 e, ct := fun t2 ρ2 => whlN c body n ρ2 t2 e, bk := e.nx } else e.nx t1 ρ
def getO (ρ : Rho) (i : Nat) (k : D → Prop) : Prop := match ρ[i]? with
  | some (.own d) => k d
  | _ => False
def appD (d x : D) (k : D → Prop) : Prop := match d with
  | .lst l => l.length < sizeLine ∧ k (.lst (l ++ [x]))
  | _ => False
def extD (d x : D) (k : D → Prop) : Prop := match d, x with
  | .lst l, .lst r => l.length + r.length ≤ sizeLine ∧ k (.lst (l ++ r))
  | .lst l, .tup r => l.length + r.length ≤ sizeLine ∧ k (.lst (l ++ r))
  | _, _ => False
def popD (d : D) (k : D → D → Prop) : Prop := match d with
  | .lst l => ∃ x, l.getLast? = some x ∧ k x (.lst l.dropLast)
  | _ => False
def ssetD (d x y : D) (k : D → Prop) : Prop := match d with
  | .dct l => okAsk l x = true ∧ l.length < sizeLine ∧ k (.dct (putK l x y))
  | .lst l => match x with
    | .int i => ∃ j, L2.ixN l.length i = some j ∧ k (.lst (l.set j y))
    | _ => False
  | _ => False
def isLst : D → Bool | .lst _ => true | _ => false
def isNewD : D → Bool | .lst _ => true | .dct _ => true | _ => false
def bindN : List (Nat × Bool) → List (Fl × D) → Rho → Option Rho
  | [], [], ρ => some ρ
  | (i, o) :: ts, (f, d) :: as, ρ => match o, f with
    | false, .b => none
    | false, _ => bindN ts as (ρ.set i (.val d))
    | true, .n => if isNewD d = true then bindN ts as (ρ.set i (.own d)) else none
    | true, _ => none
  | _, _, _ => none
def augD (a b : D) (k : D → Prop) : Prop := match a, b with
  | .int i, .int j => k (.int (i + j))
  | _, _ => False
def putFD (f : Str) (d : D) : List (Str × D) → List (Str × D)
  | [] => [(f, d)]
  | (g, x) :: r => if g = f then (g, d) :: r else (g, x) :: putFD f d r
def fsetD (o : D) (f : Str) (d : D) (k : D → Prop) : Prop := match o with
  | .slf p c ds => ds.length < 1000 ∧ k (.slf p c (putFD f d ds))
  | _ => False
/-- a number is stored to the state -/
def stsD (key : Str) (s d : D) (t : Nat) (k : Nat → Prop) : Prop := match s, d with
  | .stt, .int n => 0 ≤ n ∧ k (if key = "turn" then n.toNat else t)
  | _, _ => False
def isStt : D → Bool | .stt => true | _ => false
def rtvD (ρ : Rho) (i : Nat) (k : K1) : Prop := match ρ[i]? with
  | some (.val d) => k .f d
  | some (.own d) => k .n d
  | _ => False
def lckD (ρ : Rho) (i : Nat) (k : Rho → Prop) : Prop := match ρ[i]? with
  | some (.own (.dct l)) => k (ρ.set i (.val (.dcl l)))
  | _ => k ρ
def frzD (ρ : Rho) (i : Nat) (k : Rho → Prop) : Prop := match ρ[i]? with
  | some (.own d) => k (ρ.set i (.val d))
  | _ => k ρ
def excD (C : Str) (f : Option Str) (as : List D) (k : D → Prop) : Prop := match f, as with
  | none, _ => k (.exc C [])
  | some f, [d] => k (.exc C [(f, d)])
  | _, _ => False
section
variable (g : Str → Option D) (Φ : Cal) (x : XP)
def exs : S → Rho → Nat → En → Prop
  | .skip, ρ, t, e => e.nx t ρ
  | .seq a b, ρ, t, e => exs a ρ t { e with nx := fun t' ρ' => exs b ρ' t' e }
  | .ex a, ρ, t, e => ev g Φ x a ρ t fun t1 _ _ => e.nx t1 ρ
  | .set i a, ρ, t, e => ev g Φ x a ρ t fun t1 f d => f ≠ .b ∧ e.nx t1 (ρ.set i (.val d))
  | .own i a, ρ, t, e => ev g Φ x a ρ t fun t1 f d => f = .n ∧ isNewD d = true ∧ e.nx t1 (ρ.set i (.own d))
  | .unp is a, ρ, t, e => ev g Φ x a ρ t fun t1 f d => f ≠ .b ∧ bindK (.many is) d ρ (e.nx t1)
  | .par ts es, ρ, t, e => evs g Φ x es ρ t fun t1 as => match bindN ts as ρ with | some ρ' => e.nx t1 ρ' | none => False
  | .sset i key a, ρ, t, e => ev g Φ x a ρ t fun t1 f1 d1 => f1 ≠ .b ∧ getO ρ i fun o => ev g Φ x key ρ t1 fun t2 f2 d2 => f2 ≠ .b ∧ ssetD o d2 d1 fun o' => e.nx t2 (ρ.set i (.own o'))
  | .app i a, ρ, t, e => getO ρ i fun o => isLst o = true ∧ ev g Φ x a ρ t fun t1 f d => f ≠ .b ∧ appD o d fun o' => e.nx t1 (ρ.set i (.own o'))
  | .ext i a, ρ, t, e => getO ρ i fun o => isLst o = true ∧ ev g Φ x a ρ t fun t1 f d => f ≠ .b ∧ extD o d fun o' => e.nx t1 (ρ.set i (.own o'))
  | .pop j i, ρ, t, e => getO ρ i fun o => popD o fun d o' => i ≠ j ∧ e.nx t ((ρ.set i (.own o')).set j (.val d))
  | .frz i, ρ, t, e => frzD ρ i (e.nx t)
  | .lck i, ρ, t, e => lckD ρ i (e.nx t)
  | .aug i a, ρ, t, e => getV ρ i fun f1 d1 => f1 ≠ .b ∧ ev g Φ x a ρ t fun t1 f2 d2 => f2 ≠ .b ∧ augD d1 d2 fun d => e.nx t1 (ρ.set i (.val d))
  | .sts i key a, ρ, t, e => ev g Φ x a ρ t fun t1 f d => f ≠ .b ∧ (key = "left" ∨ key = "turn") ∧ getV ρ i fun _ s => stsD key s d t1 fun t2 => e.nx t2 ρ
  | .stp i a, ρ, t, e => getV ρ i fun _ s => isStt s = true ∧ e.nx t ρ ∧ ev g Φ x a ρ t fun t1 f d => f ≠ .b ∧ stsD "left" .stt d t1 fun t2 => e.nx t2 ρ
  | .fset i f a, ρ, t, e => ev g Φ x a ρ t fun t1 fl d => fl ≠ .b ∧ getO ρ i fun o => fsetD o f d fun o' => e.nx t1 (ρ.set i (.own o'))
  | .ife c a b, ρ, t, e => ev g Φ x c ρ t fun t1 _ d => trD d fun q => if q = true then exs a ρ t1 e else exs b ρ t1 e
  | .whl c b, ρ, t, e => ∃ n, whlN (fun ρ t k => ev g Φ x c ρ t fun t1 _ d => trD d (k t1)) (fun ρ t e => exs b ρ t e) n ρ t e
  | .for tg it b, ρ, t, e => evi g Φ x it ρ t fun t1 items => forL (fun ρ t e => exs b ρ t e) tg items ρ t1 e
  | .ret a, ρ, t, e => ev g Φ x a ρ t fun t1 f d => f ≠ .b ∧ e.rt t1 f d
  | .rtv i, ρ, t, e => rtvD ρ i (e.rt t)
  | .ret0, _, t, e => e.rt t .f .non
  | .rse C f es, ρ, t, e => evs g Φ x es ρ t fun t1 as => noB as ∧ excD C f (as.map (·.2)) (x t1)
  | .brk, ρ, t, e => e.bk t ρ
  | .cnt, ρ, t, e => e.ct t ρ
end
/-- a def of the program; isI: a class, by its __init__ (self is the slot 0, ps the other parameters) -/
structure Fd where
  ps : List Str
  n : Nat
  body : S
  isI : Bool := false
/-- the arguments in the parameters' order; keywords: all of them -/
def bindA {α : Type} (ps : List Str) (as : List α) (ks : List Str) : Option (List α) :=
  if ks = [] then (if as.length = ps.length then some as else none)
  else if as.length = ks.length ∧ ks.length = ps.length then ps.mapM fun p => (ks.zip as).lookup p
  else none
structure Pg where
  fns : Str → Option Fd
  val : Str → Option D
  /-- the calls by keywords -/
  kws : List (Str × List Str)
/-- a function's parameters -/
def Pg.sig (P : Pg) (f : Str) : Option (List Str) :=
  match P.fns f with
    | some fd => if fd.isI = true then none else some fd.ps
    | none => none
def startR (n : Nat) (as : List Sv) : Rho := as ++ List.replicate (n - as.length) .non
/-- the end of a def, of an __init__ -/
def endF (k : Kt) : En := ⟨fun t _ => k t .f .non, k, fun _ _ => False, fun _ _ => False⟩
def selfD (p : Nat) (d : D) (k : K1) : Prop := match d with
  | .slf q c fs => q = p ∧ k .n (.obj c fs)
  | _ => False
def endI (p : Nat) (k : Kt) : En := ⟨fun t ρ => getO ρ 0 fun d => selfD p d (k t), fun _ _ _ => False, fun _ _ => False, fun _ _ => False⟩
def runI (P : Pg) (Φ : Cal) (f : Str) (fd : Fd) (bs : List D) (t : Nat) (k : Kt) (x : XP) : Prop := ∀ p, exs P.val Φ x fd.body (startR fd.n (.own (.slf p f []) :: bs.map .val)) t (endI p k)
def runF (P : Pg) (Φ : Cal) (fd : Fd) (bs : List D) (t : Nat) (k : Kt) (x : XP) : Prop := exs P.val Φ x fd.body (startR fd.n (bs.map .val)) t (endF k)
/-- a call n deep; a class's asks for one more -/
def callN (P : Pg) : Nat → Cal
  | 0, _, _, _, _, _, _ => False
  | n + 1, c, as, ks, t, k, x => match c with
    | .fn f =>
      match P.fns f with
      | some fd => match bindA fd.ps as ks with
        | some bs => if fd.isI = true then (match n with | 0 => False | m + 1 => runI P (callN P m) f fd bs t k x) else runF P (callN P n) fd bs t k x
        | none => False
      | none => False
    | _ => False
end Lk
set_option autoImplicit false
set_option linter.all false
namespace Lk
open PySem
abbrev Le1 (k k' : K1) : Prop := ∀ f d, k f d → k' f d
abbrev LeT (k k' : Kt) : Prop := ∀ t, Le1 (k t) (k' t)
def CalMono (Φ : Cal) : Prop := ∀ c as ks t (k k' : Kt) (x : XP), LeT k k' → Φ c as ks t k x → Φ c as ks t k' x
section
variable {k k' : K1} {kb kb' : Bool → Prop} {kd kd' : D → Prop} {kl kl' : List D → Prop} {a b : D}
theorem addD_mono (m : Le1 k k') (h : addD a b k) : addD a b k' := by
  unfold addD at h
  split at h
  · exact m _ _ h
  · exact ⟨h.1, m _ _ h.2⟩
  · exact ⟨h.1, m _ _ h.2⟩
  · exact ⟨h.1, m _ _ h.2⟩
  · exact h.elim
theorem subD_mono (m : Le1 k k') (h : subD a b k) : subD a b k' := by
  unfold subD at h
  split at h
  · exact m _ _ h
  · exact h.elim
theorem mulD_mono (m : Le1 k k') (h : mulD a b k) : mulD a b k' := by
  unfold mulD at h
  split at h
  · exact ⟨h.1, m _ _ h.2⟩
  · obtain ⟨h1, h2, h3, h4, h⟩ := h; exact ⟨h1, h2, h3, h4, m _ _ h⟩
  · obtain ⟨h1, h2, h3, h⟩ := h; exact ⟨h1, h2, h3, m _ _ h⟩
  · exact h.elim
theorem binD_mono {op : Operator} (m : Le1 k k') (h : binD op a b k) : binD op a b k' := by
  cases op <;> first | exact h.elim | skip
  · exact addD_mono m h
  · exact subD_mono m h
  · exact mulD_mono m h
  · unfold binD modD at h; simp only at h; split at h
    · exact ⟨h.1, m _ _ h.2⟩
    · exact h.elim
  · unfold binD powD at h; simp only at h; split at h
    · exact ⟨h.1, m _ _ h.2⟩
    · exact h.elim
  · unfold binD fdivD at h; simp only at h; split at h
    · exact ⟨h.1, m _ _ h.2⟩
    · exact h.elim
theorem eqD_mono (m : ∀ r, kb r → kb' r) (h : eqD a b kb) : eqD a b kb' := ⟨h.1, h.2.1, h.2.2.1, m _ h.2.2.2⟩
theorem inD_mono (m : ∀ r, kb r → kb' r) (h : inD a b kb) : inD a b kb' := by
  cases b <;> first | exact h.elim | skip
  · cases a <;> first | exact h.elim | exact m _ h
  · exact ⟨h.1, h.2.1, h.2.2.1, m _ h.2.2.2⟩
  · exact ⟨h.1, h.2.1, h.2.2.1, m _ h.2.2.2⟩
  · exact ⟨h.1, m _ h.2⟩
  · exact ⟨h.1, m _ h.2⟩
theorem cmpD_mono {op : CmpOp} (m : ∀ r, kb r → kb' r) (h : cmpD op a b kb) : cmpD op a b kb' := by
  cases op <;> first | exact h.elim | skip
  · exact eqD_mono m h
  · exact eqD_mono (fun r => m _) h
  · unfold cmpD at h; simp only at h; split at h
    · exact m _ h
    · obtain ⟨h1, h2, h3, h4, h5, h⟩ := h
      unfold cmpD
      simp only
      exact ⟨h1, h2, h3, h4, h5, m _ h⟩
  · unfold cmpD at h; simp only at h; split at h
    · exact m _ h
    · exact h.elim
  · unfold cmpD at h; simp only at h; split at h
    · exact m _ h
    · exact h.elim
  · unfold cmpD at h; simp only at h; split at h
    · exact m _ h
    · exact h.elim
  · exact inD_mono m h
  · exact inD_mono (fun r => m _) h
theorem trD_mono (m : ∀ r, kb r → kb' r) (h : trD a kb) : trD a kb' := by
  cases a <;> first | exact h.elim | exact m _ h | exact ⟨h.1, m _ h.2⟩
theorem sttD_mono {t : Nat} {x : Str} (m : ∀ r, kd r → kd' r) (h : sttD t x kd) : sttD t x kd' := by
  unfold sttD at *
  split at h
  · rename_i h1
    rw [if_pos h1]
    exact fun i hi => m _ (h i hi)
  · split at h
    · rename_i h1 h2
      rw [if_neg h1, if_pos h2]
      exact fun i hi ht => m _ (h i hi ht)
    · split at h
      · rename_i h1 h2 h3
        rw [if_neg h1, if_neg h2, if_pos h3]
        exact fun ns hn => m _ (h ns hn)
      · exact h.elim
theorem ixD_mono {t : Nat} (m : ∀ r, kd r → kd' r) (h : ixD t a b kd) : ixD t a b kd' := by
  unfold ixD at h
  split at h
  all_goals first
    | exact h.elim
    | exact sttD_mono m h
    | (obtain ⟨d, e, h⟩ := h; exact ⟨d, e, m _ h⟩)
    | (obtain ⟨z, d, e, h⟩ := h; exact ⟨z, d, e, m _ h⟩)
theorem slD_mono {lo hi : Option Int} (m : Le1 k k') (h : slD a lo hi k) : slD a lo hi k' := by
  cases a <;> first | exact h.elim | exact m _ _ h | exact ⟨h.1, m _ _ h.2⟩
theorem fldD_mono {f : Str} (m : ∀ r, kd r → kd' r) (h : fldD a f kd) : fldD a f kd' := by
  cases a <;> first | exact h.elim | (obtain ⟨d, e, h⟩ := h; exact ⟨d, e, m _ h⟩)
theorem lenD_mono (m : Le1 k k') (h : lenD a k) : lenD a k' := by
  cases a <;> first | exact h.elim | exact m _ _ h | exact ⟨h.1, m _ _ h.2⟩
theorem bltD_mono {f : Bi} {as : List D} (m : Le1 k k') (h : bltD f as k) : bltD f as k' := by
  unfold bltD at h
  split at h
  all_goals first
    | exact m _ _ h
    | exact h.elim
    | exact lenD_mono m h
    | exact ⟨h.1, m _ _ h.2⟩
    | (obtain ⟨h1, h2, h3, h4, h⟩ := h; exact ⟨h1, h2, h3, h4, m _ _ h⟩)
    | (obtain ⟨h1, h2, h3, h4, h⟩ := h; exact ⟨h1, h2, h3, h4, m _ _ h⟩)
    | (obtain ⟨h1, h2, h3, h4, h5, h⟩ := h; exact ⟨h1, h2, h3, h4, h5, m _ _ h⟩)
    | (obtain ⟨h1, h2, h⟩ := h; exact ⟨h1, h2, m _ _ h⟩)
theorem mthD_mono {f : Mi} {as : List D} (m : Le1 k k') (h : mthD a f as k) : mthD a f as k' := by
  unfold mthD at h
  split at h
  all_goals first | exact h.elim | exact ⟨h.1, m _ _ h.2⟩
theorem getV_mono {ρ : Rho} {i : Nat} (m : Le1 k k') (h : getV ρ i k) : getV ρ i k' := by
  unfold getV at *
  split at h
  · exact m _ _ h
  · exact m _ _ h
  · exact h.elim
theorem valD_mono {g : Str → Option D} {y : Str} (m : Le1 k k') (h : valD g y k) : valD g y k' := by
  unfold valD at *
  split at h
  · exact m _ _ h
  · exact h.elim
theorem iterD_mono (m : ∀ r, kl r → kl' r) (h : iterD a kl) : iterD a kl' := by
  cases a <;> first | exact h.elim | exact m _ h
theorem zipD_mono (m : ∀ r, kl r → kl' r) (h : zipD a b kl) : zipD a b kl' := by
  unfold zipD at h
  split at h
  · exact m _ h
  · exact m _ h
  · exact h.elim
theorem rngD_mono {as : List D} (m : ∀ r, kl r → kl' r) (h : rngD as kl) : rngD as kl' := by
  unfold rngD at h
  split at h
  · obtain ⟨h1, h2, h⟩ := h; exact ⟨h1, h2, m _ h⟩
  · obtain ⟨h1, h⟩ := h; exact ⟨h1, m _ h⟩
  · exact h.elim
theorem optI_mono {d : Option D} {ko ko' : Option Int → Prop} (m : ∀ r, ko r → ko' r) (h : optI d ko) : optI d ko' := by
  unfold optI at h
  split at h
  · exact m _ h
  · exact m _ h
  · exact h.elim
theorem bindK_mono {t : Tg} {ρ : Rho} {kr kr' : Rho → Prop} (m : ∀ r, kr r → kr' r) (h : bindK t a ρ kr) : bindK t a ρ kr' := by
  unfold bindK at *
  split at h
  · exact m _ h
  · exact h.elim
theorem lcGo_mono {s s' : D → List D → Nat → (Nat → List D → Prop) → Prop} (ms : ∀ d acc t (k k' : Nat → List D → Prop), (∀ t l, k t l → k' t l) → s d acc t k → s' d acc t k') : ∀ (l acc : List D) (t : Nat) {k k' : Nat → List D → Prop}, (∀ t l, k t l → k' t l) → lcGo s l acc t k → lcGo s' l acc t k'
  | [], acc, t, k, k', m, h => m _ _ h
  | d :: r, acc, t, k, k', m, h => ms d acc t _ _ (fun t' acc' h' => lcGo_mono ms r acc' t' m h') h
end
section
variable {g : Str → Option D} {Φ : Cal} (hΦ : CalMono Φ)
include hΦ
mutual
theorem ev_mono {x : XP} : ∀ (e : E) (ρ : Rho) {t : Nat} {k k' : Kt}, LeT k k' → ev g Φ x e ρ t k → ev g Φ x e ρ t k'
  | .cn, ρ, t, k, k', m, h => by simp only [ev] at h ⊢; exact m _ _ _ h
  | .cb b, ρ, t, k, k', m, h => by simp only [ev] at h ⊢; exact m _ _ _ h
  | .ci i, ρ, t, k, k', m, h => by simp only [ev] at h ⊢; exact m _ _ _ h
  | .cs s, ρ, t, k, k', m, h => by simp only [ev] at h ⊢; exact m _ _ _ h
  | .v i, ρ, t, k, k', m, h => by simp only [ev] at h ⊢; exact getV_mono (m _) h
  | .g y, ρ, t, k, k', m, h => by simp only [ev] at h ⊢; exact valD_mono (m _) h
  | .bin op a b, ρ, t, k, k', m, h => by
    simp only [ev] at h ⊢
    exact ev_mono a ρ (fun _ f1 d1 h => ⟨h.1, ev_mono b ρ (fun _ f2 d2 h => ⟨h.1, binD_mono (m _) h.2⟩) h.2⟩) h
  | .neg a, ρ, t, k, k', m, h => by
    simp only [ev] at h ⊢
    refine ev_mono a ρ (fun _ f1 d1 h => ?_) h
    cases d1 <;> first | exact h.elim | exact m _ _ _ h
  | .not a, ρ, t, k, k', m, h => by
    simp only [ev] at h ⊢
    exact ev_mono a ρ (fun _ f1 d1 h => trD_mono (fun r => m _ _ _) h) h
  | .and a b, ρ, t, k, k', m, h => by
    simp only [ev] at h ⊢
    refine ev_mono a ρ (fun _ f1 d1 h => ?_) h
    cases d1 <;> first | exact h.elim | skip
    rename_i c
    cases c
    · exact m _ _ _ h
    · exact ev_mono b ρ m h
  | .or a b, ρ, t, k, k', m, h => by
    simp only [ev] at h ⊢
    refine ev_mono a ρ (fun _ f1 d1 h => ?_) h
    cases d1 <;> first | exact h.elim | skip
    rename_i c
    cases c
    · exact ev_mono b ρ m h
    · exact m _ _ _ h
  | .ife c a b, ρ, t, k, k', m, h => by
    simp only [ev] at h ⊢
    refine ev_mono c ρ (fun _ f1 d1 h => trD_mono (fun r h => ?_) h) h
    cases r
    · exact ev_mono b ρ m h
    · exact ev_mono a ρ m h
  | .cmp op a b, ρ, t, k, k', m, h => by
    simp only [ev] at h ⊢
    exact ev_mono a ρ (fun _ f1 d1 h => ev_mono b ρ (fun _ f2 d2 h => cmpD_mono (fun r => m _ _ _) h) h) h
  | .isn a, ρ, t, k, k', m, h => by
    simp only [ev] at h ⊢
    exact ev_mono a ρ (fun _ f1 d1 h => m _ _ _ h) h
  | .nsn a, ρ, t, k, k', m, h => by
    simp only [ev] at h ⊢
    exact ev_mono a ρ (fun _ f1 d1 h => m _ _ _ h) h
  | .chn op op' a b c, ρ, t, k, k', m, h => by
    simp only [ev] at h ⊢
    refine ev_mono a ρ (fun _ f1 d1 h => ⟨h.1, ev_mono b ρ (fun _ f2 d2 h => ⟨h.1, cmpD_mono (fun r h => ?_) h.2⟩) h.2⟩) h
    cases r
    · exact m _ _ _ h
    · exact ev_mono c ρ (fun _ f3 d3 h => cmpD_mono (fun r => m _ _ _) h) h
  | .tup es, ρ, t, k, k', m, h => by
    simp only [ev] at h ⊢
    exact evs_mono es ρ (fun _ as h => ⟨h.1, h.2.1, m _ _ _ h.2.2⟩) h
  | .lst es, ρ, t, k, k', m, h => by
    simp only [ev] at h ⊢
    exact evs_mono es ρ (fun _ as h => ⟨h.1, h.2.1, m _ _ _ h.2.2⟩) h
  | .dct es, ρ, t, k, k', m, h => by
    simp only [ev] at h ⊢
    exact evs_mono es ρ (fun _ as ⟨nb, ps, h1, h2, h3, h4⟩ => ⟨nb, ps, h1, h2, h3, m _ _ _ h4⟩) h
  | .ix a i, ρ, t, k, k', m, h => by
    simp only [ev] at h ⊢
    exact ev_mono a ρ (fun _ f1 d1 h => ev_mono i ρ (fun _ f2 d2 h => ⟨h.1, ixD_mono (fun r => m _ _ _) h.2⟩) h) h
  | .sl a lo hi, ρ, t, k, k', m, h => by
    simp only [ev] at h ⊢
    exact ev_mono a ρ (fun _ f1 d1 h => evo_mono lo ρ (fun _ l h => optI_mono (fun r h => evo_mono hi ρ (fun _ h' h => optI_mono (fun r h => slD_mono (m _) h) h) h) h) h) h
  | .rev a, ρ, t, k, k', m, h => by
    simp only [ev] at h ⊢
    refine ev_mono a ρ (fun _ f1 d1 h => ?_) h
    cases d1 <;> first | exact h.elim | exact m _ _ _ h
  | .fld a f, ρ, t, k, k', m, h => by
    simp only [ev] at h ⊢
    exact ev_mono a ρ (fun _ f1 d1 h => fldD_mono (fun r => m _ _ _) h) h
  | .call f es ks, ρ, t, k, k', m, h => by
    simp only [ev] at h ⊢
    exact evs_mono es ρ (fun _ as h => hΦ _ _ _ _ _ _ _ (fun _ f d h => ⟨h.1, m _ _ _ h.2⟩) h) h
  | .cv i es, ρ, t, k, k', m, h => by
    simp only [ev] at h ⊢
    exact getV_mono (fun _ c h => evs_mono es ρ (fun _ as h => hΦ _ _ _ _ _ _ _ (fun _ f d h => ⟨h.1, m _ _ _ h.2⟩) h) h) h
  | .blt b es, ρ, t, k, k', m, h => by
    simp only [ev] at h ⊢
    exact evs_mono es ρ (fun _ as h => bltD_mono (m _) h) h
  | .isi a ts, ρ, t, k, k', m, h => by
    simp only [ev] at h ⊢
    exact ev_mono a ρ (fun _ f1 d1 h => by obtain ⟨b, e, h⟩ := h; exact ⟨b, e, m _ _ _ h⟩) h
  | .srt a b, ρ, t, k, k', m, h => by simp only [ev] at h
  | .mth o f es, ρ, t, k, k', m, h => by
    simp only [ev] at h ⊢
    exact ev_mono o ρ (fun _ f1 d1 h => ⟨h.1, evs_mono es ρ (fun _ as h => ⟨h.1, mthD_mono (m _) h.2⟩) h.2⟩) h
  | .lc elt gs, ρ, t, k, k', m, h => by
    simp only [ev] at h ⊢
    exact evg_mono gs (te := fun ρ' => ev g Φ noX elt ρ') (te' := fun ρ' => ev g Φ noX elt ρ') (fun ρ' t k k' m h => ev_mono elt ρ' m h) ρ [] (fun _ acc => m _ _ _) h
  | .lam ps body caps n, ρ, t, k, k', m, h => by simp only [ev] at h ⊢; exact m _ _ _ h
  | .rng _, ρ, t, k, k', m, h => by simp only [ev] at h
  | .enu _, ρ, t, k, k', m, h => by simp only [ev] at h
  | .zip _ _, ρ, t, k, k', m, h => by simp only [ev] at h
  | .items _, ρ, t, k, k', m, h => by simp only [ev] at h
  | .rvd _, ρ, t, k, k', m, h => by simp only [ev] at h
  | .nil, ρ, t, k, k', m, h => by simp only [ev] at h
  | .cons _ _, ρ, t, k, k', m, h => by simp only [ev] at h
  | .gcons _ _ _ _ _, ρ, t, k, k', m, h => by simp only [ev] at h
theorem evs_mono {x : XP} : ∀ (e : E) (ρ : Rho) {t : Nat} {k k' : Argk}, (∀ t as, k t as → k' t as) → evs g Φ x e ρ t k → evs g Φ x e ρ t k'
  | .nil, ρ, t, k, k', m, h => by simp only [evs] at h ⊢; exact m _ _ h
  | .cons a r, ρ, t, k, k', m, h => by
    simp only [evs] at h ⊢
    exact ev_mono a ρ (fun _ f1 d1 h => evs_mono r ρ (fun _ as h => m _ _ h) h) h
  | .cn, ρ, t, k, k', m, h | .cb _, ρ, t, k, k', m, h | .ci _, ρ, t, k, k', m, h | .cs _, ρ, t, k, k', m, h | .v _, ρ, t, k, k', m, h | .g _, ρ, t, k, k', m, h | .bin _ _ _, ρ, t, k, k', m, h
  | .neg _, ρ, t, k, k', m, h | .not _, ρ, t, k, k', m, h | .and _ _, ρ, t, k, k', m, h | .or _ _, ρ, t, k, k', m, h | .ife _ _ _, ρ, t, k, k', m, h | .cmp _ _ _, ρ, t, k, k', m, h
  | .isn _, ρ, t, k, k', m, h | .nsn _, ρ, t, k, k', m, h | .chn _ _ _ _ _, ρ, t, k, k', m, h | .tup _, ρ, t, k, k', m, h | .lst _, ρ, t, k, k', m, h | .dct _, ρ, t, k, k', m, h | .ix _ _, ρ, t, k, k', m, h
  | .sl _ _ _, ρ, t, k, k', m, h | .rev _, ρ, t, k, k', m, h | .fld _ _, ρ, t, k, k', m, h | .call _ _ _, ρ, t, k, k', m, h | .cv _ _, ρ, t, k, k', m, h | .blt _ _, ρ, t, k, k', m, h | .isi _ _, ρ, t, k, k', m, h
  | .srt _ _, ρ, t, k, k', m, h | .mth _ _ _, ρ, t, k, k', m, h | .lc _ _, ρ, t, k, k', m, h | .lam _ _ _ _, ρ, t, k, k', m, h | .rng _, ρ, t, k, k', m, h | .enu _, ρ, t, k, k', m, h | .zip _ _, ρ, t, k, k', m, h
  | .items _, ρ, t, k, k', m, h | .rvd _, ρ, t, k, k', m, h | .gcons _ _ _ _ _, ρ, t, k, k', m, h => by simp only [evs] at h
theorem evo_mono {x : XP} : ∀ (e : E) (ρ : Rho) {t : Nat} {k k' : Nat → Option D → Prop}, (∀ t as, k t as → k' t as) → evo g Φ x e ρ t k → evo g Φ x e ρ t k'
  | .nil, ρ, t, k, k', m, h => by simp only [evo] at h ⊢; exact m _ _ h
  | .cons a r, ρ, t, k, k', m, h => by
    simp only [evo] at h ⊢
    exact ev_mono a ρ (fun _ f1 d1 h => m _ _ h) h
  | .cn, ρ, t, k, k', m, h | .cb _, ρ, t, k, k', m, h | .ci _, ρ, t, k, k', m, h | .cs _, ρ, t, k, k', m, h | .v _, ρ, t, k, k', m, h | .g _, ρ, t, k, k', m, h | .bin _ _ _, ρ, t, k, k', m, h
  | .neg _, ρ, t, k, k', m, h | .not _, ρ, t, k, k', m, h | .and _ _, ρ, t, k, k', m, h | .or _ _, ρ, t, k, k', m, h | .ife _ _ _, ρ, t, k, k', m, h | .cmp _ _ _, ρ, t, k, k', m, h
  | .isn _, ρ, t, k, k', m, h | .nsn _, ρ, t, k, k', m, h | .chn _ _ _ _ _, ρ, t, k, k', m, h | .tup _, ρ, t, k, k', m, h | .lst _, ρ, t, k, k', m, h | .dct _, ρ, t, k, k', m, h | .ix _ _, ρ, t, k, k', m, h
  | .sl _ _ _, ρ, t, k, k', m, h | .rev _, ρ, t, k, k', m, h | .fld _ _, ρ, t, k, k', m, h | .call _ _ _, ρ, t, k, k', m, h | .cv _ _, ρ, t, k, k', m, h | .blt _ _, ρ, t, k, k', m, h | .isi _ _, ρ, t, k, k', m, h
  | .srt _ _, ρ, t, k, k', m, h | .mth _ _ _, ρ, t, k, k', m, h | .lc _ _, ρ, t, k, k', m, h | .lam _ _ _ _, ρ, t, k, k', m, h | .rng _, ρ, t, k, k', m, h | .enu _, ρ, t, k, k', m, h | .zip _ _, ρ, t, k, k', m, h
  | .items _, ρ, t, k, k', m, h | .rvd _, ρ, t, k, k', m, h | .gcons _ _ _ _ _, ρ, t, k, k', m, h => by simp only [evo] at h
theorem evi_mono {x : XP} : ∀ (e : E) (ρ : Rho) {t : Nat} {k k' : Nat → List D → Prop}, (∀ t as, k t as → k' t as) → evi g Φ x e ρ t k → evi g Φ x e ρ t k'
  | .rng es, ρ, t, k, k', m, h => by
    simp only [evi] at h ⊢
    exact evs_mono es ρ (fun _ as h => ⟨h.1, rngD_mono (m _) h.2⟩) h
  | .enu a, ρ, t, k, k', m, h => by
    simp only [evi] at h ⊢
    exact ev_mono a ρ (fun _ f1 d1 h => by obtain ⟨h1, l, e, h⟩ := h; exact ⟨h1, l, e, m _ _ h⟩) h
  | .zip a b, ρ, t, k, k', m, h => by
    simp only [evi] at h ⊢
    exact ev_mono a ρ (fun _ f1 d1 h => ⟨h.1, ev_mono b ρ (fun _ f2 d2 h => ⟨h.1, zipD_mono (m _) h.2⟩) h.2⟩) h
  | .cons a r, ρ, t, k, k', m, h => by
    simp only [evi] at h ⊢
    exact ev_mono a ρ (fun _ f1 d1 h => ⟨h.1, iterD_mono (m _) h.2⟩) h
  | .cn, ρ, t, k, k', m, h | .cb _, ρ, t, k, k', m, h | .ci _, ρ, t, k, k', m, h | .cs _, ρ, t, k, k', m, h | .v _, ρ, t, k, k', m, h | .g _, ρ, t, k, k', m, h | .bin _ _ _, ρ, t, k, k', m, h
  | .neg _, ρ, t, k, k', m, h | .not _, ρ, t, k, k', m, h | .and _ _, ρ, t, k, k', m, h | .or _ _, ρ, t, k, k', m, h | .ife _ _ _, ρ, t, k, k', m, h | .cmp _ _ _, ρ, t, k, k', m, h
  | .isn _, ρ, t, k, k', m, h | .nsn _, ρ, t, k, k', m, h | .chn _ _ _ _ _, ρ, t, k, k', m, h | .tup _, ρ, t, k, k', m, h | .lst _, ρ, t, k, k', m, h | .dct _, ρ, t, k, k', m, h | .ix _ _, ρ, t, k, k', m, h
  | .sl _ _ _, ρ, t, k, k', m, h | .rev _, ρ, t, k, k', m, h | .fld _ _, ρ, t, k, k', m, h | .call _ _ _, ρ, t, k, k', m, h | .cv _ _, ρ, t, k, k', m, h | .blt _ _, ρ, t, k, k', m, h | .isi _ _, ρ, t, k, k', m, h
  | .srt _ _, ρ, t, k, k', m, h | .mth _ _ _, ρ, t, k, k', m, h | .lc _ _, ρ, t, k, k', m, h | .lam _ _ _ _, ρ, t, k, k', m, h | .nil, ρ, t, k, k', m, h
  | .items _, ρ, t, k, k', m, h | .rvd _, ρ, t, k, k', m, h | .gcons _ _ _ _ _, ρ, t, k, k', m, h => by simp only [evi] at h
theorem evc_mono {x : XP} : ∀ (e : E) (ρ : Rho) {t : Nat} {k k' : Nat → Bool → Prop}, (∀ t as, k t as → k' t as) → evc g Φ x e ρ t k → evc g Φ x e ρ t k'
  | .nil, ρ, t, k, k', m, h => by simp only [evc] at h ⊢; exact m _ _ h
  | .cons a r, ρ, t, k, k', m, h => by
    simp only [evc] at h ⊢
    refine ev_mono a ρ (fun _ f1 d1 h => trD_mono (fun b h => ?_) h) h
    cases b
    · exact m _ _ h
    · exact evc_mono r ρ m h
  | .cn, ρ, t, k, k', m, h | .cb _, ρ, t, k, k', m, h | .ci _, ρ, t, k, k', m, h | .cs _, ρ, t, k, k', m, h | .v _, ρ, t, k, k', m, h | .g _, ρ, t, k, k', m, h | .bin _ _ _, ρ, t, k, k', m, h
  | .neg _, ρ, t, k, k', m, h | .not _, ρ, t, k, k', m, h | .and _ _, ρ, t, k, k', m, h | .or _ _, ρ, t, k, k', m, h | .ife _ _ _, ρ, t, k, k', m, h | .cmp _ _ _, ρ, t, k, k', m, h
  | .isn _, ρ, t, k, k', m, h | .nsn _, ρ, t, k, k', m, h | .chn _ _ _ _ _, ρ, t, k, k', m, h | .tup _, ρ, t, k, k', m, h | .lst _, ρ, t, k, k', m, h | .dct _, ρ, t, k, k', m, h | .ix _ _, ρ, t, k, k', m, h
  | .sl _ _ _, ρ, t, k, k', m, h | .rev _, ρ, t, k, k', m, h | .fld _ _, ρ, t, k, k', m, h | .call _ _ _, ρ, t, k, k', m, h | .cv _ _, ρ, t, k, k', m, h | .blt _ _, ρ, t, k, k', m, h | .isi _ _, ρ, t, k, k', m, h
  | .srt _ _, ρ, t, k, k', m, h | .mth _ _ _, ρ, t, k, k', m, h | .lc _ _, ρ, t, k, k', m, h | .lam _ _ _ _, ρ, t, k, k', m, h | .rng _, ρ, t, k, k', m, h | .enu _, ρ, t, k, k', m, h | .zip _ _, ρ, t, k, k', m, h
  | .items _, ρ, t, k, k', m, h | .rvd _, ρ, t, k, k', m, h | .gcons _ _ _ _ _, ρ, t, k, k', m, h => by simp only [evc] at h
theorem evg_mono {x : XP} : ∀ (e : E) {te te' : Rho → Nat → Kt → Prop}, (∀ ρ t (k k' : Kt), LeT k k' → te ρ t k → te' ρ t k') → ∀ (ρ : Rho) (acc : List D) {t : Nat} {k k' : Nat → List D → Prop}, (∀ t as, k t as → k' t as) → evg g Φ x e te ρ acc t k → evg g Φ x e te' ρ acc t k'
  | .nil, te, te', mt, ρ, acc, t, k, k', m, h => by simp only [evg] at h ⊢; exact mt ρ _ _ _ (fun _ f d h => ⟨h.1, h.2.1, m _ _ h.2.2⟩) h
  | .gcons own tg it conds r, te, te', mt, ρ, acc, t, k, k', m, h => by
    simp only [evg] at h ⊢
    refine evi_mono it ρ (fun _ items h => ?_) h
    refine lcGo_mono (fun d acc t k k' m h => ?_) items acc _ m h
    refine bindK_mono (fun ρ' h => ?_) h
    refine evc_mono conds ρ' (fun _ b h => ?_) h
    cases b
    · exact m _ _ h
    · exact evg_mono r mt ρ' acc m h
  | .cn, te, te', mt, ρ, acc, t, k, k', m, h | .cb _, te, te', mt, ρ, acc, t, k, k', m, h | .ci _, te, te', mt, ρ, acc, t, k, k', m, h | .cs _, te, te', mt, ρ, acc, t, k, k', m, h | .v _, te, te', mt, ρ, acc, t, k, k', m, h | .g _, te, te', mt, ρ, acc, t, k, k', m, h
  | .bin _ _ _, te, te', mt, ρ, acc, t, k, k', m, h | .neg _, te, te', mt, ρ, acc, t, k, k', m, h | .not _, te, te', mt, ρ, acc, t, k, k', m, h | .and _ _, te, te', mt, ρ, acc, t, k, k', m, h | .or _ _, te, te', mt, ρ, acc, t, k, k', m, h
  | .ife _ _ _, te, te', mt, ρ, acc, t, k, k', m, h | .cmp _ _ _, te, te', mt, ρ, acc, t, k, k', m, h | .isn _, te, te', mt, ρ, acc, t, k, k', m, h | .nsn _, te, te', mt, ρ, acc, t, k, k', m, h | .chn _ _ _ _ _, te, te', mt, ρ, acc, t, k, k', m, h
  | .tup _, te, te', mt, ρ, acc, t, k, k', m, h | .lst _, te, te', mt, ρ, acc, t, k, k', m, h | .dct _, te, te', mt, ρ, acc, t, k, k', m, h | .ix _ _, te, te', mt, ρ, acc, t, k, k', m, h | .sl _ _ _, te, te', mt, ρ, acc, t, k, k', m, h
  | .rev _, te, te', mt, ρ, acc, t, k, k', m, h | .fld _ _, te, te', mt, ρ, acc, t, k, k', m, h | .call _ _ _, te, te', mt, ρ, acc, t, k, k', m, h | .cv _ _, te, te', mt, ρ, acc, t, k, k', m, h | .blt _ _, te, te', mt, ρ, acc, t, k, k', m, h
  | .isi _ _, te, te', mt, ρ, acc, t, k, k', m, h | .srt _ _, te, te', mt, ρ, acc, t, k, k', m, h | .mth _ _ _, te, te', mt, ρ, acc, t, k, k', m, h | .lc _ _, te, te', mt, ρ, acc, t, k, k', m, h | .lam _ _ _ _, te, te', mt, ρ, acc, t, k, k', m, h
  | .rng _, te, te', mt, ρ, acc, t, k, k', m, h | .enu _, te, te', mt, ρ, acc, t, k, k', m, h | .zip _ _, te, te', mt, ρ, acc, t, k, k', m, h | .items _, te, te', mt, ρ, acc, t, k, k', m, h | .rvd _, te, te', mt, ρ, acc, t, k, k', m, h
  | .cons _ _, te, te', mt, ρ, acc, t, k, k', m, h => by simp only [evg] at h
end
end
end Lk
set_option autoImplicit false
set_option linter.all false
namespace Lk
open PySem
structure EnLe (e e' : En) : Prop where
  nx : ∀ t ρ, e.nx t ρ → e'.nx t ρ
  rt : LeT e.rt e'.rt
  bk : ∀ t ρ, e.bk t ρ → e'.bk t ρ
  ct : ∀ t ρ, e.ct t ρ → e'.ct t ρ
theorem forL_mono {body body' : Rho → Nat → En → Prop} {tg : Tg} (hb : ∀ ρ t e e', EnLe e e' → body ρ t e → body' ρ t e') : ∀ (l : List D) (ρ : Rho) (t : Nat) {e e' : En}, EnLe e e' → forL body tg l ρ t e → forL body' tg l ρ t e'
  | [], ρ, t, e, e', m, h => m.nx _ _ h
  | d :: r, ρ, t, e, e', m, h => bindK_mono (fun ρ' h => hb _ _ { e with nx := fun t2 ρ2 => forL body tg r ρ2 t2 e, ct := fun t2 ρ2 => forL body tg r ρ2 t2 e, bk := e.nx } { e' with nx := fun t2 ρ2 => forL body' tg r ρ2 t2 e', ct := fun t2 ρ2 => forL body' tg r ρ2 t2 e', bk := e'.nx } ⟨fun _ _ h => forL_mono hb r _ _ m h, m.rt, m.nx, fun _ _ h => forL_mono hb r _ _ m h⟩ h) h
theorem whlN_mono {c c' : Rho → Nat → (Nat → Bool → Prop) → Prop} {body body' : Rho → Nat → En → Prop} (hc : ∀ ρ t (k k' : Nat → Bool → Prop), (∀ t b, k t b → k' t b) → c ρ t k → c' ρ t k') (hb : ∀ ρ t e e', EnLe e e' → body ρ t e → body' ρ t e') : ∀ (n : Nat) (ρ : Rho) (t : Nat) {e e' : En}, EnLe e e' → whlN c body n ρ t e → whlN c' body' n ρ t e'
  | 0, ρ, t, e, e', m, h => h.elim
  | n + 1, ρ, t, e, e', m, h => hc _ _ _ _ (fun t1 b h => by
    cases b
    · exact m.nx _ _ h
    · exact hb _ _ { e with nx := fun t2 ρ2 => whlN c body n ρ2 t2 e, ct := fun t2 ρ2 => whlN c body n ρ2 t2 e, bk := e.nx } { e' with nx := fun t2 ρ2 => whlN c' body' n ρ2 t2 e', ct := fun t2 ρ2 => whlN c' body' n ρ2 t2 e', bk := e'.nx } ⟨fun _ _ h => whlN_mono hc hb n _ _ m h, m.rt, m.nx, fun _ _ h => whlN_mono hc hb n _ _ m h⟩ h) h
theorem getO_mono {ρ : Rho} {i : Nat} {k k' : D → Prop} (m : ∀ d, k d → k' d) (h : getO ρ i k) : getO ρ i k' := by
  unfold getO at *; split at h
  · exact m _ h
  · exact h.elim
theorem appD_mono {d x : D} {k k' : D → Prop} (m : ∀ d, k d → k' d) (h : appD d x k) : appD d x k' := by
  cases d <;> first | exact h.elim | exact ⟨h.1, m _ h.2⟩
theorem extD_mono {d x : D} {k k' : D → Prop} (m : ∀ d, k d → k' d) (h : extD d x k) : extD d x k' := by
  unfold extD at *; split at h
  · exact ⟨h.1, m _ h.2⟩
  · exact ⟨h.1, m _ h.2⟩
  · exact h.elim
theorem popD_mono {d : D} {k k' : D → D → Prop} (m : ∀ a b, k a b → k' a b) (h : popD d k) : popD d k' := by
  cases d <;> first | exact h.elim | (obtain ⟨x, e, h⟩ := h; exact ⟨x, e, m _ _ h⟩)
theorem ssetD_mono {d x y : D} {k k' : D → Prop} (m : ∀ d, k d → k' d) (h : ssetD d x y k) : ssetD d x y k' := by
  cases d <;> first | exact h.elim | skip
  · cases x <;> first | exact h.elim | (obtain ⟨j, e, h⟩ := h; exact ⟨j, e, m _ h⟩)
  · exact ⟨h.1, h.2.1, m _ h.2.2⟩
theorem augD_mono {a b : D} {k k' : D → Prop} (m : ∀ d, k d → k' d) (h : augD a b k) : augD a b k' := by
  unfold augD at *; split at h
  · exact m _ h
  · exact h.elim
theorem fsetD_mono {o d : D} {f : Str} {k k' : D → Prop} (m : ∀ d, k d → k' d) (h : fsetD o f d k) : fsetD o f d k' := by
  cases o <;> first | exact h.elim | exact ⟨h.1, m _ h.2⟩
theorem stsD_mono {key : Str} {s d : D} {t : Nat} {k k' : Nat → Prop} (m : ∀ t, k t → k' t) (h : stsD key s d t k) : stsD key s d t k' := by
  unfold stsD at *; split at h
  · exact ⟨h.1, m _ h.2⟩
  · exact h.elim
theorem rtvD_mono {ρ : Rho} {i : Nat} {k k' : K1} (m : Le1 k k') (h : rtvD ρ i k) : rtvD ρ i k' := by
  unfold rtvD at *; split at h
  · exact m _ _ h
  · exact m _ _ h
  · exact h.elim
theorem lckD_mono {ρ : Rho} {i : Nat} {k k' : Rho → Prop} (m : ∀ r, k r → k' r) (h : lckD ρ i k) : lckD ρ i k' := by
  unfold lckD at *; split at h
  · exact m _ h
  · exact m _ h
theorem frzD_mono {ρ : Rho} {i : Nat} {k k' : Rho → Prop} (m : ∀ r, k r → k' r) (h : frzD ρ i k) : frzD ρ i k' := by
  unfold frzD at *; split at h
  · exact m _ h
  · exact m _ h
section
variable {g : Str → Option D} {Φ : Cal} (hΦ : CalMono Φ) {x : XP}
include hΦ
theorem exs_mono : ∀ (s : S) (ρ : Rho) {t : Nat} {e e' : En}, EnLe e e' → exs g Φ x s ρ t e → exs g Φ x s ρ t e'
  | .skip, ρ, t, e, e', m, h => m.nx _ _ h
  | .seq a b, ρ, t, e, e', m, h => exs_mono a ρ (e := { e with nx := _ }) (e' := { e' with nx := _ }) ⟨fun _ _ h => exs_mono b _ m h, m.rt, m.bk, m.ct⟩ h
  | .ex a, ρ, t, e, e', m, h => ev_mono hΦ a ρ (fun _ _ _ h => m.nx _ _ h) h
  | .set i a, ρ, t, e, e', m, h => ev_mono hΦ a ρ (fun _ _ _ h => ⟨h.1, m.nx _ _ h.2⟩) h
  | .own i a, ρ, t, e, e', m, h => ev_mono hΦ a ρ (fun _ _ _ h => ⟨h.1, h.2.1, m.nx _ _ h.2.2⟩) h
  | .unp is a, ρ, t, e, e', m, h => ev_mono hΦ a ρ (fun _ _ _ h => ⟨h.1, bindK_mono (m.nx _) h.2⟩) h
  | .par ts es, ρ, t, e, e', m, h => evs_mono hΦ es ρ (fun _ as h => by
      cases q : bindN ts as ρ with
      | none => simp [q] at h
      | some ρ' => simp only [q] at h ⊢; exact m.nx _ _ h) h
  | .sset i key a, ρ, t, e, e', m, h => ev_mono hΦ a ρ (fun _ _ _ h => ⟨h.1, getO_mono (fun _ h => ev_mono hΦ key ρ (fun _ _ _ h => ⟨h.1, ssetD_mono (fun _ h => m.nx _ _ h) h.2⟩) h) h.2⟩) h
  | .app i a, ρ, t, e, e', m, h => getO_mono (fun _ h => ⟨h.1, ev_mono hΦ a ρ (fun _ _ _ h => ⟨h.1, appD_mono (fun _ h => m.nx _ _ h) h.2⟩) h.2⟩) h
  | .ext i a, ρ, t, e, e', m, h => getO_mono (fun _ h => ⟨h.1, ev_mono hΦ a ρ (fun _ _ _ h => ⟨h.1, extD_mono (fun _ h => m.nx _ _ h) h.2⟩) h.2⟩) h
  | .pop j i, ρ, t, e, e', m, h => getO_mono (fun _ h => popD_mono (fun _ _ h => ⟨h.1, m.nx _ _ h.2⟩) h) h
  | .frz i, ρ, t, e, e', m, h => frzD_mono (m.nx _) h
  | .lck i, ρ, t, e, e', m, h => lckD_mono (m.nx _) h
  | .aug i a, ρ, t, e, e', m, h => getV_mono (fun _ _ h => ⟨h.1, ev_mono hΦ a ρ (fun _ _ _ h => ⟨h.1, augD_mono (fun _ h => m.nx _ _ h) h.2⟩) h.2⟩) h
  | .sts i key a, ρ, t, e, e', m, h => ev_mono hΦ a ρ (fun _ _ _ h => ⟨h.1, h.2.1, getV_mono (fun _ _ h => stsD_mono (fun _ => m.nx _ _) h) h.2.2⟩) h
  | .stp i a, ρ, t, e, e', m, h => getV_mono (fun _ _ h => ⟨h.1, m.nx _ _ h.2.1, ev_mono hΦ a ρ (fun _ _ _ h => ⟨h.1, stsD_mono (fun _ => m.nx _ _) h.2⟩) h.2.2⟩) h
  | .fset i f a, ρ, t, e, e', m, h => ev_mono hΦ a ρ (fun _ _ _ h => ⟨h.1, getO_mono (fun _ h => fsetD_mono (fun _ h => m.nx _ _ h) h) h.2⟩) h
  | .ife c a b, ρ, t, e, e', m, h => ev_mono hΦ c ρ (fun _ _ _ h => trD_mono (fun t h => by
      cases t
      · exact exs_mono b ρ m h
      · exact exs_mono a ρ m h) h) h
  | .whl c b, ρ, t, e, e', m, ⟨n, h⟩ => ⟨n, whlN_mono (c := fun ρ t k => ev g Φ x c ρ t fun t1 _ d => trD d (k t1)) (c' := fun ρ t k => ev g Φ x c ρ t fun t1 _ d => trD d (k t1)) (body := fun ρ t e => exs g Φ x b ρ t e) (body' := fun ρ t e => exs g Φ x b ρ t e) (fun ρ t k k' mk h => ev_mono hΦ c ρ (fun _ _ _ h => trD_mono (mk _) h) h) (fun ρ t e e' m h => exs_mono b ρ m h) n ρ t m h⟩
  | .for tg it b, ρ, t, e, e', m, h => evi_mono hΦ it ρ (fun t1 items h => forL_mono (body := fun ρ t e => exs g Φ x b ρ t e) (body' := fun ρ t e => exs g Φ x b ρ t e) (fun ρ t e e' m h => exs_mono b ρ m h) items ρ t1 m h) h
  | .ret a, ρ, t, e, e', m, h => ev_mono hΦ a ρ (fun _ _ _ h => ⟨h.1, m.rt _ _ _ h.2⟩) h
  | .rtv i, ρ, t, e, e', m, h => rtvD_mono (m.rt _) h
  | .ret0, ρ, t, e, e', m, h => m.rt _ _ _ h
  | .rse C f es, ρ, t, e, e', m, h => h
  | .brk, ρ, t, e, e', m, h => m.bk _ _ h
  | .cnt, ρ, t, e, e', m, h => m.ct _ _ h
end
theorem callN_mono (P : Pg) : ∀ n, CalMono (callN P n)
  | 0, c, as, ks, t, k, k', x, m, h => h.elim
  | n + 1, c, as, ks, t, k, k', x, m, h => by
    cases c <;> first | exact h.elim | skip
    unfold callN at h ⊢
    simp only at h ⊢
    split at h
    · rename_i fd hf
      split at h
      · rename_i bs hb
        split
        · rename_i hm
          rw [if_pos hm] at h
          split at h
          · exact h.elim
          · rename_i j
            unfold runI at h ⊢
            refine fun p => exs_mono (callN_mono P j) _ _ ?_ (h p)
            exact ⟨fun _ _ h => getO_mono (fun d h => by cases d <;> first | exact h.elim | exact ⟨h.1, m _ _ _ h.2⟩) h, fun _ _ _ h => h, fun _ _ h => h, fun _ _ h => h⟩
        · rename_i hm
          rw [if_neg hm] at h
          unfold runF at h ⊢
          refine exs_mono (callN_mono P n) _ _ ?_ h
          exact ⟨fun _ _ h => m _ _ _ h, m, fun _ _ h => h, fun _ _ h => h⟩
      · exact h.elim
    · exact h.elim
end Lk
set_option autoImplicit false
set_option linter.all false
namespace Lk
open PySem L2
/-- what stays through the law: program, world, the written part, the module's names; the state's three objects; the tables of code objects -/
structure Wd where
  P : Program
  w : World
  K : PySem.W.Frag
  mg : Str → Option Value
  st : Option (Addr × Addr × Addr)
  cn : List Str
  /-- the names of attributes that an __init__ stores -/
  fd : List Str
/-- the built-in types that isinstance is asked of -/
def sixT : List String := ["int", "bool", "str", "tuple", "list", "dict"]
/-- a class whose instances are data: its facts -/
structure ObjC (W : Wd) (c : Str) (C : Addr) : Prop where
  mg : W.mg c = some (.ref C)
  cls : Cls W.K C
  ha : PySem.W.findIn W.K (.ref C) "__class__" = some (some (.builtin "object.__class__"))
  hn : PySem.W.specialIn W.K (.builtin "object.__class__") "__get__" = some (some (.builtin "getset_descriptor.__get__"))
  htk : PySem.W.takesIn W.K (.builtin "object.__class__") = some true
  hm : PySem.W.mroIn W.K C (.type "object") = some true
  kitB : ∀ n ∈ sixT, PySem.W.kitOne W.K (.ref C) (.type n) = some false
  na : ∀ f ∈ W.fd, NoAttr W.K C f
  kitO : ∀ c' ∈ W.cn, ∀ C', W.mg c' = some (.ref C') → PySem.W.kitOne W.K (.ref C) (.ref C') = some (c' == c)
/-- a dict whose keys are tuples, by its entries -/
def DicO (P : Program) (w : World) (p : Addr) (xs : List (NestedKey × Addr × Value)) : HO :=
  .ext fun h => ∃ o es ep, h.get? p = some o ∧ o.ExactDict ∧ o.data = .dict es ep ∧ es.toList = xs.map (entryOfKey (nestedKind P w)) ∧ (xs.map (·.1)).Nodup ∧ (p == sysModules) = false ∧ xs.length ≤ sizeLine
mutual
inductive R (W : Wd) (G : Hp) : V → D → Prop
  | non : R W G .non .non
  | bl (b) : R W G (.bl b) (.bl b)
  | int (i) : R W G (.int i) (.int i)
  | str (s) : R W G (.str s) (.str s)
  | tup {a xs ds} : SqT W.K G a xs → RL W G xs ds → R W G (.ref a) (.tup ds)
  | lst {a xs ds} : G a = some (.lst xs) → RL W G xs ds → R W G (.ref a) (.lst ds)
  | dk {a kv ds} : G a = some (.dK kv) → RK W G kv ds → R W G (.ref a) (.dct ds)
  | dx {a xs ds} : G a = some (DicO W.P W.w a xs) → RX W G xs ds → R W G (.ref a) (.dct ds)
  | dl {a o kv ds} : G a = some (.frz o (.dK kv)) → RK W G kv ds → R W G (.ref a) (.dcl ds)
  | dlx {a o xs ds} : G a = some (.frz o (DicO W.P W.w a xs)) → RX W G xs ds → R W G (.ref a) (.dcl ds)
  | obj {a C dx fs c ds} : G a = some (.ins C dx fs) → ObjC W c C → (∀ p ∈ fs, NoAttr W.K C p.1) → RF W G fs ds → R W G (.ref a) (.obj c ds)
  | slf {a C dx fs c ds} : G a = some (.ins C dx fs) → ObjC W c C → (∀ p ∈ fs, NoAttr W.K C p.1) → RF W G fs ds → R W G (.ref a) (.slf a c ds)
  | stt {a gr c} {cs : List Int} : W.st = some (a, gr, c) → G c = some (.lst (cs.map V.int)) → (∀ x ∈ cs, 0 ≤ x) → R W G (.ref a) .stt
  | scr {a} {ns : List Int} : SqL W.K G a (ns.map V.int) → R W G (.ref a) (.scr ns)
  | fn {a x} : W.mg x = some (.ref a) → R W G (.ref a) (.fn x)
  | cls {a x} : W.mg x = some (.ref a) → R W G (.ref a) (.cls x)
inductive RL (W : Wd) (G : Hp) : List V → List D → Prop
  | nil : RL W G [] []
  | cons {v d vs ds} : R W G v d → RL W G vs ds → RL W G (v :: vs) (d :: ds)
inductive RF (W : Wd) (G : Hp) : List (Str × V) → List (Str × D) → Prop
  | nil : RF W G [] []
  | cons {x v d vs ds} : R W G v d → RF W G vs ds → RF W G ((x, v) :: vs) ((x, d) :: ds)
inductive RK (W : Wd) (G : Hp) : List (Key × V) → List (D × D) → Prop
  | nil : RK W G [] []
  | cons {k kd v d vs ds} : R W G (kV k) kd → R W G v d → RK W G vs ds → RK W G ((k, v) :: vs) ((kd, d) :: ds)
inductive RX (W : Wd) (G : Hp) : List (NestedKey × Addr × Value) → List (D × D) → Prop
  | nil : RX W G [] []
  | cons {nk a u kd v d xs ds} : D.nk kd = some nk → nk.depth ≤ 8 → R W G (.ref a) kd → RelV v u → R W G v d → RX W G xs ds → RX W G ((nk, a, u) :: xs) ((kd, d) :: ds)
end
abbrev Sub (G G' : Hp) : Prop := ∀ b o, G b = some o → G' b = some o
theorem Sub.refl (G : Hp) : Sub G G := fun _ _ h => h
theorem Sub.trans {a b c : Hp} (h : Sub a b) (h' : Sub b c) : Sub a c := fun x o e => h' x o (h x o e)
theorem Sub.rd {G G' : Hp} (h : Sub G G') {a : Addr} {u : HO} (r : Rd G a u) : Rd G' a u := by
  rcases r with r | ⟨o, r⟩
  · exact .inl (h _ _ r)
  · exact .inr ⟨o, h _ _ r⟩
theorem Sub.sqt {K : PySem.W.Frag} {G G' : Hp} (h : Sub G G') {a : Addr} {xs : List V} (r : SqT K G a xs) : SqT K G' a xs := by
  rcases r with r | r
  · exact .inl (h.rd r)
  · exact .inr r
theorem Sub.sql {K : PySem.W.Frag} {G G' : Hp} (h : Sub G G') {a : Addr} {xs : List V} (r : SqL K G a xs) : SqL K G' a xs := by
  rcases r with r | r
  · exact .inl (h.rd r)
  · exact .inr r
theorem Sub.new {G : Hp} {p : Addr} {o : HO} (h : G p = none) : Sub G (upd G p o) := fun b u e => by
  rw [upd_ne (ne_of_none e h)]; exact e
mutual
theorem R.mono {W : Wd} {G G' : Hp} (s : Sub G G') : ∀ {v d}, R W G v d → R W G' v d
  | _, _, .non => .non
  | _, _, .bl b => .bl b
  | _, _, .int b => .int b
  | _, _, .str b => .str b
  | _, _, .tup h r => .tup (s.sqt h) (RL.mono s r)
  | _, _, .lst h r => .lst (s _ _ h) (RL.mono s r)
  | _, _, .dk h r => .dk (s _ _ h) (RK.mono s r)
  | _, _, .dx h r => .dx (s _ _ h) (RX.mono s r)
  | _, _, .dl h r => .dl (s _ _ h) (RK.mono s r)
  | _, _, .dlx h r => .dlx (s _ _ h) (RX.mono s r)
  | _, _, .obj h m n r => .obj (s _ _ h) m n (RF.mono s r)
  | _, _, .slf h m n r => .slf (s _ _ h) m n (RF.mono s r)
  | _, _, .stt h h1 h2 => .stt h (s _ _ h1) h2
  | _, _, .scr h => .scr (s.sql h)
  | _, _, .fn h => .fn h
  | _, _, .cls h => .cls h
theorem RL.mono {W : Wd} {G G' : Hp} (s : Sub G G') : ∀ {v d}, RL W G v d → RL W G' v d
  | _, _, .nil => .nil
  | _, _, .cons h r => .cons (R.mono s h) (RL.mono s r)
theorem RF.mono {W : Wd} {G G' : Hp} (s : Sub G G') : ∀ {v d}, RF W G v d → RF W G' v d
  | _, _, .nil => .nil
  | _, _, .cons h r => .cons (R.mono s h) (RF.mono s r)
theorem RK.mono {W : Wd} {G G' : Hp} (s : Sub G G') : ∀ {v d}, RK W G v d → RK W G' v d
  | _, _, .nil => .nil
  | _, _, .cons a h r => .cons (R.mono s a) (R.mono s h) (RK.mono s r)
theorem RX.mono {W : Wd} {G G' : Hp} (s : Sub G G') : ∀ {v d}, RX W G v d → RX W G' v d
  | _, _, .nil => .nil
  | _, _, .cons a e b c h r => .cons a e (R.mono s b) c (R.mono s h) (RX.mono s r)
end
theorem RL.length {W : Wd} {G : Hp} : ∀ {vs ds}, RL W G vs ds → vs.length = ds.length
  | _, _, .nil => rfl
  | _, _, .cons _ r => by rw [List.length_cons, List.length_cons, RL.length r]
theorem RL.get {W : Wd} {G : Hp} : ∀ {vs ds} {i : Nat} {d : D}, RL W G vs ds → ds[i]? = some d → ∃ v, vs[i]? = some v ∧ R W G v d
  | _, _, _, _, .nil, e => by simp at e
  | _, _, 0, _, .cons r _, e => by simp at e; subst e; exact ⟨_, rfl, r⟩
  | _, _, i + 1, d, .cons _ t, e => by
    obtain ⟨v, h1, h2⟩ := RL.get (i := i) (d := d) t (by simpa using e)
    exact ⟨v, by simpa using h1, h2⟩
theorem RL.getV {W : Wd} {G : Hp} : ∀ {vs ds} {i : Nat} {v : V}, RL W G vs ds → vs[i]? = some v → ∃ d, ds[i]? = some d ∧ R W G v d
  | _, _, _, _, .nil, e => by simp at e
  | _, _, 0, _, .cons r _, e => by simp at e; subst e; exact ⟨_, rfl, r⟩
  | _, _, i + 1, d, .cons _ t, e => by
    obtain ⟨v, h1, h2⟩ := RL.getV (i := i) (v := d) t (by simpa using e)
    exact ⟨v, by simpa using h1, h2⟩
theorem RL.append {W : Wd} {G : Hp} : ∀ {vs ds ws es}, RL W G vs ds → RL W G ws es → RL W G (vs ++ ws) (ds ++ es)
  | _, _, _, _, .nil, h => h
  | _, _, _, _, .cons r t, h => .cons r (RL.append t h)
theorem RL.take {W : Wd} {G : Hp} : ∀ {vs ds} (n : Nat), RL W G vs ds → RL W G (vs.take n) (ds.take n)
  | _, _, 0, _ => .nil
  | _, _, _ + 1, .nil => .nil
  | _, _, n + 1, .cons r t => .cons r (RL.take n t)
theorem RL.drop {W : Wd} {G : Hp} : ∀ {vs ds} (n : Nat), RL W G vs ds → RL W G (vs.drop n) (ds.drop n)
  | _, _, 0, r => r
  | _, _, _ + 1, .nil => .nil
  | _, _, n + 1, .cons _ t => RL.drop n t
theorem RL.reverse {W : Wd} {G : Hp} : ∀ {vs ds}, RL W G vs ds → RL W G vs.reverse ds.reverse
  | _, _, .nil => .nil
  | _, _, .cons r t => by
    rw [List.reverse_cons, List.reverse_cons]
    exact RL.append (RL.reverse t) (.cons r .nil)
theorem RL.rep {W : Wd} {G : Hp} {vs ds} (h : RL W G vs ds) : ∀ n : Nat, RL W G (List.replicate n vs).flatten (List.replicate n ds).flatten
  | 0 => .nil
  | n + 1 => by
    rw [List.replicate_succ, List.replicate_succ, List.flatten_cons, List.flatten_cons]
    exact RL.append h (RL.rep h n)
theorem RL.set {W : Wd} {G : Hp} {v : V} {d : D} (h : R W G v d) : ∀ {vs ds} (n : Nat), RL W G vs ds → RL W G (vs.set n v) (ds.set n d)
  | _, _, _, .nil => .nil
  | _, _, 0, .cons _ t => .cons h t
  | _, _, n + 1, .cons r t => .cons r (RL.set h n t)
theorem RL.dropLast {W : Wd} {G : Hp} : ∀ {vs ds}, RL W G vs ds → RL W G vs.dropLast ds.dropLast
  | _, _, .nil => .nil
  | _, _, .cons _ .nil => .nil
  | _, _, .cons r (.cons q t) => .cons r (RL.dropLast (.cons q t))
theorem RL.ints {W : Wd} {G : Hp} : ∀ {vs ds ns}, RL W G vs ds → intsOf ds = some ns → vs = ns.map V.int ∧ ds = ns.map D.int
  | _, _, _, .nil, e => by simp [intsOf] at e; subst e; exact ⟨rfl, rfl⟩
  | _, _, _, .cons (d := d) r t, e => by
    cases r with
    | int i =>
      simp only [intsOf, Option.map_eq_some_iff] at e
      obtain ⟨ms, e, rfl⟩ := e
      obtain ⟨a, b⟩ := RL.ints t e
      rw [a, b]; exact ⟨rfl, rfl⟩
    | _ => simp [intsOf] at e
theorem RL.bls {W : Wd} {G : Hp} : ∀ {vs ds bs}, RL W G vs ds → blsOf ds = some bs → vs = bs.map V.bl
  | _, _, _, .nil, e => by simp [blsOf] at e; subst e; rfl
  | _, _, _, .cons (d := d) r t, e => by
    cases r with
    | bl i =>
      simp only [blsOf, Option.map_eq_some_iff] at e
      obtain ⟨ms, e, rfl⟩ := e
      rw [RL.bls t e]; rfl
    | _ => simp [blsOf] at e
theorem RF.lookup {W : Wd} {G : Hp} {f : Str} {d : D} : ∀ {vs ds}, RF W G vs ds → List.lookup f ds = some d → ∃ v, List.lookup f vs = some v ∧ R W G v d
  | _, _, .nil, e => by simp at e
  | _, _, .cons (x := x) (v := v) r t, e => by
    rw [List.lookup_cons] at e ⊢
    cases hx : f == x with
    | true => rw [hx] at e; simp only at e ⊢; cases e; exact ⟨_, rfl, r⟩
    | false => rw [hx] at e; simp only at e ⊢; exact RF.lookup t e
/-! ### the state's objects -/
structure StOk (H : Hp) (a gr c : Addr) : Prop where
  ok : ∃ (gs cs : List Int) (l t : Int), H a = some (.dK [(.inr "great", .ref gr), (.inr "cells", .ref c), (.inr "left", .int l), (.inr "turn", .int t)]) ∧
    H gr = some (.lst (gs.map V.int)) ∧ H c = some (.lst (cs.map V.int)) ∧ 0 ≤ l ∧ 0 ≤ t ∧ (∀ x ∈ gs, 0 ≤ x) ∧ ∀ x ∈ cs, 0 ≤ x
  ne : gr ≠ c
def WI (W : Wd) (H : Hp) : Prop := ∀ a gr c, W.st = some (a, gr, c) → StOk H a gr c
/-- the state's turn is at most t -/
def TL (W : Wd) (H : Hp) (t : Nat) : Prop := ∀ a gr c, W.st = some (a, gr, c) → ∃ l n : Int, H a = some (.dK [(.inr "great", .ref gr), (.inr "cells", .ref c), (.inr "left", .int l), (.inr "turn", .int n)]) ∧ n ≤ t
/-- the turn has not gone on -/
def Pu (W : Wd) (H H' : Hp) : Prop := ∀ t, TL W H t → TL W H' t
theorem Pu.refl (W : Wd) (H : Hp) : Pu W H H := fun _ h => h
theorem Pu.trans {W : Wd} {a b c : Hp} (h : Pu W a b) (h' : Pu W b c) : Pu W a c := fun t q => h' t (h t q)
def stA (W : Wd) (b : Addr) : Prop := ∃ a gr c, W.st = some (a, gr, c) ∧ (b = a ∨ b = gr)
/-- the objects that anybody may turn: the state's, the tables of code objects -/
def Loose (W : Wd) (b : Addr) (o : HO) : Prop := stA W b ∨ ∃ ps, o = .tbl ps
structure Step (W : Wd) (G H G' H' : Hp) : Prop where
  keep : ∀ b o, H b = some o → ¬ Loose W b o → H' b = some o
  live : ∀ b, H b ≠ none → H' b ≠ none
  gext : Sub G G'
  gsub : Sub G' H'
  gnew : ∀ b, H b ≠ none → G' b = G b
  gno : ∀ b o, G' b = some o → ¬ Loose W b o
  wi : WI W H'
theorem Step.trans {W : Wd} {G H G1 H1 G2 H2 : Hp} (a : Step W G H G1 H1) (b : Step W G1 H1 G2 H2) : Step W G H G2 H2 where
  keep := fun c o h n => b.keep c o (a.keep c o h n) n
  live := fun c h => b.live c (a.live c h)
  gext := a.gext.trans b.gext
  gsub := b.gsub
  gnew := fun c h => (b.gnew c (a.live c h)).trans (a.gnew c h)
  gno := b.gno
  wi := b.wi
/-- a state of G and H -/
structure Gd (W : Wd) (G H : Hp) : Prop where
  sub : Sub G H
  no : ∀ b o, G b = some o → ¬ Loose W b o
  wi : WI W H
theorem Gd.step {W : Wd} {G H : Hp} (g : Gd W G H) : Step W G H G H := ⟨fun _ _ h _ => h, fun _ h => h, Sub.refl _, g.sub, fun _ _ => rfl, g.no, g.wi⟩
theorem Step.gd {W : Wd} {G H G' H' : Hp} (s : Step W G H G' H') : Gd W G' H' := ⟨s.gsub, s.gno, s.wi⟩
theorem Step.back {W : Wd} {G H G' H' : Hp} (s : Step W G H G' H') {p : Addr} (h : H' p = none) : H p = none := by
  cases e : H p with
  | none => rfl
  | some o => exact absurd h (s.live p (by rw [e]; simp))
/-- a new object -/
theorem WI.new {W : Wd} {H : Hp} {p : Addr} {o : HO} (w : WI W H) (h : H p = none) : WI W (upd H p o) := fun a gr c e => by
  obtain ⟨⟨gs, cs, l, t, h1, h2, h3, r⟩, n⟩ := w a gr c e
  exact ⟨⟨gs, cs, l, t, by rw [upd_ne (ne_of_none h1 h)]; exact h1, by rw [upd_ne (ne_of_none h2 h)]; exact h2, by rw [upd_ne (ne_of_none h3 h)]; exact h3, r⟩, n⟩
theorem WI.notSt {W : Wd} {H : Hp} {p : Addr} (w : WI W H) (h : H p = none) : ¬ stA W p := fun ⟨a, gr, c, e, r⟩ => by
  obtain ⟨⟨gs, cs, l, t, h1, h2, _⟩, _⟩ := w a gr c e
  rcases r with r | r
  · rw [r, h1] at h; cases h
  · rw [r, h2] at h; cases h
/-- an object that is none of the state's -/
theorem Pu.off {W : Wd} {H : Hp} {p : Addr} {o : HO} (h : ¬ stA W p) : Pu W H (upd H p o) := fun t q a gr c e => by
  obtain ⟨l, n, h1, h2⟩ := q a gr c e
  exact ⟨l, n, by rw [upd_ne (fun z => h ⟨a, gr, c, e, .inl z.symm⟩)]; exact h1, h2⟩
theorem Pu.new {W : Wd} {H : Hp} {p : Addr} {o : HO} (w : WI W H) (h : H p = none) : Pu W H (upd H p o) := Pu.off (w.notSt h)
/-- a new object, frozen at once -/
theorem Gd.new {W : Wd} {G H : Hp} (g : Gd W G H) {p : Addr} {o : HO} (h : H p = none) (ht : ∀ ps, o ≠ .tbl ps) : Step W G H (upd G p o) (upd H p o) := by
  have hg : G p = none := by
    cases e : G p with
    | none => rfl
    | some u => rw [g.sub _ _ e] at h; cases h
  refine ⟨fun b u e _ => by rw [upd_ne (ne_of_none e h)]; exact e, fun b e => ?_, Sub.new hg, fun b u e => ?_, fun b e => ?_, fun b u e => ?_, g.wi.new h⟩
  · by_cases hb : b = p
    · rw [hb, upd_same]; simp
    · rw [upd_ne hb]; exact e
  · by_cases hb : b = p
    · rw [hb, upd_same] at e ⊢; exact e
    · rw [upd_ne hb] at e ⊢; exact g.sub _ _ e
  · have hb : b ≠ p := fun q => e (by rw [q]; exact h)
    rw [upd_ne hb]
  · by_cases hb : b = p
    · rw [hb, upd_same] at e; cases e
      rintro (q | ⟨ps, q⟩)
      · exact g.wi.notSt h (hb ▸ q)
      · exact ht ps q
    · rw [upd_ne hb] at e; exact g.no b u e
/-- a new object, not frozen -/
theorem Gd.newOwn {W : Wd} {G H : Hp} (g : Gd W G H) {p : Addr} {o : HO} (h : H p = none) : Step W G H G (upd H p o) := by
  refine ⟨fun b u e _ => by rw [upd_ne (ne_of_none e h)]; exact e, fun b e => ?_, Sub.refl _, fun b u e => ?_, fun b e => rfl, g.no, g.wi.new h⟩
  · by_cases hb : b = p
    · rw [hb, upd_same]; simp
    · rw [upd_ne hb]; exact e
  · rw [upd_ne (ne_of_none (g.sub _ _ e) h)]; exact g.sub _ _ e
/-! ### what stands at a new or owned object -/
def OwnC (W : Wd) (G H : Hp) (p : Addr) (d : D) : Prop := match d with
  | .lst ds => ∃ xs, H p = some (.lst xs) ∧ RL W G xs ds
  | .dct ds => (∃ kv, H p = some (.dK kv) ∧ RK W G kv ds) ∨ ∃ xs, H p = some (DicO W.P W.w p xs) ∧ RX W G xs ds
  | .obj c ds => ∃ C dx fs, H p = some (.ins C dx fs) ∧ ObjC W c C ∧ (∀ p ∈ fs, NoAttr W.K C p.1) ∧ RF W G fs ds
  | .slf q c ds => q = p ∧ ∃ C dx fs, H p = some (.ins C dx fs) ∧ ObjC W c C ∧ (∀ p ∈ fs, NoAttr W.K C p.1) ∧ RF W G fs ds
  | _ => False
theorem OwnC.there {W : Wd} {G H : Hp} {p : Addr} {d : D} (h : OwnC W G H p d) : ∃ o, H p = some o ∧ ∀ ps, o ≠ .tbl ps := by
  cases d <;> try exact h.elim
  · obtain ⟨xs, h, _⟩ := h; exact ⟨_, h, fun ps q => by cases q⟩
  · rcases h with ⟨xs, h, _⟩ | ⟨xs, h, _⟩
    · exact ⟨_, h, fun ps q => by cases q⟩
    · exact ⟨_, h, fun ps q => by unfold DicO at q; cases q⟩
  · obtain ⟨_, _, _, h, _⟩ := h; exact ⟨_, h, fun ps q => by cases q⟩
  · obtain ⟨_, _, _, _, h, _⟩ := h; exact ⟨_, h, fun ps q => by cases q⟩
theorem OwnC.stay {W : Wd} {G H G' H' : Hp} {p : Addr} {d : D} (h : OwnC W G H p d) (hg : Sub G G') (hp : H' p = H p) : OwnC W G' H' p d := by
  cases d <;> try exact h.elim
  · obtain ⟨xs, h, r⟩ := h; exact ⟨xs, hp.trans h, r.mono hg⟩
  · rcases h with ⟨xs, h, r⟩ | ⟨xs, h, r⟩
    · exact .inl ⟨xs, hp.trans h, r.mono hg⟩
    · exact .inr ⟨xs, hp.trans h, r.mono hg⟩
  · obtain ⟨C, dx, fs, h, m, n, r⟩ := h; exact ⟨C, dx, fs, hp.trans h, m, n, r.mono hg⟩
  · obtain ⟨e0, C, dx, fs, h, m, n, r⟩ := h; exact ⟨e0, C, dx, fs, hp.trans h, m, n, r.mono hg⟩
theorem OwnC.frozen {W : Wd} {G H : Hp} {p : Addr} {d : D} (h : OwnC W G H p d) (e : G p = H p) : R W G (.ref p) d := by
  cases d <;> try exact h.elim
  · obtain ⟨xs, h, r⟩ := h; exact .lst (e.trans h) r
  · rcases h with ⟨xs, h, r⟩ | ⟨xs, h, r⟩
    · exact .dk (e.trans h) r
    · exact .dx (e.trans h) r
  · obtain ⟨C, dx, fs, h, m, n, r⟩ := h; exact .obj (e.trans h) m n r
  · obtain ⟨e0, C, dx, fs, h, m, n, r⟩ := h; subst e0; exact .slf (e.trans h) m n r
/-- a dict that may be read -/
def Dr (W : Wd) (G H : Hp) (p : Addr) (ds : List (D × D)) : Prop :=
  (∃ kv, Rd H p (.dK kv) ∧ RK W G kv ds) ∨ ∃ xs, Rd H p (DicO W.P W.w p xs) ∧ RX W G xs ds
/-- a result: frozen, new (unknown at H), a slot's -/
def RV (W : Wd) (fl : Fl) (H G' H' : Hp) (v : V) (d : D) : Prop := match fl with
  | .f => R W G' v d
  | .n => ∃ p, v = .ref p ∧ H p = none ∧ G' p = none ∧ OwnC W G' H' p d
  | .b => ∃ p, v = .ref p ∧ ¬ stA W p ∧ G' p = none ∧ OwnC W G' H' p d
theorem RV.from {W : Wd} {fl : Fl} {G H G1 H1 G' H' : Hp} {v : V} {d : D} (s : Step W G H G1 H1) (h : RV W fl H1 G' H' v d) : RV W fl H G' H' v d := by
  cases fl with
  | f => exact h
  | n => obtain ⟨p, e, h1, r⟩ := h; exact ⟨p, e, s.back h1, r⟩
  | b => exact h
/-- a result is frozen -/
theorem RV.freeze {W : Wd} {fl : Fl} {G H G' H' : Hp} {v : V} {d : D} (g : WI W H) (s : Step W G H G' H') (h : RV W fl H G' H' v d) (hf : fl ≠ .b) : ∃ G2, Step W G H G2 H' ∧ R W G2 v d ∧ Sub G' G2 := by
  cases fl with
  | f => exact ⟨G', s, h, Sub.refl _⟩
  | b => exact absurd rfl hf
  | n =>
    obtain ⟨p, rfl, h1, h2, c⟩ := h
    obtain ⟨o, ho, nt⟩ := c.there
    have e : upd G' p o p = H' p := by rw [upd_same, ho]
    refine ⟨upd G' p o, ⟨s.keep, s.live, s.gext.trans (Sub.new h2), fun b u q => ?_, fun b q => ?_, fun b u q => ?_, s.wi⟩, (c.stay (Sub.new h2) rfl).frozen e, Sub.new h2⟩
    · by_cases hb : b = p
      · rw [hb] at q ⊢; rw [← e]; exact q
      · rw [upd_ne hb] at q; exact s.gsub _ _ q
    · have hb : b ≠ p := fun z => q (by rw [z]; exact h1)
      rw [upd_ne hb]; exact s.gnew b q
    · by_cases hb : b = p
      · rw [hb, upd_same] at q; cases q
        rintro (z | ⟨ps, z⟩)
        · exact g.notSt h1 (hb ▸ z)
        · exact nt ps z
      · rw [upd_ne hb] at q; exact s.gno b u q
/-- the context stands over W -/
structure XW (X : Cx) (W : Wd) : Prop where
  K : X.K = W.K
  mg : X.mg = W.mg
  P : X.prog = W.P
  w : X.w = W.w
  hu : X.A.units + 200 < cLine
  isc : ∀ c' ∈ W.cn, ∀ C', W.mg c' = some (.ref C') → ∀ n ∈ "NoneType" :: sixT, PySem.W.kitOne W.K (.type n) (.ref C') = some false
end Lk
set_option autoImplicit false
set_option linter.all false
namespace Lk
open PySem L2
section
variable {X : Cx} {W : Wd} {pins : List (Addr × Obj)} {σ : L2.St} {G H : Hp} {s : Shared}
theorem D.pure_isPy {d : D} (h : d.pure = true) : d.isPy = true := by
  unfold D.pure at h; simp only [Bool.and_eq_true] at h; exact h.1
mutual
theorem R.reads (I : Inv X pins σ H s) (hK : X.K = W.K) (hs : Sub G H) : ∀ {v d u}, R W G v d → d.pure = true → RelV v u → ∃ as, Reads s.heap u d.py as
  | _, _, _, .non, _, r => by cases r; exact ⟨_, .none⟩
  | _, _, _, .bl b, _, r => by cases r; exact ⟨_, .bool b⟩
  | _, _, _, .int i, _, r => by obtain ⟨t, rfl⟩ := r; exact ⟨_, .int i t⟩
  | _, _, _, .str x, _, r => by obtain ⟨t, rfl⟩ := r; exact ⟨_, .str x t⟩
  | _, _, _, .tup (ds := ds) h q, p, r => by
    obtain rfl := r
    have h' := hs.sqt h
    rw [← hK] at h'
    obtain ⟨its, ri, ⟨o, ho, hc, n, hd⟩, _⟩ := I.tuple h'
    have p' : (isPyL ds && PyData.plainAll (pyL ds)) = true := by
      simpa [D.pure, D.isPy, D.py, PyData.plain] using p
    obtain ⟨as, ra⟩ := RL.reads I hK hs q p' ri
    exact ⟨_, .tuple ho hc hd (by simpa using ra)⟩
  | _, _, _, .lst (ds := ds) h q, p, r => by
    obtain rfl := r
    have h' : SqL X.K H _ _ := SqL.of (hs _ _ h)
    obtain ⟨its, ri, ⟨o, n, ho, hc, _, hd⟩, _⟩ := I.list h'
    have p' : (isPyL ds && PyData.plainAll (pyL ds)) = true := by
      simpa [D.pure, D.isPy, D.py, PyData.plain] using p
    obtain ⟨as, ra⟩ := RL.reads I hK hs q p' ri
    exact ⟨_, .list ho hc hd (by simpa using ra)⟩
  | _, _, _, .dk _ _, p, _ => by simp [D.pure, D.py, PyData.plain] at p
  | _, _, _, .dx _ _, p, _ => by simp [D.pure, D.py, PyData.plain] at p
  | _, _, _, .dl _ _, p, _ => by simp [D.pure, D.isPy] at p
  | _, _, _, .dlx _ _, p, _ => by simp [D.pure, D.isPy] at p
  | _, _, _, .obj _ _ _ _, p, _ => by simp [D.pure, D.isPy] at p
  | _, _, _, .slf _ _ _ _, p, _ => by simp [D.pure, D.isPy] at p
  | _, _, _, .stt _ _ _, p, _ => by simp [D.pure, D.isPy] at p
  | _, _, _, .scr _, p, _ => by simp [D.pure, D.isPy] at p
  | _, _, _, .fn _, p, _ => by simp [D.pure, D.isPy] at p
  | _, _, _, .cls _, p, _ => by simp [D.pure, D.isPy] at p
theorem RL.reads (I : Inv X pins σ H s) (hK : X.K = W.K) (hs : Sub G H) : ∀ {vs ds us}, RL W G vs ds → (isPyL ds && PyData.plainAll (pyL ds)) = true → Vals vs us → ∃ as, ReadsAll s.heap us (pyL ds) as
  | _, _, _, .nil, _, r => by cases r; exact ⟨_, .nil⟩
  | _, _, _, .cons (d := d) (ds := ds) h q, p, r => by
    cases r with
    | cons r1 r2 =>
      have p1 : d.pure = true ∧ (isPyL ds && PyData.plainAll (pyL ds)) = true := by
        simp only [isPyL, pyL, PyData.plainAll, Bool.and_eq_true] at p ⊢
        unfold D.pure
        simp only [Bool.and_eq_true]
        exact ⟨⟨p.1.1, p.2.1⟩, p.1.2, p.2.2⟩
      obtain ⟨as, ra⟩ := R.reads I hK hs h p1.1 r1
      obtain ⟨bs, rb⟩ := RL.reads I hK hs q p1.2 r2
      exact ⟨_, .cons ra rb⟩
end
end
end Lk
namespace Lk
open PySem L2
/-- the wish of a result -/
def KQ (W : Wd) (G H : Hp) (Q : VK) : K1 := fun fl d => ∀ v H' G', Step W G H G' H' → Pu W H H' → RV W fl H G' H' v d → Q v H'
/-- .. where the turn may have gone on -/
def KQt (W : Wd) (G H : Hp) (Q : VK) : Kt := fun t fl d => ∀ v H' G', Step W G H G' H' → TL W H' t → RV W fl H G' H' v d → Q v H'
/-- data at a value: frozen, or at an object that is not -/
def RB (W : Wd) (G H : Hp) (v : V) (d : D) : Prop := R W G v d ∨ ∃ p, v = .ref p ∧ ¬ stA W p ∧ OwnC W G H p d
section
variable {X : Cx} {W : Wd} {pins : List (Addr × Obj)} {σ : L2.St} {G H G' H' : Hp} {s : Shared} {v : V} {d : D} {Q : VK} {fl : Fl}
theorem RB.step (a : Step W G H G' H') (h : RB W G H v d) : RB W G' H' v d := by
  rcases h with h | ⟨p, e, n, c⟩
  · exact .inl (h.mono a.gext)
  · obtain ⟨o, ho, nt⟩ := c.there
    refine .inr ⟨p, e, n, c.stay a.gext ?_⟩
    rw [ho]
    exact a.keep p o ho fun z => z.elim n fun ⟨ps, z⟩ => nt ps z
theorem RV.rb (g : WI W H) (h : RV W fl H G' H' v d) : RB W G' H' v d := by
  cases fl with
  | f => exact .inl h
  | n => obtain ⟨p, e, h1, _, c⟩ := h; exact .inr ⟨p, e, g.notSt h1, c⟩
  | b => obtain ⟨p, e, h1, _, c⟩ := h; exact .inr ⟨p, e, h1, c⟩
theorem KQ.flat (h : KQ W G H Q .f d) (g : Gd W G H) (r : R W G v d) : Q v H := h v H G g.step (Pu.refl _ _) r
theorem Gd.none (g : Gd W G H) {p : Addr} (h : H p = none) : G p = none := by
  cases e : G p with
  | none => rfl
  | some o => rw [g.sub _ _ e] at h; cases h
theorem KQ.tup {p : Addr} {xs : List V} {ds : List D} (h : KQ W G H Q .f (.tup ds)) (g : Gd W G H) (hp : H p = none) (r : RL W G xs ds) : Q (.ref p) (upd H p (.tup xs)) :=
  h _ _ _ (g.new hp (fun ps q => by cases q)) (Pu.new g.wi hp) (.tup (SqT.of upd_same) (r.mono (Sub.new (g.none hp))))
theorem KQ.lst {p : Addr} {xs : List V} {ds : List D} (h : KQ W G H Q .n (.lst ds)) (g : Gd W G H) (hp : H p = none) (r : RL W G xs ds) : Q (.ref p) (upd H p (.lst xs)) :=
  h _ _ _ (g.newOwn hp) (Pu.new g.wi hp) ⟨p, rfl, hp, g.none hp, xs, upd_same, r⟩
theorem KQ.from {G1 H1 : Hp} (s : Step W G H G1 H1) (pu : Pu W H H1) (h : KQ W G H Q fl d) : KQ W G1 H1 Q fl d := fun v H' G' s' p r => h v H' G' (s.trans s') (pu.trans p) (r.from s)
theorem KQt.flat {t : Nat} (h : KQt W G H Q t .f d) (g : Gd W G H) (tl : TL W H t) (r : R W G v d) : Q v H := h v H G g.step tl r
theorem KQt.from {G1 H1 : Hp} {t : Nat} (s : Step W G H G1 H1) (tl : TL W H1 t) (h : KQt W G H Q t fl d) : KQ W G1 H1 Q fl d := fun v H' G' s' pu r => h v H' G' (s.trans s') (pu t tl) (r.from s)
theorem KQt.step {G1 H1 : Hp} {t : Nat} (s : Step W G H G1 H1) (h : KQt W G H Q t fl d) : KQt W G1 H1 Q t fl d := fun v H' G' s' tl r => h v H' G' (s.trans s') tl (r.from s)
theorem RB.reads (I : Inv X pins σ H s) (hK : X.K = W.K) (hs : Sub G H) {u : Value} (h : RB W G H v d) (p : d.pure = true) (r : RelV v u) : ∃ as, Reads s.heap u d.py as := by
  rcases h with h | ⟨q, rfl, n, c⟩
  · exact h.reads I hK hs p r
  · obtain rfl := r
    cases d with
    | lst ds =>
      obtain ⟨xs, h1, r1⟩ := c
      obtain ⟨its, ri, ⟨o, n, ho, hc, _, hd⟩, _⟩ := I.list (SqL.of h1)
      have p' : (isPyL ds && PyData.plainAll (pyL ds)) = true := by
        simpa [D.pure, D.isPy, D.py, PyData.plain] using p
      obtain ⟨as, ra⟩ := RL.reads I hK hs r1 p' ri
      exact ⟨_, .list ho hc hd (by simpa using ra)⟩
    | dct ds => simp [D.pure, D.py, PyData.plain] at p
    | obj _ _ => simp [D.pure, D.isPy] at p
    | slf _ _ _ => simp [D.pure, D.isPy] at p
    | _ => exact c.elim
theorem D.pure_plain (h : d.pure = true) : d.py.plain = true := by
  unfold D.pure at h; simp only [Bool.and_eq_true] at h; exact h.2
end
end Lk
set_option autoImplicit false
set_option linter.all false
namespace Lk
open PySem L2
/-! ### keys -/
mutual
theorem nk_eqv : ∀ (d e : D) (m n : NestedKey), d.nk = some m → e.nk = some n → PyData.eqv d.py e.py = decide (m = n)
  | .non, e, m, n, h1, h2 => by
    simp only [D.nk, Option.some.injEq] at h1; subst h1
    cases e <;> simp only [D.nk, Option.some.injEq, Option.map_eq_some_iff, reduceCtorEq] at h2 <;> first | (subst h2; simp [D.py, PyData.eqv]) | (obtain ⟨_, _, rfl⟩ := h2; simp [D.py, PyData.eqv])
  | .bl b, e, m, n, h1, h2 => by
    simp only [D.nk, Option.some.injEq] at h1; subst h1
    cases e <;> simp only [D.nk, Option.some.injEq, Option.map_eq_some_iff, reduceCtorEq] at h2 <;> first | (subst h2; simp [D.py, PyData.eqv]) | (obtain ⟨_, _, rfl⟩ := h2; simp [D.py, PyData.eqv])
    · rename_i b'; cases b <;> cases b' <;> rfl
    · rename_i i; cases b <;> (rw [Bool.eq_iff_iff]; simp)
  | .int b, e, m, n, h1, h2 => by
    simp only [D.nk, Option.some.injEq] at h1; subst h1
    cases e <;> simp only [D.nk, Option.some.injEq, Option.map_eq_some_iff, reduceCtorEq] at h2 <;> first | (subst h2; simp [D.py, PyData.eqv]) | (obtain ⟨_, _, rfl⟩ := h2; simp [D.py, PyData.eqv])
    · rw [Bool.eq_iff_iff]; simp
    · rw [Bool.eq_iff_iff]; simp
  | .str b, e, m, n, h1, h2 => by
    simp only [D.nk, Option.some.injEq] at h1; subst h1
    cases e <;> simp only [D.nk, Option.some.injEq, Option.map_eq_some_iff, reduceCtorEq] at h2 <;> first | (subst h2; simp [D.py, PyData.eqv]) | (obtain ⟨_, _, rfl⟩ := h2; simp [D.py, PyData.eqv])
    · rw [Bool.eq_iff_iff]; simp
  | .tup l, e, m, n, h1, h2 => by
    simp only [D.nk, Option.map_eq_some_iff] at h1
    obtain ⟨ms, h1, rfl⟩ := h1
    cases e <;> simp only [D.nk, Option.some.injEq, Option.map_eq_some_iff, reduceCtorEq] at h2 <;> first | (subst h2; simp [D.py, PyData.eqv]) | skip
    · obtain ⟨ns, h2, rfl⟩ := h2
      simp only [D.py, PyData.eqv, NestedKey.tup.injEq]
      exact nkL_eqv l _ ms ns h1 h2
  | .lst _, _, _, _, h1, _ => by simp [D.nk] at h1
  | .dct _, _, _, _, h1, _ => by simp [D.nk] at h1
  | .dcl _, _, _, _, h1, _ => by simp [D.nk] at h1
  | .obj _ _, _, _, _, h1, _ => by simp [D.nk] at h1
  | .slf _ _ _, _, _, _, h1, _ => by simp [D.nk] at h1
  | .stt, _, _, _, h1, _ => by simp [D.nk] at h1
  | .scr _, _, _, _, h1, _ => by simp [D.nk] at h1
  | .fn _, _, _, _, h1, _ => by simp [D.nk] at h1
  | .cls _, _, _, _, h1, _ => by simp [D.nk] at h1
  | .exc _ _, _, _, _, h1, _ => by simp [D.nk] at h1
  | .loc _ _, _, _, _, h1, _ => by simp [D.nk] at h1
  | .clo _ _, _, _, _, h1, _ => by simp [D.nk] at h1
theorem nkL_eqv : ∀ (d e : List D) (m n : List NestedKey), nkL d = some m → nkL e = some n → PyData.eqvAll (pyL d) (pyL e) = decide (m = n)
  | [], e, m, n, h1, h2 => by
    simp only [nkL, Option.some.injEq] at h1; subst h1
    cases e with
    | nil => simp only [nkL, Option.some.injEq] at h2; subst h2; simp [pyL, PyData.eqvAll]
    | cons x r =>
      simp only [nkL] at h2
      split at h2
      · cases h2; simp [pyL, PyData.eqvAll]
      · cases h2
  | d :: ds, e, m, n, h1, h2 => by
    simp only [nkL] at h1
    split at h1
    · rename_i a b ha hb
      cases h1
      cases e with
      | nil => simp only [nkL, Option.some.injEq] at h2; subst h2; simp [pyL, PyData.eqvAll]
      | cons x r =>
        simp only [nkL] at h2
        split at h2
        · rename_i a' b' ha' hb'
          cases h2
          simp only [pyL, PyData.eqvAll, List.cons.injEq]
          rw [nk_eqv d x a a' ha ha', nkL_eqv ds r b b' hb hb', Bool.decide_and]
        · cases h2
    · cases h1
end
section
variable {X : Cx} {W : Wd} {pins : List (Addr × Obj)} {σ : L2.St} {G H : Hp} {s : Shared}
mutual
theorem R.nested (I : Inv X pins σ H s) (hK : X.K = W.K) (hs : Sub G H) : ∀ {v d n u}, R W G v d → D.nk d = some n → RelV v u → NestedIs s.heap n u
  | _, _, _, _, .non, e, r => by simp only [D.nk, Option.some.injEq] at e; subst e; cases r; exact .none
  | _, _, _, _, .bl b, e, r => by simp only [D.nk, Option.some.injEq] at e; subst e; cases r; exact .bool rfl
  | _, _, _, _, .int i, e, r => by simp only [D.nk, Option.some.injEq] at e; subst e; obtain ⟨t, rfl⟩ := r; exact .int i t
  | _, _, _, _, .str i, e, r => by simp only [D.nk, Option.some.injEq] at e; subst e; obtain ⟨t, rfl⟩ := r; exact .text i t
  | _, _, _, _, .tup h q, e, r => by
    obtain rfl := r
    simp only [D.nk, Option.map_eq_some_iff] at e
    obtain ⟨ms, e, rfl⟩ := e
    have h' := hs.sqt h
    rw [← hK] at h'
    obtain ⟨its, ri, ⟨o, ho, hc, n, hd⟩, _⟩ := I.tuple h'
    exact .tup ho hc hd (by simpa using RL.nested I hK hs q e ri)
  | _, _, _, _, .lst _ _, e, _ => by simp [D.nk] at e
  | _, _, _, _, .dk _ _, e, _ => by simp [D.nk] at e
  | _, _, _, _, .dx _ _, e, _ => by simp [D.nk] at e
  | _, _, _, _, .dl _ _, e, _ => by simp [D.nk] at e
  | _, _, _, _, .dlx _ _, e, _ => by simp [D.nk] at e
  | _, _, _, _, .obj _ _ _ _, e, _ => by simp [D.nk] at e
  | _, _, _, _, .slf _ _ _ _, e, _ => by simp [D.nk] at e
  | _, _, _, _, .stt _ _ _, e, _ => by simp [D.nk] at e
  | _, _, _, _, .scr _, e, _ => by simp [D.nk] at e
  | _, _, _, _, .fn _, e, _ => by simp [D.nk] at e
  | _, _, _, _, .cls _, e, _ => by simp [D.nk] at e
theorem RL.nested (I : Inv X pins σ H s) (hK : X.K = W.K) (hs : Sub G H) : ∀ {vs ds ns us}, RL W G vs ds → nkL ds = some ns → Vals vs us → NestedAll s.heap ns us
  | _, _, _, _, .nil, e, r => by simp only [nkL, Option.some.injEq] at e; subst e; cases r; exact .nil
  | _, _, _, _, .cons h q, e, r => by
    simp only [nkL] at e
    cases r with
    | cons r1 r2 =>
      split at e
      · rename_i a b ha hb
        cases e
        exact .cons (R.nested I hK hs h ha r1) (RL.nested I hK hs q hb r2)
      · cases e
end
end
/-! ### entries -/
theorem RX.at {W : Wd} {G : Hp} {kd : D} {n : NestedKey} (hn : kd.nk = some n) : ∀ {xs ds}, RX W G xs ds →
    (∀ d, keyAt ds kd = some d → ∃ a u v, atKey xs n = some (a, u) ∧ RelV v u ∧ R W G v d) ∧ (keyAt ds kd = none → atKey xs n = none)
  | _, _, .nil => ⟨fun d e => by simp [keyAt] at e, fun _ => rfl⟩
  | _, _, .cons (nk := m) (a := a) (u := u) (kd := kd') (v := v) (d := d') h1 _ h2 h3 h4 r => by
    have ih := RX.at hn r
    have q := nk_eqv kd' kd m n h1 hn
    by_cases e : m = n
    · subst e
      rw [decide_eq_true rfl] at q
      refine ⟨fun d ed => ?_, fun ed => ?_⟩
      · simp only [keyAt, List.find?_cons, q, Option.map_some, Option.some.injEq] at ed
        subst ed
        exact ⟨a, u, v, by simp [atKey], h3, h4⟩
      · simp [keyAt, List.find?_cons, q] at ed
    · rw [decide_eq_false e] at q
      refine ⟨fun d ed => ?_, fun ed => ?_⟩
      · simp only [keyAt, List.find?_cons, q] at ed
        obtain ⟨a', u', v', z1, z2, z3⟩ := ih.1 d ed
        exact ⟨a', u', v', by simpa [atKey, List.find?_cons, e] using z1, z2, z3⟩
      · simp only [keyAt, List.find?_cons, q] at ed
        have z := ih.2 ed
        simpa [atKey, List.find?_cons, e] using z
theorem RX.length {W : Wd} {G : Hp} : ∀ {xs ds}, RX W G xs ds → xs.length = ds.length
  | _, _, .nil => rfl
  | _, _, .cons _ _ _ _ _ r => by rw [List.length_cons, List.length_cons, RX.length r]
theorem RX.append {W : Wd} {G : Hp} : ∀ {xs ds ys es}, RX W G xs ds → RX W G ys es → RX W G (xs ++ ys) (ds ++ es)
  | _, _, _, _, .nil, h => h
  | _, _, _, _, .cons a b c d e r, h => .cons a b c d e (RX.append r h)
theorem RX.map {W : Wd} {G : Hp} {kd y : D} {n : NestedKey} {v : V} {u : Value} (hn : kd.nk = some n) (hr : RelV v u) (hv : R W G v y) : ∀ {xs ds}, RX W G xs ds →
    RX W G (xs.map (putAt n u)) (ds.map fun p => if PyData.eqv p.1.py kd.py = true then (p.1, y) else p)
  | _, _, .nil => .nil
  | _, _, .cons (nk := m) (a := a) (u := u') (kd := kd') (v := v') (d := d') h1 h0 h2 h3 h4 r => by
    have ih := RX.map hn hr hv r
    have q := nk_eqv kd' kd m n h1 hn
    rw [List.map_cons, List.map_cons]
    by_cases e : m = n
    · subst e
      rw [decide_eq_true rfl] at q
      simp only [q, if_true, putAt]
      exact .cons h1 h0 h2 hr hv ih
    · rw [decide_eq_false e] at q
      simp only [q, putAt, if_neg e]
      exact .cons h1 h0 h2 h3 h4 ih
theorem keyAt_any (ds : List (D × D)) (kd : D) : (ds.any fun p => PyData.eqv p.1.py kd.py) = (keyAt ds kd).isSome := by
  unfold keyAt
  rw [Option.isSome_map]
  exact (List.find?_isSome (p := fun p : D × D => PyData.eqv p.1.py kd.py) (xs := ds) |> fun h => by rw [Bool.eq_iff_iff, List.any_eq_true]; exact h.symm)
theorem RX.put {W : Wd} {G : Hp} {kd y : D} {n : NestedKey} {a : Addr} {v : V} {u : Value} (hn : kd.nk = some n) (h8 : n.depth ≤ 8) (ha : R W G (.ref a) kd) (hr : RelV v u) (hv : R W G v y) {xs ds} (r : RX W G xs ds) :
    RX W G (storedH xs n a u) (putK ds kd y) := by
  unfold storedH putK
  rw [keyAt_any]
  have q := RX.at hn r
  cases e : keyAt ds kd with
  | some d =>
    obtain ⟨a', u', v', z, _⟩ := q.1 d e
    rw [z]
    exact r.map hn hr hv
  | none =>
    rw [q.2 e]
    exact r.append (.cons hn h8 ha hr hv .nil)
/-! ### keys that are ints and texts -/
theorem key_nk {W : Wd} {G : Hp} {k : Key} {d : D} (h : R W G (kV k) d) : (∃ i, k = .inl i ∧ d = .int i) ∨ ∃ s, k = .inr s ∧ d = .str s := by
  cases k with
  | inl i => cases h; exact .inl ⟨i, rfl, rfl⟩
  | inr s => cases h; exact .inr ⟨s, rfl, rfl⟩
theorem key_eqv {W : Wd} {G : Hp} {k j : Key} {d e : D} (h : R W G (kV k) d) (h' : R W G (kV j) e) : PyData.eqv d.py e.py = decide (k = j) := by
  rcases key_nk h with ⟨i, rfl, rfl⟩ | ⟨i, rfl, rfl⟩ <;> rcases key_nk h' with ⟨j, rfl, rfl⟩ | ⟨j, rfl, rfl⟩ <;> simp [D.py, PyData.eqv] <;> (rw [Bool.eq_iff_iff]; simp)
theorem RK.at {W : Wd} {G : Hp} {kd : D} {k : Key} (hn : R W G (kV k) kd) : ∀ {xs ds}, RK W G xs ds →
    (∀ d, keyAt ds kd = some d → ∃ v, valV xs k = some v ∧ R W G v d) ∧ (keyAt ds kd = none → valV xs k = none)
  | _, _, .nil => ⟨fun d e => by simp [keyAt] at e, fun _ => rfl⟩
  | _, _, .cons (k := m) (kd := kd') (v := v) (d := d') h1 h4 r => by
    have ih := RK.at hn r
    have q := key_eqv h1 hn
    by_cases e : m = k
    · subst e
      rw [decide_eq_true rfl] at q
      refine ⟨fun d ed => ?_, fun ed => ?_⟩
      · simp only [keyAt, List.find?_cons, q, Option.map_some, Option.some.injEq] at ed
        subst ed
        exact ⟨v, valV_pos rfl, h4⟩
      · simp [keyAt, List.find?_cons, q] at ed
    · rw [decide_eq_false e] at q
      refine ⟨fun d ed => ?_, fun ed => ?_⟩
      · simp only [keyAt, List.find?_cons, q] at ed
        obtain ⟨v', z1, z3⟩ := ih.1 d ed
        exact ⟨v', (valV_neg e).trans z1, z3⟩
      · simp only [keyAt, List.find?_cons, q] at ed
        exact (valV_neg e).trans (ih.2 ed)
theorem RK.length {W : Wd} {G : Hp} : ∀ {xs ds}, RK W G xs ds → xs.length = ds.length
  | _, _, .nil => rfl
  | _, _, .cons _ _ r => by rw [List.length_cons, List.length_cons, RK.length r]
theorem RK.append {W : Wd} {G : Hp} : ∀ {xs ds ys es}, RK W G xs ds → RK W G ys es → RK W G (xs ++ ys) (ds ++ es)
  | _, _, _, _, .nil, h => h
  | _, _, _, _, .cons a b r, h => .cons a b (RK.append r h)
theorem RK.map {W : Wd} {G : Hp} {kd y : D} {k : Key} {v : V} (hn : R W G (kV k) kd) (hv : R W G v y) : ∀ {xs ds}, RK W G xs ds →
    RK W G (xs.map fun kv => if kv.1 = k then (kv.1, v) else kv) (ds.map fun p => if PyData.eqv p.1.py kd.py = true then (p.1, y) else p)
  | _, _, .nil => .nil
  | _, _, .cons (k := m) (kd := kd') (v := v') (d := d') h1 h4 r => by
    have ih := RK.map hn hv r
    have q := key_eqv h1 hn
    rw [List.map_cons, List.map_cons]
    by_cases e : m = k
    · subst e
      rw [decide_eq_true rfl] at q
      simp only [q, if_true]
      exact .cons h1 hv ih
    · rw [decide_eq_false e] at q
      simp only [q, if_neg e]
      exact .cons h1 h4 ih
theorem RK.put {W : Wd} {G : Hp} {kd y : D} {k : Key} {v : V} (hn : R W G (kV k) kd) (hv : R W G v y) {xs ds} (r : RK W G xs ds) :
    RK W G (L2.putK xs k v) (putK ds kd y) := by
  unfold L2.putK putK
  rw [keyAt_any, valV_any]
  have q := RK.at hn r
  cases e : keyAt ds kd with
  | some d =>
    obtain ⟨v', z, _⟩ := q.1 d e
    rw [z]
    exact r.map hn hv
  | none =>
    rw [q.2 e]
    exact r.append (.cons hn hv .nil)
end Lk
set_option autoImplicit false
set_option linter.all false
namespace Lk
open PySem L2
section
variable {X : Cx} {W : Wd} (ok : XW X W) {pins : List (Addr × Obj)} {σ : L2.St} {G H : Hp} {s : Shared} {p : Addr} {xs : List (NestedKey × Addr × Value)} {ds : List (D × D)}
include ok
theorem RX.ofH (I : Inv X pins σ H s) (g : Sub G H) : ∀ {xs : List (NestedKey × Addr × Value)} {ds : List (D × D)}, RX W G xs ds → ∀ x ∈ xs, (nestedKind X.prog X.w).is s.heap x.1 x.2.1
  | _, _, .nil, x, hx => by cases hx
  | _, _, .cons h1 h0 h2 h3 h4 r, x, hx => by
    rcases List.mem_cons.mp hx with rfl | hx
    · exact ⟨R.nested I ok.K g h2 h1 rfl, h0⟩
    · exact RX.ofH I g r x hx
theorem dic_h (I : Inv X pins σ H s) (g : Sub G H) (hp : Rd H p (DicO W.P W.w p xs)) (r : RX W G xs ds) :
    s.heap.DictOfH (nestedKind X.prog X.w) p xs ∧ (p == sysModules) = false ∧ xs.length ≤ sizeLine := by
  obtain ⟨⟨o, es, ep, h1, h2, h3, h4, h5, h6, h7⟩, _, _⟩ := hp.ok I.hok
  rw [← ok.P, ← ok.w] at h4
  exact ⟨⟨o, es, ep, h1, h2, h3, h4, RX.ofH ok I g r, h5⟩, h6, h7⟩
omit ok in
theorem dicO_ok {P : Program} {w : World} {H : Hp} {h : Heap} (hd : h.DictOfH (nestedKind P w) p xs) (hs : (p == sysModules) = false) (hl : xs.length ≤ sizeLine) : ObjOk P w H h p (DicO P w p xs) := by
  obtain ⟨o, es, ep, h1, h2, h3, h4, _, h5⟩ := hd
  refine ⟨⟨o, es, ep, h1, h2, h3, h4, h5, hs, hl⟩, ⟨o, h1⟩, fun a b ⟨o, es, ep, h1, h2, h3, h4, h5, h6, h7⟩ st => ⟨o, es, ep, st _ h1, h2, h3, h4, h5, h6, h7⟩⟩
theorem dic_is (I : Inv X pins σ H s) (g : Sub G H) {a : Addr} {kd : D} {n : NestedKey} (h : R W G (.ref a) kd) (hn : kd.nk = some n) (h8 : n.depth ≤ 8) : (nestedKind X.prog X.w).is s.heap n a := ⟨R.nested I ok.K g h hn rfl, h8⟩
theorem room1 : (nestedKind X.prog X.w).room X.A.in1 := by have := ok.hu; show X.A.units + 1 + 8 < cLine; omega
end
theorem isKey_kV {W : Wd} {G : Hp} {y : V} {d : D} (h : R W G y d) (e : d.isKey = true) : ∃ k : Key, y = kV k ∧ R W G (kV k) d := by
  cases h <;> simp [D.isKey] at e
  · exact ⟨.inl _, rfl, .int _⟩
  · exact ⟨.inr _, rfl, .str _⟩
theorem tupKey {W : Wd} {G : Hp} {y : V} {d : D} (r : R W G y d) (h : d.isTupKey = true) : ∃ n a, y = .ref a ∧ d.nk = some n ∧ n.depth ≤ 8 := by
  unfold D.isTupKey at h
  split at h
  · rename_i l
    split at h
    · rename_i ms e
      cases r with
      | tup _ _ => exact ⟨.tup ms, _, rfl, by simp [D.nk, e], of_decide_eq_true h⟩
    · cases h
  · cases h
theorem RK.keys {W : Wd} {G : Hp} : ∀ {xs ds}, RK W G xs ds → ds.all (fun p => p.1.isKey) = true
  | _, _, .nil => rfl
  | _, _, .cons h _ r => by
    rw [List.all_cons, RK.keys r, Bool.and_true]
    rcases key_nk h with ⟨i, rfl, rfl⟩ | ⟨i, rfl, rfl⟩ <;> rfl
theorem RX.keys {W : Wd} {G : Hp} : ∀ {xs ds}, RX W G xs ds → ds.all (fun p => !p.1.isKey) = true
  | _, _, .nil => rfl
  | _, _, .cons (kd := kd) _ _ h _ _ r => by
    rw [List.all_cons, RX.keys r, Bool.and_true]
    cases h <;> rfl
theorem both_nil {ds : List (D × D)} (h : ds.all (fun p => p.1.isKey) = true) (h' : ds.all (fun p => !p.1.isKey) = true) : ds = [] := by
  cases ds with
  | nil => rfl
  | cons p r => simp only [List.all_cons, Bool.and_eq_true, Bool.not_eq_true'] at h h'; rw [h.1] at h'; cases h'.1
section
variable {P : Program} {w : World} {h : Heap} {p : Addr}
theorem dictOf_nil (hd : h.DictOf (mixKind P w) p []) : h.DictOfH (nestedKind P w) p [] := by
  obtain ⟨o, es, ep, h1, h2, h3, h4, h5, h6⟩ := hd
  refine ⟨o, es, ep, h1, h2, h3, ?_, fun x hx => (by cases hx), List.nodup_nil⟩
  cases q : es.toList with
  | nil => rfl
  | cons e r => rw [q] at h5; cases h5
theorem dictOfH_nil (hd : h.DictOfH (nestedKind P w) p []) : h.DictOf (mixKind P w) p [] := by
  obtain ⟨o, es, ep, h1, h2, h3, h4, h5, h6⟩ := hd
  have e : es = #[] := by
    have := congrArg List.length h4
    simp at this
    simpa using this
  subst e
  exact ⟨o, _, ep, h1, h2, h3, fun _ he => by simp at he, Pairs.nil, List.nodup_nil⟩
end
/-- a dict as it stands at p, with the key x that fits it: by value, or by a tuple -/
inductive DicAt (X : Cx) (W : Wd) (G : Hp) (H : Hp) (h : Heap) (p : Addr) (ds : List (D × D)) (x : D) (y : V) : Prop
  | k {k : Key} {kvs : List (Key × V)} {vs : List (Key × Value)} : y = kV k → R W G (kV k) x → RK W G kvs ds → KV kvs vs → h.DictOf (mixKind X.prog X.w) p vs → (p == sysModules) = false → DicAt X W G H h p ds x y
  | t {n : NestedKey} {a : Addr} {xs : List (NestedKey × Addr × Value)} : y = .ref a → x.nk = some n → n.depth ≤ 8 → R W G (.ref a) x → RX W G xs ds → h.DictOfH (nestedKind X.prog X.w) p xs → (p == sysModules) = false → DicAt X W G H h p ds x y
section
variable {X : Cx} {W : Wd} (ok : XW X W) {pins : List (Addr × Obj)} {σ : L2.St} {G H : Hp} {s : Shared} {p : Addr} {ds : List (D × D)} {x : D} {y : V}
include ok
theorem dicAt (I : Inv X pins σ H s) (g : Sub G H) (h : Dr W G H p ds) (r : R W G y x) (ha : okAsk ds x = true) : DicAt X W G H s.heap p ds x y := by
  unfold okAsk at ha
  rcases h with ⟨kv, hp, rk⟩ | ⟨xs, hp, rx⟩
  · obtain ⟨_, hs, vs, rel, dd⟩ := dk_rd I.hok hp
    rw [Bool.or_eq_true, Bool.and_eq_true, Bool.and_eq_true] at ha
    rcases ha with ⟨h1, h2⟩ | ⟨h1, h2⟩
    · obtain ⟨k, e, q⟩ := isKey_kV r h1
      exact .k e q rk rel dd hs
    · obtain rfl := both_nil rk.keys h2
      cases rk
      cases rel
      obtain ⟨n, a, rfl, hn, h8⟩ := tupKey r h1
      exact .t rfl hn h8 r .nil (dictOf_nil dd) hs
  · obtain ⟨dd, hs, hl⟩ := dic_h ok I g hp rx
    rw [Bool.or_eq_true, Bool.and_eq_true, Bool.and_eq_true] at ha
    rcases ha with ⟨h1, h2⟩ | ⟨h1, h2⟩
    · obtain rfl := both_nil h2 rx.keys
      cases rx
      obtain ⟨k, e, q⟩ := isKey_kV r h1
      exact .k (kvs := []) (vs := []) e q .nil .nil (dictOfH_nil dd) hs
    · obtain ⟨n, a, rfl, hn, h8⟩ := tupKey r h1
      exact .t rfl hn h8 r rx dd hs
omit ok in
theorem RB.dctE (g : Sub G H) {v : V} {ds : List (D × D)} (h : RB W G H v (.dct ds)) : ∃ p, v = .ref p ∧ Dr W G H p ds := by
  rcases h with h | ⟨p, e, _, h⟩
  · cases h with
    | dk h r => exact ⟨_, rfl, .inl ⟨_, .inl (g _ _ h), r⟩⟩
    | dx h r => exact ⟨_, rfl, .inr ⟨_, .inl (g _ _ h), r⟩⟩
  · rcases h with ⟨kv, h, r⟩ | ⟨xs, h, r⟩
    · exact ⟨p, e, .inl ⟨_, .inl h, r⟩⟩
    · exact ⟨p, e, .inr ⟨_, .inl h, r⟩⟩
omit ok in
theorem RB.dclE (g : Sub G H) {v : V} {ds : List (D × D)} (h : RB W G H v (.dcl ds)) : ∃ p, v = .ref p ∧ Dr W G H p ds := by
  rcases h with h | ⟨p, e, _, h⟩
  · cases h with
    | dl h r => exact ⟨_, rfl, .inl ⟨_, .inr ⟨_, g _ _ h⟩, r⟩⟩
    | dlx h r => exact ⟨_, rfl, .inr ⟨_, .inr ⟨_, g _ _ h⟩, r⟩⟩
  · exact h.elim
theorem dic_getItem {u : Value} {d : D} {Q : Value → Shared → Prop} (I : Inv X pins σ H s) (g : Sub G H) (ry : RelV y u) (h : DicAt X W G H s.heap p ds x y) (hv : keyAt ds x = some d)
    (q : ∀ v w' s', Inv X pins σ H s' → RelV v w' → R W G v d → Q w' s') : wpAny (model X.prog X.w) X.A (getItem (.ref p) u) Q X.xe s := by
  cases h with
  | k e hk rk rel dd hs =>
    subst e
    obtain ⟨v, h1, h2⟩ := (RK.at hk rk).1 d hv
    obtain ⟨w', hw, rw'⟩ := RelO.some_of (v := v) (by rw [← h1]; exact rel.val _)
    exact wpAny_getItem_of (kV_is ry) dd.mapOf hw (q v w' _ (I.tok _) rw' h2)
  | t e hn h8 ha rx dd hs =>
    subst e
    obtain rfl := ry
    obtain ⟨a', u', v, h1, h2, h3⟩ := (RX.at hn rx).1 d hv
    exact wpAny_getItem_heap (room1 ok) (dic_is ok I g ha hn h8) dd h1 (q v u' _ (I.tok _) h2 h3)
theorem dic_in {u : Value} {Q : Value → Shared → Prop} (I : Inv X pins σ H s) (g : Sub G H) (ry : RelV y u) (h : DicAt X W G H s.heap p ds x y)
    (q : ∀ s', Inv X pins σ H s' → Q (.bool (keyAt ds x).isSome) s') : wpAny (model X.prog X.w) X.A (compareOp .In u (.ref p)) Q X.xe s := by
  cases h with
  | @k k kvs vs e hk rk rel dd hs =>
    subst e
    have e : (keyAt ds x).isSome = (valueAt vs k).isSome := by
      have z := RK.at hk rk
      cases q : keyAt ds x with
      | some d => obtain ⟨v, h1, _⟩ := z.1 d q; rw [← (rel.val _).isSome_eq, h1]; rfl
      | none => rw [← (rel.val _).isSome_eq, z.2 q]; rfl
    rw [e] at q
    exact wpAny_in_of (kV_is ry) hs dd.mapOf (q _ (I.tok _))
  | @t n a xs e hn h8 ha rx dd hs =>
    subst e
    obtain rfl := ry
    have e : (keyAt ds x).isSome = (atKey xs n).isSome := by
      have z := RX.at hn rx
      cases q : keyAt ds x with
      | some d => obtain ⟨a', u', v, h1, _⟩ := z.1 d q; rw [h1]; rfl
      | none => rw [z.2 q]; rfl
    rw [e] at q
    exact wpAny_in_heap (room1 ok) (dic_is ok I g ha hn h8) hs dd (q _ (I.tok _))
theorem dic_notIn {u : Value} {Q : Value → Shared → Prop} (I : Inv X pins σ H s) (g : Sub G H) (ry : RelV y u) (h : DicAt X W G H s.heap p ds x y)
    (q : ∀ s', Inv X pins σ H s' → Q (.bool !(keyAt ds x).isSome) s') : wpAny (model X.prog X.w) X.A (compareOp .NotIn u (.ref p)) Q X.xe s := by
  cases h with
  | @k k kvs vs e hk rk rel dd hs =>
    subst e
    have e : (keyAt ds x).isSome = (valueAt vs k).isSome := by
      have z := RK.at hk rk
      cases q : keyAt ds x with
      | some d => obtain ⟨v, h1, _⟩ := z.1 d q; rw [← (rel.val _).isSome_eq, h1]; rfl
      | none => rw [← (rel.val _).isSome_eq, z.2 q]; rfl
    rw [e] at q
    exact wpAny_notIn_of (kV_is ry) hs dd.mapOf (q _ (I.tok _))
  | @t n a xs e hn h8 ha rx dd hs =>
    subst e
    obtain rfl := ry
    have e : (keyAt ds x).isSome = (atKey xs n).isSome := by
      have z := RX.at hn rx
      cases q : keyAt ds x with
      | some d => obtain ⟨a', u', v, h1, _⟩ := z.1 d q; rw [h1]; rfl
      | none => rw [z.2 q]; rfl
    rw [e] at q
    show wpAny _ _ (do return .bool (!(← contains (.ref p) (.ref a)))) Q X.xe s
    exact wpAny_bind (wpAny_contains_heap (room1 ok) (dic_is ok I g ha hn h8) hs dd (wpAny_pure (q _ (I.tok _))))
end
end Lk
set_option autoImplicit false
set_option linter.all false
namespace Lk
open PySem L2
def rD2 (W : Wd) (op : D → D → K1 → Prop) : R2 := fun x y H Q => ∃ G d1 d2, Gd W G H ∧ R W G x d1 ∧ R W G y d2 ∧ op d1 d2 (KQ W G H Q)
def rB2 (W : Wd) (op : D → D → (Bool → Prop) → Prop) : R2 := fun x y H Q => ∃ G d1 d2, Gd W G H ∧ RB W G H x d1 ∧ RB W G H y d2 ∧ op d1 d2 fun b => Q (.bl b) H
section
variable {X : Cx} {W : Wd} (ok : XW X W)
include ok
theorem op_eqD : OpR X (compareOp .Eq) (rB2 W eqD) := by
  intro pins s σ H x y v u Q I rx ry ⟨G, d1, d2, g, h1, h2, p1, p2, hd, h⟩
  obtain ⟨as, r1⟩ := h1.reads I ok.K g.sub p1 rx
  obtain ⟨bs, r2⟩ := h2.reads I ok.K g.sub p2 ry
  exact SeqAt.eq_plain r1 r2 (D.pure_plain p1) (D.pure_plain p2) (by have := ok.hu; omega) ⟨V.bl _, H, I, rfl, h⟩
theorem op_neD : OpR X (compareOp .NotEq) (rB2 W fun a b k => eqD a b fun r => k (!r)) := by
  intro pins s σ H x y v u Q I rx ry ⟨G, d1, d2, g, h1, h2, p1, p2, hd, h⟩
  obtain ⟨as, r1⟩ := h1.reads I ok.K g.sub p1 rx
  obtain ⟨bs, r2⟩ := h2.reads I ok.K g.sub p2 ry
  exact SeqAt.ne_plain r1 r2 (D.pure_plain p1) (D.pure_plain p2) (by have := ok.hu; omega) ⟨V.bl _, H, I, rfl, h⟩
theorem pureL_tup {l : List D} (h : pureL l = true) : (D.tup l).pure = true := by simpa [D.pure, D.isPy, D.py, PyData.plain, pureL] using h
theorem pureL_lst {l : List D} (h : pureL l = true) : (D.lst l).pure = true := by simpa [D.pure, D.isPy, D.py, PyData.plain, pureL] using h
omit ok in
theorem pureL_plain {l : List D} (h : pureL l = true) : PyData.plainAll (pyL l) = true := by
  unfold pureL at h; simp only [Bool.and_eq_true] at h; exact h.2
omit ok in
theorem RB.int {G H : Hp} {x : V} {i : Int} (h : RB W G H x (.int i)) : x = .int i := by
  rcases h with h | ⟨p, _, _, h⟩
  · cases h; rfl
  · exact h.elim
omit ok in
theorem RB.strD {G H : Hp} {x : V} {i : Str} (h : RB W G H x (.str i)) : x = .str i := by
  rcases h with h | ⟨p, _, _, h⟩
  · cases h; rfl
  · exact h.elim
theorem op_inD : OpR X (compareOp .In) (rB2 W inD) := by
  intro pins s σ H x y v u Q I rx ry ⟨G, d1, d2, g, h1, h2, h⟩
  cases d2 with
  | tup l =>
    obtain ⟨p1, p2, hd, h⟩ := h
    obtain ⟨as, r1⟩ := h1.reads I ok.K g.sub p1 rx
    obtain ⟨bs, r2⟩ := h2.reads I ok.K g.sub (pureL_tup ok p2) ry
    exact SeqAt.in_tuple_data (by simpa only [D.py] using r2) r1 (pureL_plain p2) (D.pure_plain p1) (by have := ok.hu; omega) ⟨V.bl _, H, I, rfl, h⟩
  | lst l =>
    obtain ⟨p1, p2, hd, h⟩ := h
    obtain ⟨as, r1⟩ := h1.reads I ok.K g.sub p1 rx
    obtain ⟨bs, r2⟩ := h2.reads I ok.K g.sub (pureL_lst ok p2) ry
    exact SeqAt.in_list_data (by simpa only [D.py] using r2) r1 (pureL_plain p2) (D.pure_plain p1) (by have := ok.hu; omega) ⟨V.bl _, H, I, rfl, h⟩
  | str z =>
    cases d1 with
    | str z' =>
      obtain rfl := h1.strD
      obtain rfl := h2.strD
      exact op_in_str pins s σ H _ _ v u Q I rx ry ⟨_, _, rfl, rfl, h⟩
    | _ => exact h.elim
  | dct l =>
    obtain ⟨p, rfl, oc⟩ := RB.dctE g.sub h2
    obtain rfl := ry
    obtain ⟨hk, h⟩ := h
    obtain ⟨r1⟩ : Nonempty (R W G x d1) := by
      rcases h1 with r | ⟨q, e, n, oc'⟩
      · exact ⟨r⟩
      · exfalso
        unfold okAsk at hk
        cases d1 <;> first | exact oc'.elim | simp [D.isKey, D.isTupKey] at hk
    exact dic_in ok I g.sub rx (dicAt ok I g.sub oc r1 hk) fun s' I' => ⟨V.bl _, H, I', rfl, h⟩
  | dcl l =>
    obtain ⟨p, rfl, oc⟩ := RB.dclE g.sub h2
    obtain rfl := ry
    obtain ⟨hk, h⟩ := h
    obtain ⟨r1⟩ : Nonempty (R W G x d1) := by
      rcases h1 with r | ⟨q, e, n, oc'⟩
      · exact ⟨r⟩
      · exfalso
        unfold okAsk at hk
        cases d1 <;> first | exact oc'.elim | simp [D.isKey, D.isTupKey] at hk
    exact dic_in ok I g.sub rx (dicAt ok I g.sub oc r1 hk) fun s' I' => ⟨V.bl _, H, I', rfl, h⟩
  | _ => exact h.elim
theorem op_notInD : OpR X (compareOp .NotIn) (rB2 W fun a b k => inD a b fun r => k (!r)) := by
  intro pins s σ H x y v u Q I rx ry ⟨G, d1, d2, g, h1, h2, h⟩
  cases d2 with
  | tup l =>
    obtain ⟨p1, p2, hd, h⟩ := h
    obtain ⟨as, r1⟩ := h1.reads I ok.K g.sub p1 rx
    obtain ⟨bs, r2⟩ := h2.reads I ok.K g.sub (pureL_tup ok p2) ry
    exact SeqAt.notIn_tuple_data (by simpa only [D.py] using r2) r1 (pureL_plain p2) (D.pure_plain p1) (by have := ok.hu; omega) ⟨V.bl _, H, I, rfl, h⟩
  | lst l =>
    obtain ⟨p1, p2, hd, h⟩ := h
    obtain ⟨as, r1⟩ := h1.reads I ok.K g.sub p1 rx
    obtain ⟨bs, r2⟩ := h2.reads I ok.K g.sub (pureL_lst ok p2) ry
    exact SeqAt.notIn_list_data (by simpa only [D.py] using r2) r1 (pureL_plain p2) (D.pure_plain p1) (by have := ok.hu; omega) ⟨V.bl _, H, I, rfl, h⟩
  | str z =>
    cases d1 with
    | str z' =>
      obtain rfl := h1.strD
      obtain rfl := h2.strD
      exact op_notin_str pins s σ H _ _ v u Q I rx ry ⟨_, _, rfl, rfl, h⟩
    | _ => exact h.elim
  | dct l =>
    obtain ⟨p, rfl, oc⟩ := RB.dctE g.sub h2
    obtain rfl := ry
    obtain ⟨hk, h⟩ := h
    obtain ⟨r1⟩ : Nonempty (R W G x d1) := by
      rcases h1 with r | ⟨q, e, n, oc'⟩
      · exact ⟨r⟩
      · exfalso
        unfold okAsk at hk
        cases d1 <;> first | exact oc'.elim | simp [D.isKey, D.isTupKey] at hk
    exact dic_notIn ok I g.sub rx (dicAt ok I g.sub oc r1 hk) fun s' I' => ⟨V.bl _, H, I', rfl, h⟩
  | dcl l =>
    obtain ⟨p, rfl, oc⟩ := RB.dclE g.sub h2
    obtain rfl := ry
    obtain ⟨hk, h⟩ := h
    obtain ⟨r1⟩ : Nonempty (R W G x d1) := by
      rcases h1 with r | ⟨q, e, n, oc'⟩
      · exact ⟨r⟩
      · exfalso
        unfold okAsk at hk
        cases d1 <;> first | exact oc'.elim | simp [D.isKey, D.isTupKey] at hk
    exact dic_notIn ok I g.sub rx (dicAt ok I g.sub oc r1 hk) fun s' I' => ⟨V.bl _, H, I', rfl, h⟩
  | _ => exact h.elim
theorem op_cmpD (op : CmpOp) : OpR X (compareOp op) (rB2 W (cmpD op)) := by
  cases op with
  | Eq => exact op_eqD ok
  | NotEq => exact op_neD ok
  | In => exact op_inD ok
  | NotIn => exact op_notInD ok
  | Is => intro pins s σ H x y v u Q I rx ry ⟨G, d1, d2, g, h1, h2, h⟩; exact h.elim
  | IsNot => intro pins s σ H x y v u Q I rx ry ⟨G, d1, d2, g, h1, h2, h⟩; exact h.elim
  | Lt =>
    intro pins s σ H x y v u Q I rx ry ⟨G, d1, d2, g, h1, h2, h⟩
    unfold cmpD at h
    simp only at h
    split at h
    · obtain rfl := h1.int
      obtain rfl := h2.int
      exact op_lt pins s σ H _ _ v u Q I rx ry ⟨_, _, rfl, rfl, h⟩
    · obtain ⟨p1, p2, ha, hn, hd, h⟩ := h
      obtain ⟨as, r1⟩ := h1.reads I ok.K g.sub p1 rx
      obtain ⟨bs, r2⟩ := h2.reads I ok.K g.sub p2 ry
      exact PySem.W.lt_data r1 r2 ha hn (by have := ok.hu; omega) ⟨V.bl _, H, I, rfl, h⟩
  | LtE =>
    intro pins s σ H x y v u Q I rx ry ⟨G, d1, d2, g, h1, h2, h⟩
    unfold cmpD at h
    simp only at h
    split at h
    · obtain rfl := h1.int
      obtain rfl := h2.int
      exact op_le pins s σ H _ _ v u Q I rx ry ⟨_, _, rfl, rfl, h⟩
    · exact h.elim
  | Gt =>
    intro pins s σ H x y v u Q I rx ry ⟨G, d1, d2, g, h1, h2, h⟩
    unfold cmpD at h
    simp only at h
    split at h
    · obtain rfl := h1.int
      obtain rfl := h2.int
      exact op_gt pins s σ H _ _ v u Q I rx ry ⟨_, _, rfl, rfl, h⟩
    · exact h.elim
  | GtE =>
    intro pins s σ H x y v u Q I rx ry ⟨G, d1, d2, g, h1, h2, h⟩
    unfold cmpD at h
    simp only at h
    split at h
    · obtain rfl := h1.int
      obtain rfl := h2.int
      exact op_ge pins s σ H _ _ v u Q I rx ry ⟨_, _, rfl, rfl, h⟩
    · exact h.elim
end
end Lk
namespace Lk
open PySem L2
section
variable {W : Wd} {G : Hp}
theorem R.intE {x : V} {i : Int} (h : R W G x (.int i)) : x = .int i := by cases h; rfl
theorem R.strE {x : V} {i : Str} (h : R W G x (.str i)) : x = .str i := by cases h; rfl
theorem R.blE {x : V} {i : Bool} (h : R W G x (.bl i)) : x = .bl i := by cases h; rfl
theorem R.tupE {x : V} {l : List D} (h : R W G x (.tup l)) : ∃ a xs, x = .ref a ∧ SqT W.K G a xs ∧ RL W G xs l := by
  cases h with | tup h r => exact ⟨_, _, rfl, h, r⟩
theorem R.lstE {x : V} {l : List D} (h : R W G x (.lst l)) : ∃ a xs, x = .ref a ∧ G a = some (.lst xs) ∧ RL W G xs l := by
  cases h with | lst h r => exact ⟨_, _, rfl, h, r⟩
end
theorem replicate_flat_length {α : Type} (l : List α) (n : Nat) : (List.replicate n l).flatten.length = n * l.length := by
  induction n with
  | zero => simp
  | succ n ih => rw [List.replicate_succ, List.flatten_cons, List.length_append, ih, Nat.succ_mul, Nat.add_comm]
section
variable {X : Cx} {W : Wd} (ok : XW X W)
include ok
theorem op_addD : OpR X (binaryOp .Add) (rD2 W addD) := by
  intro pins s σ H x y v u Q I rx ry ⟨G, d1, d2, g, h1, h2, h⟩
  unfold addD at h
  split at h
  · obtain rfl := h1.intE
    obtain rfl := h2.intE
    exact op_add pins s σ H _ _ v u Q I rx ry ⟨_, _, rfl, rfl, h.flat g (.int _)⟩
  · obtain rfl := h1.strE
    obtain rfl := h2.strE
    exact op_add_str pins s σ H _ _ v u Q I rx ry ⟨_, _, rfl, rfl, h.1, h.2.flat g (.str _)⟩
  · rename_i l1 l2
    obtain ⟨a, xs, rfl, ha, ra⟩ := h1.tupE
    obtain ⟨b, ys, rfl, hb, rb⟩ := h2.tupE
    refine op_catA pins s σ H _ _ v u Q I rx ry ⟨a, b, xs, ys, rfl, rfl, by rw [ok.K]; exact g.sub.sqt ha, by rw [ok.K]; exact g.sub.sqt hb, by rw [ra.length, rb.length]; exact h.1, fun e => ?_, fun _ e => ?_, fun _ _ p hp => ?_⟩
    · have e2 : l1 = [] := by have := ra.length; rw [e] at this; exact List.eq_nil_of_length_eq_zero this.symm
      subst e2
      exact h.2.flat g (.tup hb (by simpa using rb))
    · have e2 : l2 = [] := by have := rb.length; rw [e] at this; exact List.eq_nil_of_length_eq_zero this.symm
      subst e2
      exact h.2.flat g (.tup ha (by simpa using ra))
    · exact h.2.tup g hp (ra.append rb)
  · obtain ⟨a, xs, rfl, ha, ra⟩ := h1.lstE
    obtain ⟨b, ys, rfl, hb, rb⟩ := h2.lstE
    exact op_cat pins s σ H _ _ v u Q I rx ry ⟨a, b, xs, ys, rfl, rfl, g.sub _ _ ha, g.sub _ _ hb, by rw [ra.length, rb.length]; exact h.1, fun p hp => h.2.lst g hp (ra.append rb)⟩
  · exact h.elim
theorem op_mulD : OpR X (binaryOp .Mult) (rD2 W mulD) := by
  intro pins s σ H x y v u Q I rx ry ⟨G, d1, d2, g, h1, h2, h⟩
  unfold mulD at h
  split at h
  · obtain rfl := h1.intE
    obtain rfl := h2.intE
    exact op_mulW pins s σ H _ _ v u Q I rx ry ⟨_, _, rfl, rfl, h.1, h.2.flat g (.int _)⟩
  · obtain ⟨a, xs, rfl, ha, ra⟩ := h1.tupE
    obtain rfl := h2.intE
    obtain ⟨hn, h2, h3, h4, h⟩ := h
    refine op_repT pins s σ H _ _ v u Q I rx ry ⟨a, _, xs, rfl, rfl, by rw [ok.K]; exact g.sub.sqt ha, fun e => hn ?_, h2, h3, by rw [ra.length]; exact h4, fun p hp => h.tup g hp (ra.rep _)⟩
    have := ra.length
    rw [e] at this
    exact List.eq_nil_of_length_eq_zero this.symm
  · obtain ⟨a, xs, rfl, ha, ra⟩ := h1.lstE
    obtain rfl := h2.intE
    obtain ⟨h2, h3, h4, h⟩ := h
    exact op_rep pins s σ H _ _ v u Q I rx ry ⟨a, _, xs, rfl, rfl, g.sub _ _ ha, by omega, by omega, by rw [ra.length]; exact h2, fun p hp => h.lst g hp (ra.rep _)⟩
  · exact h.elim
omit ok in
theorem op_int2 {op : Operator} {C : Int → Int → Prop} {f : Int → Int → Int} (o : OpR X (binaryOp op) (rI C fun i j => .int (f i j))) {opd : D → D → K1 → Prop}
    (ho : ∀ a b k, opd a b k → ∃ i j, a = .int i ∧ b = .int j ∧ C i j ∧ k .f (.int (f i j))) : OpR X (binaryOp op) (rD2 W opd) := by
  intro pins s σ H x y v u Q I rx ry ⟨G, d1, d2, g, h1, h2, h⟩
  obtain ⟨i, j, rfl, rfl, hc, h⟩ := ho _ _ _ h
  obtain rfl := h1.intE
  obtain rfl := h2.intE
  exact o pins s σ H _ _ v u Q I rx ry ⟨_, _, rfl, rfl, hc, h.flat g (.int _)⟩
theorem op_binD (op : Operator) : OpR X (binaryOp op) (rD2 W (binD op)) := by
  cases op with
  | Add => exact op_addD ok
  | Mult => exact op_mulD ok
  | Sub =>
    refine op_int2 (C := fun _ _ => True) (f := fun i j => i - j) (fun pins s σ H x y v u Q I rx ry ⟨i, j, a, b, _, q⟩ => op_sub pins s σ H x y v u Q I rx ry ⟨i, j, a, b, q⟩) fun a b k h => ?_
    unfold binD subD at h
    simp only at h
    split at h
    · exact ⟨_, _, rfl, rfl, True.intro, h⟩
    · exact h.elim
  | Mod =>
    refine op_int2 op_modN fun a b k h => ?_
    unfold binD modD at h
    simp only at h
    split at h
    · exact ⟨_, _, rfl, rfl, h.1, h.2⟩
    · exact h.elim
  | FloorDiv =>
    refine op_int2 op_fdivN fun a b k h => ?_
    unfold binD fdivD at h
    simp only at h
    split at h
    · exact ⟨_, _, rfl, rfl, h.1, h.2⟩
    · exact h.elim
  | Pow =>
    refine op_int2 op_pow fun a b k h => ?_
    unfold binD powD at h
    simp only at h
    split at h
    · exact ⟨_, _, rfl, rfl, h.1, h.2⟩
    · exact h.elim
  | _ => exact fun pins s σ H x y v u Q I rx ry ⟨G, d1, d2, g, h1, h2, h⟩ => h.elim
end
end Lk
namespace Lk
open PySem L2
theorem RB.tupE {W : Wd} {G H : Hp} {x : V} {l : List D} (h : RB W G H x (.tup l)) : ∃ a xs, x = .ref a ∧ SqT W.K G a xs ∧ RL W G xs l := by
  rcases h with h | ⟨p, _, _, h⟩
  · exact h.tupE
  · exact h.elim
theorem RB.lstE {W : Wd} {G H : Hp} (g : Sub G H) {x : V} {l : List D} (h : RB W G H x (.lst l)) : ∃ a xs, x = .ref a ∧ H a = some (.lst xs) ∧ RL W G xs l := by
  rcases h with h | ⟨p, rfl, _, xs, h, r⟩
  · obtain ⟨a, xs, rfl, h, r⟩ := h.lstE
    exact ⟨a, xs, rfl, g _ _ h, r⟩
  · exact ⟨p, xs, rfl, h, r⟩
theorem RB.blE {W : Wd} {G H : Hp} {x : V} {i : Bool} (h : RB W G H x (.bl i)) : x = .bl i := by
  rcases h with h | ⟨p, _, _, h⟩
  · exact h.blE
  · exact h.elim
/-! ### the state of a law: its dict -/
def stK (gr c : Addr) (l t : Int) : List (L2.Key × V) := [(.inr "great", .ref gr), (.inr "cells", .ref c), (.inr "left", .int l), (.inr "turn", .int t)]
section
variable {gr c : Addr} {l t v : Int}
theorem vk_great : valV (stK gr c l t) (.inr "great") = some (.ref gr) := by kernel_rfl
theorem vk_cells : valV (stK gr c l t) (.inr "cells") = some (.ref c) := by kernel_rfl
theorem vk_left : valV (stK gr c l t) (.inr "left") = some (.int l) := by kernel_rfl
theorem vk_turn : valV (stK gr c l t) (.inr "turn") = some (.int t) := by kernel_rfl
theorem pk_left : L2.putK (stK gr c l t) (.inr "left") (.int v) = stK gr c v t := by kernel_rfl
theorem pk_turn : L2.putK (stK gr c l t) (.inr "turn") (.int v) = stK gr c l v := by kernel_rfl
end
theorem stK_eq {H : Hp} {a gr c : Addr} (s : StOk H a gr c) : ∃ (gs cs : List Int) (l t : Int), H a = some (.dK (stK gr c l t)) ∧ H gr = some (.lst (gs.map V.int)) ∧ H c = some (.lst (cs.map V.int)) ∧ 0 ≤ l ∧ 0 ≤ t ∧ (∀ x ∈ gs, 0 ≤ x) ∧ ∀ x ∈ cs, 0 ≤ x := s.ok
/-- an item, by data -/
def rIx2 (W : Wd) : R2 := fun x y H Q => ∃ G d1 d2 t, Gd W G H ∧ RB W G H x d1 ∧ R W G y d2 ∧ TL W H t ∧ ixD t d1 d2 (KQ W G H Q .f)
section
variable {X : Cx} {W : Wd} (ok : XW X W)
include ok
theorem ix_D : IxR X (rIx2 W) := by
  intro value slice pins s σ H x y v u Q I rx ry ⟨G, d1, d2, tt, g, h1, h2, tl, h⟩ hs
  unfold ixD at h
  split at h
  · obtain ⟨a, xs, rfl, ha, rl⟩ := h1.tupE
    obtain rfl := h2.intE
    obtain ⟨d, e, h⟩ := h
    obtain ⟨j, e1, e2, e3, _, _⟩ := atI_get e
    obtain ⟨z, hz, rz⟩ := rl.get e2
    refine ix_tup value slice pins s σ H _ _ v u Q I rx ry ⟨a, xs, _, z, rfl, rfl, by rw [ok.K]; exact g.sub.sqt ha, ?_, h.flat g rz⟩ hs
    unfold L2.atI at e ⊢
    rw [rl.length]
    obtain ⟨j', q1, q2⟩ := Option.bind_eq_some_iff.mp e
    rw [q1]
    obtain ⟨z', hz', _⟩ := rl.get q2
    have : j' = j := by
      obtain ⟨w1, _⟩ := ixN_seq q1
      rw [e1] at w1; exact (Option.some.inj w1).symm
    subst this
    exact hz
  · obtain ⟨a, xs, rfl, ha, rl⟩ := h1.lstE g.sub
    obtain rfl := h2.intE
    obtain ⟨d, e, h⟩ := h
    obtain ⟨j, e1, e2, e3, _, _⟩ := atI_get e
    obtain ⟨z, hz, rz⟩ := rl.get e2
    refine ix_list value slice pins s σ H _ _ v u Q I rx ry ⟨a, xs, _, z, rfl, rfl, SqL.of ha, ?_, h.flat g rz⟩ hs
    unfold L2.atI at e ⊢
    rw [rl.length]
    obtain ⟨j', q1, q2⟩ := Option.bind_eq_some_iff.mp e
    rw [q1]
    have : j' = j := by
      obtain ⟨w1, _⟩ := ixN_seq q1
      rw [e1] at w1; exact (Option.some.inj w1).symm
    subst this
    exact hz
  · obtain rfl := h1.strD
    obtain rfl := h2.intE
    obtain ⟨hz, ch, e, h⟩ := h
    exact ix_str value slice pins s σ H _ _ v u Q I rx ry ⟨_, _, ch, rfl, rfl, hz, e, h.flat g (.str _)⟩ hs
  · obtain ⟨ha, d, e, h⟩ := h
    obtain ⟨p, rfl, oc⟩ := RB.dctE g.sub h1
    obtain rfl := rx
    have da := dicAt ok I g.sub oc h2 ha
    have ti : s.TypeIs (.ref p) "dict" := by
      cases da with
      | k _ _ _ _ dd _ => exact dd.typeIs
      | t _ _ _ _ _ dd _ => exact dd.typeIs
    exact PyProof.Rows.tail_any ti PySem.F.slot_dict_getitem.lookup (dic_getItem ok I g.sub ry da e fun v w' s' I' rw' r => ⟨v, H, I', rw', h.flat g r⟩) hs
  · obtain ⟨ha, d, e, h⟩ := h
    obtain ⟨p, rfl, oc⟩ := RB.dclE g.sub h1
    obtain rfl := rx
    have da := dicAt ok I g.sub oc h2 ha
    have ti : s.TypeIs (.ref p) "dict" := by
      cases da with
      | k _ _ _ _ dd _ => exact dd.typeIs
      | t _ _ _ _ _ dd _ => exact dd.typeIs
    exact PyProof.Rows.tail_any ti PySem.F.slot_dict_getitem.lookup (dic_getItem ok I g.sub ry da e fun v w' s' I' rw' r => ⟨v, H, I', rw', h.flat g r⟩) hs
  · rcases h1 with z | z
    case inr => obtain ⟨_, _, _, z⟩ := z; exact z.elim
    case inl =>
      cases z with
      | @stt a gr c cs hst hc hp =>
        obtain rfl := h2.strE
        have so := g.wi a gr c hst
        obtain ⟨gs, cs', l, t, k1, k2, k3, k4, k5, k6, k7⟩ := stK_eq so
        obtain rfl := rx
        have fin : ∀ (x : Str) (v' : V) (d : D), V.str x = V.str x → RelV (.str x) u → valV (stK gr c l t) (.inr x) = some v' → R W G v' d → KQ W G H Q .f d → wpAny (model X.prog X.w) X.A (getItem (.ref a) u) (EP X pins σ Q) X.xe s := fun x v' d _ ry hv r q => by
          have dg := DGet.k (k := .inr x) k1
          rw [hv] at dg
          exact d_getItem (by have := ok.hu; omega) I dg ry fun w' s' I' rw' => ⟨v', H, I', rw', q.flat g r⟩
        have ti : s.TypeIs (.ref a) "dict" := dict_typeIs I (DGet.k (k := .inr ("left" : Str)) k1)
        refine PyProof.Rows.tail_any ti PySem.F.slot_dict_getitem.lookup ?_ hs
        unfold sttD at h
        split at h
        · rename_i e
          subst e; exact fin _ _ _ rfl ry vk_left (.int l) (h l k4)
        · split at h
          · rename_i e
            subst e
            have ht : t ≤ tt := by
              obtain ⟨l', n, q1, q2⟩ := tl a gr c hst
              rw [k1] at q1
              have := HO.dK.inj (Option.some.inj q1)
              simp [stK] at this
              omega
            exact fin _ _ _ rfl ry vk_turn (.int t) (h t k5 ht)
          split at h
          · rename_i e
            subst e
            have rl : ∀ ns : List Int, RL W G (ns.map V.int) (ns.map D.int) := fun ns => by
              induction ns with
              | nil => exact .nil
              | cons n r ih => exact .cons (.int n) ih
            exact fin _ _ _ rfl ry vk_cells (.lst hc (rl cs)) (h cs hp)
          · exact h.elim
  · exact h.elim
end
end Lk
set_option autoImplicit false
set_option linter.all false
namespace Lk
open PySem L2
/-- slots and their data; own objects stand apart and are younger than H0 -/
structure SR (W : Wd) (H0 G H : Hp) (σ : L2.St) (ρ : Rho) (t : Nat) : Prop where
  gd : Gd W G H
  tl : TL W H t
  len : σ.length = ρ.length
  val : ∀ (i : Nat) (d : D), ρ[i]? = some (.val d) → ∃ v, σ[i]? = some (some v) ∧ R W G v d
  own : ∀ (i : Nat) (d : D), ρ[i]? = some (.own d) → ∃ p, σ[i]? = some (some (.ref p)) ∧ H0 p = none ∧ ¬ stA W p ∧ G p = none ∧ OwnC W G H p d
  dis : ∀ (i j : Nat) (d e : D) (p : Addr), i ≠ j → ρ[i]? = some (.own d) → ρ[j]? = some (.own e) → σ[i]? = some (some (.ref p)) → σ[j]? ≠ some (some (.ref p))
theorem SR.step {W : Wd} {H0 G H G' H' : Hp} {σ : L2.St} {ρ : Rho} {t t' : Nat} (r : SR W H0 G H σ ρ t) (s : Step W G H G' H') (tl : TL W H' t') : SR W H0 G' H' σ ρ t' where
  gd := s.gd
  tl := tl
  len := r.len
  val := fun i d e => let ⟨v, h1, h2⟩ := r.val i d e; ⟨v, h1, h2.mono s.gext⟩
  own := fun i d e => by
    obtain ⟨p, h1, h2, h3, h4, h5⟩ := r.own i d e
    obtain ⟨o, ho, nt⟩ := h5.there
    refine ⟨p, h1, h2, h3, ?_, h5.stay s.gext ?_⟩
    · rw [s.gnew p (by rw [ho]; simp)]; exact h4
    · rw [ho]; exact s.keep p o ho fun z => z.elim h3 fun ⟨ps, z⟩ => nt ps z
  dis := r.dis
/-- an exception's data -/
def RE (W : Wd) (G H : Hp) (cls : Value) (dd : Option Addr) (c : Str) (fs : List (Str × D)) : Prop :=
  ∃ C, cls = .ref C ∧ W.mg c = some (.ref C) ∧ ((fs = [] ∧ dd = none) ∨ ∃ f d p v, fs = [(f, d)] ∧ dd = some p ∧ H p = some (.xd [(f, v)]) ∧ R W G v d ∧ d.flat = true)
/-- the wish about exceptions, from G and H on -/
def XOk (W : Wd) (G H : Hp) (σ : L2.St) (x : XP) (wx : WX) : Prop :=
  ∀ t c fs, x t (.exc c fs) → ∀ cls dd H' G', Step W G H G' H' → TL W H' t → RE W G' H' cls dd c fs → wx cls dd σ H'
theorem XOk.step {W : Wd} {G H G' H' : Hp} {σ : L2.St} {x : XP} {wx : WX} (h : XOk W G H σ x wx) (s : Step W G H G' H') : XOk W G' H' σ x wx :=
  fun t c fs hx cls dd H2 G2 s2 tl re => h t c fs hx cls dd H2 G2 (s.trans s2) tl re
structure Ct where
  W : Wd
  g : Str → Option D
  Φ : Cal
  x : XP
  H0 : Hp
  wx : WX
  G0 : Hp
/-- the readings of data -/
def tD (c : Ct) (e : E) : TE := fun σ H Q => ∃ G ρ t, SR c.W c.H0 G H σ ρ t ∧ XOk c.W G H σ c.x c.wx ∧ ev c.g c.Φ c.x e ρ t (KQt c.W G H Q)
def tT (c : Ct) (e : E) : TT := fun σ H Q => ∃ G ρ t, SR c.W c.H0 G H σ ρ t ∧ XOk c.W G H σ c.x c.wx ∧ ev c.g c.Φ c.x e ρ t fun t' _ d => trD d fun b => ∀ H' G', Step c.W G H G' H' → TL c.W H' t' → Q b H'
/-- values one by one -/
inductive RVs (W : Wd) (H G' H' : Hp) : List V → List (Fl × D) → Prop
  | nil : RVs W H G' H' [] []
  | cons {v f d vs as} : RV W f H G' H' v d → (f ≠ .b → R W G' v d) → RVs W H G' H' vs as → RVs W H G' H' (v :: vs) ((f, d) :: as)
structure COk (X : Cx) (c : Ct) : Prop extends XW X c.W where
  mono : CalMono c.Φ
  calm : X.calm = true
  nd : X.N.Nodup
  takes : Takes X c.wx
  po : PassesOwn (model X.prog X.w) X.A X.env X.xe
  gl : ∀ (x : Str) (d : D), c.g x = some d → ∃ v u, X.mg x = some u ∧ RelV v u ∧ ∀ G, R c.W G v d
theorem _root_.L2.PE.imp {X : Cx} {e : Expr} {t t' : TE} (h : PE X e t) (m : ∀ σ H Q, t' σ H Q → t σ H Q) : PE X e t' := ⟨fun pins s σ H Q I q => h.run pins s σ H Q I (m σ H Q q)⟩
theorem _root_.L2.PT.imp {X : Cx} {e : Expr} {t t' : TT} (h : PT X e t) (m : ∀ σ H Q, t' σ H Q → t σ H Q) : PT X e t' := ⟨fun pins s σ H Q I q => h.run pins s σ H Q I (m σ H Q q)⟩
theorem _root_.L2.PW.imp {X : Cx} {e : Expr} {t t' : TT} (h : PW X e t) (m : ∀ σ H Q, t' σ H Q → t σ H Q) : PW X e t' := ⟨fun w pins s σ H Q I q => h.run w pins s σ H Q I (m σ H Q q)⟩
section
variable {X : Cx} {c : Ct} (ok : COk X c) {σ : L2.St} {H G : Hp} {ρ : Rho} {t : Nat}
include ok
/-- an expression, then what is made of its value -/
theorem go {e : E} {k : Kt} {P : VK} (sr : SR c.W c.H0 G H σ ρ t) (xo : XOk c.W G H σ c.x c.wx) (h : ev c.g c.Φ c.x e ρ t k)
    (hk : ∀ {t'} fl d v H' G', k t' fl d → Step c.W G H G' H' → RV c.W fl H G' H' v d → SR c.W c.H0 G' H' σ ρ t' → XOk c.W G' H' σ c.x c.wx → P v H') : tD c e σ H P :=
  ⟨G, ρ, t, sr, xo, ev_mono ok.mono e ρ (fun t' fl d hd v H' G' s tl rv => hk fl d v H' G' hd s rv (sr.step s tl) (xo.step s)) h⟩
/-- .. frozen -/
theorem goF {e : E} {k : Nat → D → Prop} {P : VK} (sr : SR c.W c.H0 G H σ ρ t) (xo : XOk c.W G H σ c.x c.wx) (h : ev c.g c.Φ c.x e ρ t fun t f d => f ≠ .b ∧ k t d)
    (hk : ∀ {t'} d v H' G', k t' d → Step c.W G H G' H' → R c.W G' v d → SR c.W c.H0 G' H' σ ρ t' → XOk c.W G' H' σ c.x c.wx → P v H') : tD c e σ H P :=
  go ok sr xo h fun fl d v H' G' hd s rv sr' _ => by
    obtain ⟨G2, s2, r, _⟩ := rv.freeze sr.gd.wi s hd.1
    exact hk d v H' G2 hd.2 s2 r (sr.step s2 sr'.tl) (xo.step s2)
/-- .. as data, whatever it is -/
theorem goB {e : E} {k : Nat → D → Prop} {P : VK} (sr : SR c.W c.H0 G H σ ρ t) (xo : XOk c.W G H σ c.x c.wx) (h : ev c.g c.Φ c.x e ρ t fun t _ d => k t d)
    (hk : ∀ {t'} d v H' G', k t' d → Step c.W G H G' H' → RB c.W G' H' v d → SR c.W c.H0 G' H' σ ρ t' → XOk c.W G' H' σ c.x c.wx → P v H') : tD c e σ H P :=
  go ok sr xo h fun fl d v H' G' hd s rv s2 x2 => hk d v H' G' hd s (rv.rb sr.gd.wi) s2 x2
/-- as a test -/
theorem goT {e : E} {k : Nat → Bool → Prop} {P : Bool → Hp → Prop} (sr : SR c.W c.H0 G H σ ρ t) (xo : XOk c.W G H σ c.x c.wx) (h : ev c.g c.Φ c.x e ρ t fun t _ d => trD d (k t))
    (hk : ∀ {t'} b H' G', k t' b → Step c.W G H G' H' → SR c.W c.H0 G' H' σ ρ t' → XOk c.W G' H' σ c.x c.wx → P b H') : tT c e σ H P :=
  ⟨G, ρ, t, sr, xo, ev_mono ok.mono e ρ (fun t' fl d hd => trD_mono (fun b hb H' G' s tl => hk b H' G' hb s (sr.step s tl) (xo.step s)) hd) h⟩
/-! ### the constructs -/
omit ok in
theorem KQt.now {W : Wd} {Q : VK} {d : D} {v : V} (sr : SR W c.H0 G H σ ρ t) (h : KQt W G H Q t .f d) (r : R W G v d) : Q v H := h.flat sr.gd sr.tl r
theorem d_none {j : Nat} {pos : Pos} : PE X (.Constant .none j pos) (tD c .cn) := pe_non.imp fun σ H Q ⟨G, ρ, _, sr, xo, h⟩ => by simp only [ev] at h; exact h.flat sr.gd sr.tl .non
theorem d_bool {b : Bool} {j : Nat} {pos : Pos} : PE X (.Constant (.bool b) j pos) (tD c (.cb b)) := pe_bl.imp fun σ H Q ⟨G, ρ, _, sr, xo, h⟩ => by simp only [ev] at h; exact h.flat sr.gd sr.tl (.bl b)
theorem d_int {i : Int} {j : Nat} {pos : Pos} : PE X (.Constant (.int i) j pos) (tD c (.ci i)) := pe_int.imp fun σ H Q ⟨G, ρ, _, sr, xo, h⟩ => by simp only [ev] at h; exact h.flat sr.gd sr.tl (.int i)
theorem d_str {i : Str} {j : Nat} {pos : Pos} : PE X (.Constant (.str i) j pos) (tD c (.cs i)) := pe_str.imp fun σ H Q ⟨G, ρ, _, sr, xo, h⟩ => by simp only [ev] at h; exact h.flat sr.gd sr.tl (.str i)
theorem d_var {i : Nat} {x : Str} {pos : Pos} (hN : X.N[i]? = some x) (hv : Vis X.env.scope x) (hd : (x == ("__debug__" : Str)) = false) (hcd : (x == ("__classdict__" : Str)) = false) : PE X (.Name x pos) (tD c (.v i)) :=
  (pe_var hN hv hd hcd).imp fun σ H Q ⟨G, ρ, _, sr, xo, h⟩ => by
    simp only [ev, getV] at h
    split at h
    · rename_i d e
      obtain ⟨v, h1, h2⟩ := sr.val _ _ e
      exact ⟨v, h1, h.flat sr.gd sr.tl h2⟩
    · rename_i d e
      obtain ⟨p, h1, h2, h3, h4, h5⟩ := sr.own _ _ e
      exact ⟨.ref p, h1, h _ _ _ sr.gd.step sr.tl ⟨p, rfl, h3, h4, h5⟩⟩
    · exact h.elim
theorem d_bin {a b : Expr} {ea eb : E} {op : Operator} {pos : Pos} (ha : PE X a (tD c ea)) (hb : PE X b (tD c eb)) : PE X (.BinOp a op b pos) (tD c (.bin op ea eb)) :=
  (pe_op (op_binD ok.toXW op) ha hb).imp fun σ H Q ⟨G, ρ, _, sr, xo, h⟩ => by
    simp only [ev] at h
    refine goF ok sr xo h fun d1 v1 H1 G1 h s1 r1 sr1 xo1 => ?_
    refine goF ok sr1 xo1 h fun d2 v2 H2 G2 h s2 r2 sr2 xo2 => ?_
    exact ⟨G2, d1, d2, sr2.gd, r1.mono s2.gext, r2, binD_mono (fun f d h => KQt.from (s1.trans s2) sr2.tl h) h⟩
theorem d_neg {a : Expr} {ea : E} {pos : Pos} (ha : PE X a (tD c ea)) : PE X (.UnaryOp .USub a pos) (tD c (.neg ea)) :=
  (pe_un un_neg ha).imp fun σ H Q ⟨G, ρ, _, sr, xo, h⟩ => by
    simp only [ev] at h
    refine goB ok sr xo h fun d v H' G' h s r sr' xo' => ?_
    cases d <;> first | exact h.elim | skip
    obtain rfl := r.int
    exact ⟨_, rfl, (h.from s sr'.tl).flat sr'.gd (.int _)⟩
theorem d_cmp {a b : Expr} {ea eb : E} {op : CmpOp} {pos : Pos} (ha : PE X a (tD c ea)) (hb : PE X b (tD c eb)) (hm : behindInMarks op b = false) : PE X (.Compare a [op] [b] pos) (tD c (.cmp op ea eb)) :=
  (pe_cmpR (op_cmpD ok.toXW op) ha hb hm).imp fun σ H Q ⟨G, ρ, _, sr, xo, h⟩ => by
    simp only [ev] at h
    refine goB ok sr xo h fun d1 v1 H1 G1 h s1 r1 sr1 xo1 => ?_
    refine goB ok sr1 xo1 h fun d2 v2 H2 G2 h s2 r2 sr2 xo2 => ?_
    exact ⟨G2, d1, d2, sr2.gd, r1.step s2, r2, cmpD_mono (fun b h => (h.from (s1.trans s2) sr2.tl).flat sr2.gd (.bl b)) h⟩
theorem t_cmp {a b : Expr} {ea eb : E} {op : CmpOp} {pos : Pos} (ha : PE X a (tD c ea)) (hb : PE X b (tD c eb)) (hm : behindInMarks op b = false) : PT X (.Compare a [op] [b] pos) (tT c (.cmp op ea eb)) :=
  (pt_cmpR (op_cmpD ok.toXW op) ha hb hm).imp fun σ H Q ⟨G, ρ, _, sr, xo, h⟩ => by
    simp only [ev] at h
    refine goB ok sr xo h fun d1 v1 H1 G1 h s1 r1 sr1 xo1 => ?_
    refine goB ok sr1 xo1 h fun d2 v2 H2 G2 h s2 r2 sr2 xo2 => ?_
    exact ⟨G2, d1, d2, sr2.gd, r1.step s2, r2, cmpD_mono (fun b h => ⟨b, rfl, h H2 G2 (s1.trans s2) sr2.tl⟩) h⟩
omit ok in
theorem RB.isNon {W : Wd} {G H : Hp} {v : V} {d : D} (r : RB W G H v d) : decide (v = V.non) = d.isNon := by
  rcases r with r | ⟨p, rfl, _, h⟩
  · cases r <;> simp [D.isNon]
  · cases d <;> first | exact h.elim | simp [D.isNon]
theorem d_isn {a : Expr} {ea : E} {j : Nat} {pos pos' : Pos} (ha : PE X a (tD c ea)) : PE X (.Compare a [.Is] [.Constant .none j pos'] pos) (tD c (.isn ea)) :=
  (pe_cmp (pc_isN ha) rfl).imp fun σ H Q ⟨G, ρ, _, sr, xo, h⟩ => by
    simp only [ev] at h
    refine goB ok sr xo h fun d v H' G' h s r sr' xo' => ?_
    rw [r.isNon]
    exact (h.from s sr'.tl).flat sr'.gd (.bl _)
theorem d_nsn {a : Expr} {ea : E} {j : Nat} {pos pos' : Pos} (ha : PE X a (tD c ea)) : PE X (.Compare a [.IsNot] [.Constant .none j pos'] pos) (tD c (.nsn ea)) :=
  (pe_cmp (pc_notN ha) rfl).imp fun σ H Q ⟨G, ρ, _, sr, xo, h⟩ => by
    simp only [ev] at h
    refine goB ok sr xo h fun d v H' G' h s r sr' xo' => ?_
    rw [r.isNon]
    exact (h.from s sr'.tl).flat sr'.gd (.bl _)
theorem t_isn {a : Expr} {ea : E} {j : Nat} {pos pos' : Pos} (ha : PE X a (tD c ea)) : PT X (.Compare a [.Is] [.Constant .none j pos'] pos) (tT c (.isn ea)) :=
  (pt_cmp (pc_isN ha) rfl).imp fun σ H Q ⟨G, ρ, _, sr, xo, h⟩ => by
    simp only [ev, trD] at h
    refine goB ok sr xo h fun d v H' G' h s r sr' xo' => ?_
    exact ⟨_, by rw [r.isNon], h H' G' s sr'.tl⟩
theorem t_nsn {a : Expr} {ea : E} {j : Nat} {pos pos' : Pos} (ha : PE X a (tD c ea)) : PT X (.Compare a [.IsNot] [.Constant .none j pos'] pos) (tT c (.nsn ea)) :=
  (pt_cmp (pc_notN ha) rfl).imp fun σ H Q ⟨G, ρ, _, sr, xo, h⟩ => by
    simp only [ev, trD] at h
    refine goB ok sr xo h fun d v H' G' h s r sr' xo' => ?_
    exact ⟨_, by rw [r.isNon], h H' G' s sr'.tl⟩
theorem R.rb {W : Wd} {G H : Hp} {v : V} {d : D} (r : R W G v d) : RB W G H v d := .inl r
omit ok in
theorem R.rb' {W : Wd} {G H : Hp} {v : V} {d : D} (r : R W G v d) : RB W G H v d := .inl r
theorem d_chn {a b e : Expr} {ea eb ee : E} {op op' : CmpOp} {pos : Pos} (ha : PE X a (tD c ea)) (hb : PE X b (tD c eb)) (he : PE X e (tD c ee)) (hm : lastMarks [op, op'] [b, e] = false) : PE X (.Compare a [op, op'] [b, e] pos) (tD c (.chn op op' ea eb ee)) :=
  (pe_chain (op_cmpD ok.toXW op) (op_cmpD ok.toXW op') ha hb he hm).imp fun σ H Q ⟨G, ρ, _, sr, xo, h⟩ => by
    simp only [ev] at h
    refine goF ok sr xo h fun d1 v1 H1 G1 h s1 r1 sr1 xo1 => ?_
    refine goF ok sr1 xo1 h fun d2 v2 H2 G2 h s2 r2 sr2 xo2 => ?_
    refine ⟨G2, d1, d2, sr2.gd, (r1.mono s2.gext).rb', r2.rb', cmpD_mono (fun b h => ⟨b, rfl, ?_⟩) h⟩
    cases b
    · exact (h.from (s1.trans s2) sr2.tl).flat sr2.gd (.bl _)
    · refine goB ok sr2 xo2 h fun d3 v3 H3 G3 h s3 r3 sr3 xo3 => ?_
      exact ⟨G3, d2, d3, sr3.gd, (r2.mono s3.gext).rb', r3, cmpD_mono (fun b h => (h.from ((s1.trans s2).trans s3) sr3.tl).flat sr3.gd (.bl b)) h⟩
theorem t_chn {a b e : Expr} {ea eb ee : E} {op op' : CmpOp} {pos : Pos} (ha : PE X a (tD c ea)) (hb : PE X b (tD c eb)) (he : PE X e (tD c ee)) (hm : lastMarks [op, op'] [b, e] = false) : PT X (.Compare a [op, op'] [b, e] pos) (tT c (.chn op op' ea eb ee)) :=
  (pt_chain (op_cmpD ok.toXW op) (op_cmpD ok.toXW op') ha hb he hm).imp fun σ H Q ⟨G, ρ, _, sr, xo, h⟩ => by
    simp only [ev] at h
    refine goF ok sr xo h fun d1 v1 H1 G1 h s1 r1 sr1 xo1 => ?_
    refine goF ok sr1 xo1 h fun d2 v2 H2 G2 h s2 r2 sr2 xo2 => ?_
    refine ⟨G2, d1, d2, sr2.gd, (r1.mono s2.gext).rb', r2.rb', cmpD_mono (fun b h => ⟨b, rfl, ?_⟩) h⟩
    cases b
    · exact ⟨false, rfl, h H2 G2 (s1.trans s2) sr2.tl⟩
    · refine goB ok sr2 xo2 h fun d3 v3 H3 G3 h s3 r3 sr3 xo3 => ?_
      exact ⟨G3, d2, d3, sr3.gd, (r2.mono s3.gext).rb', r3, cmpD_mono (fun b h => ⟨b, rfl, h H3 G3 ((s1.trans s2).trans s3) sr3.tl⟩) h⟩
end
end Lk
set_option autoImplicit false
set_option linter.all false
namespace Lk
open PySem L2
theorem RL.isEmpty {W : Wd} {G : Hp} {vs : List V} {ds : List D} (r : RL W G vs ds) : vs.isEmpty = ds.isEmpty := by cases r <;> rfl
section
variable {X : Cx} {c : Ct} (ok : COk X c) {σ : L2.St} {H G : Hp} {ρ : Rho} {t : Nat}
theorem tru {W : Wd} {v : V} {d : D} {kb : Bool → Prop} (g : Sub G H) (r : RB W G H v d) (h : trD d kb) : ∃ b, TruV W.K v H b ∧ kb b := by
  cases d with
  | non =>
    rcases r with r | ⟨p, _, _, r⟩
    · cases r; exact ⟨_, rfl, h⟩
    · exact r.elim
  | bl b => obtain rfl := r.blE; exact ⟨_, rfl, h⟩
  | int i => obtain rfl := r.int; exact ⟨_, rfl, h⟩
  | str s => obtain rfl := r.strD; exact ⟨_, ⟨h.1, rfl⟩, h.2⟩
  | tup l =>
    obtain ⟨a, xs, rfl, ha, rl⟩ := r.tupE
    exact ⟨_, .inr (.inl ⟨xs, g.sqt ha, rfl⟩), by rw [rl.isEmpty]; exact h⟩
  | lst l =>
    obtain ⟨a, xs, rfl, ha, rl⟩ := r.lstE g
    exact ⟨_, .inl ⟨xs, SqL.of ha, rfl⟩, by rw [rl.isEmpty]; exact h⟩
  | _ => exact h.elim
include ok
theorem t_truth {a : Expr} {ea : E} (ha : PE X a (tD c ea)) (he : ∀ whole, isTrue a X.env whole = (do let v ← whole; standAt a.pos; holding [v] (truthy v))) : PT X a (tT c ea) :=
  (pt_truth ha he).imp fun σ H Q ⟨G, ρ, _, sr, xo, h⟩ => by
    refine goB ok sr xo h fun d v H' G' h s r sr' xo' => ?_
    obtain ⟨b, h1, h2⟩ := tru sr'.gd.sub r h
    exact ⟨b, by rw [ok.K]; exact h1, h2 H' G' s sr'.tl⟩
theorem t_not {a : Expr} {ea : E} {pos : Pos} (ha : PT X a (tT c ea)) : PT X (.UnaryOp .Not a pos) (tT c (.not ea)) :=
  (pt_not ha).imp fun σ H Q ⟨G, ρ, _, sr, xo, h⟩ => by
    simp only [ev, trD] at h
    refine goT ok sr xo h fun b H' G' h s sr' xo' => ?_
    exact h H' G' s sr'.tl
theorem d_not {a : Expr} {ea : E} {pos : Pos} (ha : PE X a (tD c ea)) : PE X (.UnaryOp .Not a pos) (tD c (.not ea)) :=
  (pe_notT ha).imp fun σ H Q ⟨G, ρ, _, sr, xo, h⟩ => by
    simp only [ev] at h
    refine goB ok sr xo h fun d v H' G' h s r sr' xo' => ?_
    obtain ⟨b, h1, h2⟩ := tru sr'.gd.sub r h
    exact ⟨b, by rw [ok.K]; exact h1, (h2.from s sr'.tl).flat sr'.gd (.bl _)⟩
omit ok in
theorem d_one {a : Expr} {op : BoolOp} {ea : E} {pos : Pos} (ha : PE X a (tD c ea)) : PE X (.BoolOp op [a] pos) (tD c ea) := pe_one ha
theorem KQt.le {W : Wd} {G1 H1 : Hp} {Q : VK} (s : Step W G H G1 H1) : LeT (KQt W G H Q) (KQt W G1 H1 Q) := fun _ _ _ h => h.step s
theorem d_and {a b : Expr} {rest : List Expr} {ea eb : E} {pos : Pos} (ha : PE X a (tD c ea)) (hb : PE X (.BoolOp .And (b :: rest) pos) (tD c eb)) : PE X (.BoolOp .And (a :: b :: rest) pos) (tD c (.and ea eb)) :=
  (pe_and ha hb).imp fun σ H Q ⟨G, ρ, _, sr, xo, h⟩ => by
    simp only [ev] at h
    refine goB ok sr xo h fun d v H' G' h s r sr' xo' => ?_
    cases d <;> first | exact h.elim | skip
    rename_i t
    obtain rfl := r.blE
    refine ⟨t, rfl, ?_⟩
    cases t
    · exact (KQt.from s sr'.tl h).flat sr'.gd (.bl _)
    · exact ⟨G', ρ, _, sr', xo', ev_mono ok.mono _ _ (KQt.le ok s) h⟩
theorem d_or {a b : Expr} {rest : List Expr} {ea eb : E} {pos : Pos} (ha : PE X a (tD c ea)) (hb : PE X (.BoolOp .Or (b :: rest) pos) (tD c eb)) : PE X (.BoolOp .Or (a :: b :: rest) pos) (tD c (.or ea eb)) :=
  (pe_or ha hb).imp fun σ H Q ⟨G, ρ, _, sr, xo, h⟩ => by
    simp only [ev] at h
    refine goB ok sr xo h fun d v H' G' h s r sr' xo' => ?_
    cases d <;> first | exact h.elim | skip
    rename_i t
    obtain rfl := r.blE
    refine ⟨t, rfl, ?_⟩
    cases t
    · exact ⟨G', ρ, _, sr', xo', ev_mono ok.mono _ _ (KQt.le ok s) h⟩
    · exact (KQt.from s sr'.tl h).flat sr'.gd (.bl _)
omit ok in
theorem w_and1 {a : Expr} {ea : E} {pos : Pos} (ha : PT X a (tT c ea)) : PW X (.BoolOp .And [a] pos) (tT c ea) := pw_and1 ha
omit ok in
theorem w_or1 {a : Expr} {ea : E} {pos : Pos} (ha : PT X a (tT c ea)) : PW X (.BoolOp .Or [a] pos) (tT c ea) := pw_or1 ha
omit ok in
abbrev KT (W : Wd) (G H : Hp) (Q : Bool → Hp → Prop) : Kt := fun t _ d => trD d fun b => ∀ H' G', Step W G H G' H' → TL W H' t → Q b H'
theorem KT.le {W : Wd} {G1 H1 : Hp} {Q : Bool → Hp → Prop} (s : Step W G H G1 H1) : LeT (KT W G H Q) (KT W G1 H1 Q) := fun _ _ _ h => trD_mono (fun b h H' G' s' => h H' G' (s.trans s')) h
theorem w_and {a b : Expr} {rest : List Expr} {ea eb : E} {pos : Pos} (ha : PT X a (tT c ea)) (hb : PW X (.BoolOp .And (b :: rest) pos) (tT c eb)) : PW X (.BoolOp .And (a :: b :: rest) pos) (tT c (.and ea eb)) :=
  (pw_and ha hb).imp fun σ H Q ⟨G, ρ, _, sr, xo, h⟩ => by
    simp only [ev] at h
    refine goT (k := fun t1 q => if q = true then ev c.g c.Φ c.x eb ρ t1 (KT c.W G H Q) else KT c.W G H Q t1 .f (.bl false)) ok sr xo (ev_mono ok.mono _ _ (fun _ f d h => ?_) h) fun b H' G' h s sr' xo' => ?_
    · cases d <;> first | exact h.elim | exact h
    · cases b
      · exact h H' G' s sr'.tl
      · exact ⟨G', ρ, _, sr', xo', ev_mono ok.mono _ _ (KT.le ok s) h⟩
theorem w_or {a b : Expr} {rest : List Expr} {ea eb : E} {pos : Pos} (ha : PT X a (tT c ea)) (hb : PW X (.BoolOp .Or (b :: rest) pos) (tT c eb)) : PW X (.BoolOp .Or (a :: b :: rest) pos) (tT c (.or ea eb)) :=
  (pw_or ha hb).imp fun σ H Q ⟨G, ρ, _, sr, xo, h⟩ => by
    simp only [ev] at h
    refine goT (k := fun t1 q => if q = true then KT c.W G H Q t1 .f (.bl true) else ev c.g c.Φ c.x eb ρ t1 (KT c.W G H Q)) ok sr xo (ev_mono ok.mono _ _ (fun _ f d h => ?_) h) fun b H' G' h s sr' xo' => ?_
    · cases d <;> first | exact h.elim | exact h
    · cases b
      · exact ⟨G', ρ, _, sr', xo', ev_mono ok.mono _ _ (KT.le ok s) h⟩
      · exact h H' G' s sr'.tl
theorem d_ife {t a b : Expr} {et ea eb : E} {pos : Pos} (ht : PT X t (tT c et)) (ha : PE X a (tD c ea)) (hb : PE X b (tD c eb)) : PE X (.IfExp t a b pos) (tD c (.ife et ea eb)) :=
  (pe_ifExp ht ha hb).imp fun σ H Q ⟨G, ρ, _, sr, xo, h⟩ => by
    simp only [ev] at h
    refine goT ok sr xo h fun b H' G' h s sr' xo' => ?_
    cases b
    · exact ⟨G', ρ, _, sr', xo', ev_mono ok.mono _ _ (KQt.le ok s) h⟩
    · exact ⟨G', ρ, _, sr', xo', ev_mono ok.mono _ _ (KQt.le ok s) h⟩
theorem t_ife {t a b : Expr} {et ea eb : E} {pos : Pos} (ht : PT X t (tT c et)) (ha : PT X a (tT c ea)) (hb : PT X b (tT c eb)) : PT X (.IfExp t a b pos) (tT c (.ife et ea eb)) := by
  refine ⟨fun pins s σ H Q I h => ?_⟩
  obtain ⟨G, ρ, _, sr, xo, h⟩ := h
  simp only [ev] at h
  have q := goT ok sr xo h (P := fun q H' => ∃ G' t', SR c.W c.H0 G' H' σ ρ t' ∧ XOk c.W G' H' σ c.x c.wx ∧ ev c.g c.Φ c.x (if q = true then ea else eb) ρ t' (KT c.W G' H' Q)) fun b H' G' h s sr' xo' => ⟨G', _, sr', xo', ?_⟩
  · show wpAny _ _ (do if ← isTrue t X.env (eval t X.env) then isTrue a X.env (eval a X.env) else isTrue b X.env (eval b X.env)) _ _ s
    refine wpAny_bind (thn (ht.run pins s σ H _ I q) fun q s1 ⟨H1, I1, G1, t1, sr1, xo1, h1⟩ => ?_)
    cases q
    · exact hb.run pins s1 σ H1 Q I1 ⟨G1, ρ, _, sr1, xo1, h1⟩
    · exact ha.run pins s1 σ H1 Q I1 ⟨G1, ρ, _, sr1, xo1, h1⟩
  · cases b
    · exact ev_mono ok.mono _ _ (KT.le ok s) h
    · exact ev_mono ok.mono _ _ (KT.le ok s) h
end
/-! ### arguments -/
inductive RAs (W : Wd) (G H : Hp) : List V → List (Fl × D) → Prop
  | nil : RAs W G H [] []
  | cons {v f d vs as} : (f ≠ .b → R W G v d) → (f = .b → ∃ p, v = .ref p ∧ ¬ stA W p ∧ G p = none ∧ OwnC W G H p d) → RAs W G H vs as → RAs W G H (v :: vs) ((f, d) :: as)
theorem RAs.noB {W : Wd} {G H : Hp} : ∀ {vs as}, RAs W G H vs as → noB as → RL W G vs (as.map (·.2))
  | _, _, .nil, _ => .nil
  | _, _, .cons h _ r, n => .cons (h (n _ List.mem_cons_self)) (RAs.noB r fun p hp => n p (List.mem_cons_of_mem _ hp))
def KA (W : Wd) (G H : Hp) (Q : List V → Hp → Prop) : Argk := fun t as => ∀ vs H' G', Step W G H G' H' → TL W H' t → RAs W G' H' vs as → Q vs H'
def tA (c : Ct) (e : E) : TA := fun σ H Q => ∃ G ρ t, SR c.W c.H0 G H σ ρ t ∧ XOk c.W G H σ c.x c.wx ∧ evs c.g c.Φ c.x e ρ t (KA c.W G H Q)
theorem _root_.L2.PA.imp {X : Cx} {e : List Expr} {t t' : TA} (h : PA X e t) (m : ∀ σ H Q, t' σ H Q → t σ H Q) : PA X e t' := ⟨fun pos pins s σ H Q I q => h.run pos pins s σ H Q I (m σ H Q q)⟩
section
variable {X : Cx} {c : Ct} (ok : COk X c) {σ : L2.St} {H G : Hp} {ρ : Rho} {t : Nat}
include ok
theorem a_nil : PA X [] (tA c .nil) := pa_nil.imp fun σ H Q ⟨G, ρ, _, sr, xo, h⟩ => by
  simp only [evs] at h
  exact h _ _ _ sr.gd.step sr.tl .nil
theorem a_cons {a : Expr} {r : List Expr} {ea er : E} (ha : PE X a (tD c ea)) (hr : PA X r (tA c er)) (hs : starEach (a :: r) X.env = (false, eval a X.env) :: starEach r X.env) : PA X (a :: r) (tA c (.cons ea er)) :=
  (pa_cons ha hr hs).imp fun σ H Q ⟨G, ρ, _, sr, xo, h⟩ => by
    simp only [evs] at h
    refine go ok sr xo h fun f d v H1 G1 h s rv sr1 xo1 => ?_
    by_cases hf : f = .b
    · subst hf
      obtain ⟨p, e, n, hp, oc⟩ := rv
      refine ⟨G1, ρ, _, sr1, xo1, evs_mono ok.mono _ _ (fun _ as h vs H2 G2 s2 tl2 ra => ?_) h⟩
      obtain ⟨o, ho, nt⟩ := oc.there
      refine h _ _ _ (s.trans s2) tl2 (.cons (fun z => absurd rfl z) (fun _ => ⟨p, e, n, ?_, oc.stay s2.gext ?_⟩) ra)
      · rw [s2.gnew p (by rw [ho]; simp)]; exact hp
      · rw [ho]; exact s2.keep p o ho fun z => z.elim n fun ⟨ps, z⟩ => nt ps z
    · obtain ⟨G2, s2, r, _⟩ := rv.freeze sr.gd.wi s hf
      refine ⟨G2, ρ, _, sr.step s2 sr1.tl, xo.step s2, evs_mono ok.mono _ _ (fun _ as h vs H3 G3 s3 tl3 ra => ?_) h⟩
      exact h _ _ _ (s2.trans s3) tl3 (.cons (fun _ => r.mono s3.gext) (fun z => absurd z hf) ra)
/-- arguments, then what is made of their values -/
theorem goA {e : E} {k : Argk} {P : List V → Hp → Prop} (sr : SR c.W c.H0 G H σ ρ t) (xo : XOk c.W G H σ c.x c.wx) (h : evs c.g c.Φ c.x e ρ t k)
    (hk : ∀ {t'} as vs H' G', k t' as → Step c.W G H G' H' → RAs c.W G' H' vs as → SR c.W c.H0 G' H' σ ρ t' → XOk c.W G' H' σ c.x c.wx → P vs H') : tA c e σ H P :=
  ⟨G, ρ, t, sr, xo, evs_mono ok.mono e ρ (fun t' as hd vs H' G' s tl ra => hk as vs H' G' hd s ra (sr.step s tl) (xo.step s)) h⟩
theorem d_tup {es : List Expr} {ea : E} {k : Nat} {pos : Pos} (ha : PA X es (tA c ea)) : PE X (.Tuple es k pos) (tD c (.tup ea)) :=
  (pe_tup ha).imp fun σ H Q ⟨G, ρ, _, sr, xo, h⟩ => by
    simp only [ev] at h
    refine goA ok sr xo h fun as vs H1 G1 h s ra sr1 xo1 => ?_
    obtain ⟨nb, hl, h⟩ := h
    have rl := ra.noB nb
    exact ⟨by rw [rl.length, List.length_map]; exact hl, fun p hp => (h.from s sr1.tl).tup sr1.gd hp rl⟩
theorem d_lst {es : List Expr} {ea : E} {pos : Pos} (ha : PA X es (tA c ea)) : PE X (.List es pos) (tD c (.lst ea)) :=
  (pe_lst ha).imp fun σ H Q ⟨G, ρ, _, sr, xo, h⟩ => by
    simp only [ev] at h
    refine goA ok sr xo h fun as vs H1 G1 h s ra sr1 xo1 => ?_
    obtain ⟨nb, hl, h⟩ := h
    have rl := ra.noB nb
    exact ⟨by rw [rl.length, List.length_map]; exact hl, fun p hp => (h.from s sr1.tl).lst sr1.gd hp rl⟩
theorem d_dnew {pos : Pos} : PE X (.Dict [] [] pos) (tD c (.dct .nil)) :=
  pe_dnewK.imp fun σ H Q ⟨G, ρ, _, sr, xo, h⟩ => by
    simp only [ev, evs] at h
    obtain ⟨_, ps, e, _, _, h⟩ := h
    simp only [List.map_nil, pairUp, Option.some.injEq] at e
    subst e
    intro p hp
    exact h _ _ _ (sr.gd.newOwn hp) (Pu.new sr.gd.wi hp _ sr.tl) ⟨p, rfl, hp, sr.gd.none hp, .inl ⟨[], upd_same, .nil⟩⟩
end
end Lk
set_option autoImplicit false
set_option linter.all false
namespace Lk
open PySem L2
theorem plainIx_of {b : Expr} (h : (match b with | .Slice _ _ _ _ => false | _ => true) = true) : PlainIx b := by
  intro o i
  cases b <;> first | rfl | (simp at h)
theorem plainBase {e : Expr} {f : Str} {env : Env} (h : (match e with | .Call (.Name _ _) [] [] _ => false | _ => true) = true) : attributeBase e f env (eval e env) = eval e env := by
  cases e <;> first | rfl | skip
  rename_i a b c d
  cases a <;> first | rfl | skip
  cases b with
  | cons _ _ => rfl
  | nil =>
    cases c with
    | cons _ _ => rfl
    | nil => simp at h
theorem RF.mem {W : Wd} {G : Hp} {f : Str} {v : V} : ∀ {fs : List (Str × V)}, List.lookup f fs = some v → ∃ p ∈ fs, p.1 = f
  | [], h => by simp at h
  | (x, u) :: r, h => by
    rw [List.lookup_cons] at h
    cases hx : f == x with
    | true => exact ⟨_, List.mem_cons_self, (by simpa using hx : f = x).symm⟩
    | false =>
      rw [hx] at h
      obtain ⟨p, hp, e⟩ := RF.mem (W := W) (G := G) h
      exact ⟨p, List.mem_cons_of_mem _ hp, e⟩
theorem RB.objE {W : Wd} {G H : Hp} (g : Sub G H) {v : V} {cn : Str} {ds : List (Str × D)} (h : RB W G H v (.obj cn ds)) :
    ∃ a C dx fs, v = .ref a ∧ H a = some (.ins C dx fs) ∧ ObjC W cn C ∧ (∀ p ∈ fs, NoAttr W.K C p.1) ∧ RF W G fs ds := by
  rcases h with h | ⟨p, e, _, C, dx, fs, h1, h2, h3, h4⟩
  · cases h with | obj h m n r => exact ⟨_, _, _, _, rfl, g _ _ h, m, n, r⟩
  · exact ⟨p, C, dx, fs, e, h1, h2, h3, h4⟩
theorem RB.slfE {W : Wd} {G H : Hp} (g : Sub G H) {v : V} {cn : Str} {q : Nat} {ds : List (Str × D)} (h : RB W G H v (.slf q cn ds)) :
    ∃ a C dx fs, v = .ref a ∧ H a = some (.ins C dx fs) ∧ ObjC W cn C ∧ (∀ p ∈ fs, NoAttr W.K C p.1) ∧ RF W G fs ds := by
  rcases h with h | ⟨p, e, _, _, C, dx, fs, h1, h2, h3, h4⟩
  · cases h with | slf h m n r => exact ⟨_, _, _, _, rfl, g _ _ h, m, n, r⟩
  · exact ⟨p, C, dx, fs, e, h1, h2, h3, h4⟩
/-! ### slices -/
def tO (c : Ct) (e : E) : TO := fun σ H Q => ∃ G ρ t, SR c.W c.H0 G H σ ρ t ∧ XOk c.W G H σ c.x c.wx ∧ evo c.g c.Φ c.x e ρ t fun t' o => optI o fun i => ∀ H' G', Step c.W G H G' H' → TL c.W H' t' → Q i H'
def rSl2 (W : Wd) : V → Option Int → Option Int → Hp → VK → Prop := fun x lo hi H Q => ∃ G d, Gd W G H ∧ RB W G H x d ∧ slD d lo hi (KQ W G H Q)
theorem cutD_rl {W : Wd} {G : Hp} {xs : List V} {ds : List D} (r : RL W G xs ds) (lo hi : Option Int) : RL W G (cutV xs lo hi) (cutD ds lo hi) := by
  unfold cutV cutD
  rw [r.length]
  exact (r.drop _).take _
theorem cutD_whole {ds : List D} {lo hi : Option Int} (h : HT.sIx ds.length 0 lo = 0 ∧ HT.sIx ds.length ds.length hi = ds.length) : cutD ds lo hi = ds := by
  unfold cutD
  rw [h.1, h.2]
  simp
section
variable {X : Cx} {c : Ct} (ok : COk X c) {σ : L2.St} {H G : Hp} {ρ : Rho} {t : Nat}
include ok
theorem sl_D : SlR X (rSl2 c.W) := by
  intro pins s σ H x v vl vu lo hi sl Q I rx hs pl pu ⟨G, d, g, rb, h⟩
  cases d with
  | tup ds =>
    obtain ⟨a, xs, rfl, ha, rl⟩ := rb.tupE
    refine sl_tupA pins s σ H _ v vl vu lo hi sl Q I rx hs pl pu ⟨a, xs, rfl, by rw [ok.K]; exact g.sub.sqt ha, fun e => ?_, fun e p hp => ?_⟩
    · rw [rl.length] at e
      refine KQ.flat (d := .tup ds) ?_ g (.tup ha rl)
      have h' : KQ c.W G H Q .f (.tup (cutD ds lo hi)) := h
      rw [cutD_whole e] at h'
      exact h'
    · exact KQ.tup h g hp (cutD_rl rl lo hi)
  | lst ds =>
    obtain ⟨a, xs, rfl, ha, rl⟩ := rb.lstE g.sub
    exact sl_list pins s σ H _ v vl vu lo hi sl Q I rx hs pl pu ⟨a, xs, rfl, SqL.of ha, fun p hp => KQ.lst h g hp (cutD_rl rl lo hi)⟩
  | str z =>
    obtain rfl := rb.strD
    exact sl_str pins s σ H _ v vl vu lo hi sl Q I rx hs pl pu ⟨z, rfl, h.1, h.2.flat g (.str _)⟩
  | _ => exact h.elim
omit ok in
theorem _root_.L2.PO.imp {X : Cx} {e : Option Expr} {t t' : TO} (h : PO X e t) (m : ∀ σ H Q, t' σ H Q → t σ H Q) : PO X e t' := ⟨fun pins s σ H Q I q => h.run pins s σ H Q I (m σ H Q q)⟩
theorem o_none : PO X none (tO c .nil) := po_none.imp fun σ H Q ⟨G, ρ, _, sr, xo, h⟩ => by
  simp only [evo, optI] at h
  exact h H G sr.gd.step sr.tl
theorem o_some {a : Expr} {ea r : E} (ha : PE X a (tD c ea)) : PO X (some a) (tO c (.cons ea r)) := (po_some ha).imp fun σ H Q ⟨G, ρ, _, sr, xo, h⟩ => by
  simp only [evo] at h
  refine goB ok sr xo h fun d v H' G' h s rb sr' xo' => ?_
  unfold optI at h
  split at h
  · rename_i e; cases e
  · rename_i i e
    cases e
    obtain rfl := rb.int
    exact ⟨i, rfl, h H' G' s sr'.tl⟩
  · exact h.elim
theorem goO {e : E} {k : Nat → Option Int → Prop} {P : Option Int → Hp → Prop} (sr : SR c.W c.H0 G H σ ρ t) (xo : XOk c.W G H σ c.x c.wx) (h : evo c.g c.Φ c.x e ρ t fun t o => optI o (k t))
    (hk : ∀ {t'} o H' G', k t' o → Step c.W G H G' H' → SR c.W c.H0 G' H' σ ρ t' → XOk c.W G' H' σ c.x c.wx → P o H') : tO c e σ H P :=
  ⟨G, ρ, t, sr, xo, evo_mono ok.mono e ρ (fun t' o ho => optI_mono (fun i hi H' G' s tl => hk i H' G' hi s (sr.step s tl) (xo.step s)) ho) h⟩
theorem d_sl {a : Expr} {lo hi : Option Expr} {ea el eh : E} {p2 pos : Pos} (ha : PE X a (tD c ea)) (hl : PO X lo (tO c el)) (hh : PO X hi (tO c eh)) : PE X (.Subscript a (.Slice lo hi none p2) pos) (tD c (.sl ea el eh)) :=
  (pe_slice (sl_D ok) ha hl hh).imp fun σ H Q ⟨G, ρ, _, sr, xo, h⟩ => by
    simp only [ev] at h
    refine goB ok sr xo h fun d v H1 G1 h s1 rb sr1 xo1 => ?_
    refine goO ok sr1 xo1 h fun l H2 G2 h s2 sr2 xo2 => ?_
    refine goO ok sr2 xo2 h fun u H3 G3 h s3 sr3 xo3 => ?_
    exact ⟨G3, d, sr3.gd, (rb.step s2).step s3, slD_mono (fun _ _ h => KQt.from ((s1.trans s2).trans s3) sr3.tl h) h⟩
theorem d_rev {a : Expr} {ea : E} {k : Nat} {p1 p2 p3 pos : Pos} (ha : PE X a (tD c ea)) : PE X (.Subscript a (.Slice none none (some (.UnaryOp .USub (.Constant (.int 1) k p1) p2)) p3) pos) (tD c (.rev ea)) :=
  (pe_revL ha).imp fun σ H Q ⟨G, ρ, _, sr, xo, h⟩ => by
    simp only [ev] at h
    refine goB ok sr xo h fun d v H1 G1 h s1 rb sr1 xo1 => ?_
    cases d <;> first | exact h.elim | skip
    obtain ⟨p, xs, rfl, hp, rl⟩ := rb.lstE sr1.gd.sub
    exact ⟨p, xs, rfl, SqL.of hp, fun q hq => (KQt.from s1 sr1.tl h).lst sr1.gd hq rl.reverse⟩
theorem d_fld {a : Expr} {ea : E} {f : Str} {pos : Pos} (ha : PE X a (tD c ea)) (hb : attributeBase a f X.env (eval a X.env) = eval a X.env) : PE X (.Attribute a f pos) (tD c (.fld ea f)) :=
  (pe_fld ha hb).imp fun σ H Q ⟨G, ρ, _, sr, xo, h⟩ => by
    simp only [ev] at h
    refine goB ok sr xo h fun d v H1 G1 h s1 rb sr1 xo1 => ?_
    have fin : ∀ {p : Addr} {C dx : Addr} {cn : Str} {fs : List (Str × V)} {ds : List (Str × D)}, v = .ref p → H1 p = some (.ins C dx fs) → ObjC c.W cn C → (∀ p ∈ fs, NoAttr c.W.K C p.1) → RF c.W G1 fs ds → (∃ d, ds.lookup f = some d ∧ KQ c.W G1 H1 Q .f d) → ∃ a C dx fs v', v = .ref a ∧ H1 a = some (.ins C dx fs) ∧ Cls X.K C ∧ NoAttr X.K C f ∧ fs.lookup f = some v' ∧ Q v' H1 := fun {p C dx cn fs ds} e hp oc na rf ⟨d, hd, h⟩ => by
      obtain ⟨v', hv, r⟩ := rf.lookup hd
      refine ⟨p, C, dx, fs, v', e, hp, by rw [ok.K]; exact oc.cls, ?_, hv, h.flat sr1.gd r⟩
      obtain ⟨q, hq, e⟩ := RF.mem (W := c.W) (G := G1) hv
      rw [ok.K, ← e]
      exact na q hq
    cases d <;> first | exact h.elim | skip
    · obtain ⟨p, C, dx, fs, e, hp, oc, na, rf⟩ := rb.objE sr1.gd.sub
      exact fin e hp oc na rf (h.imp fun _ h => ⟨h.1, KQt.from s1 sr1.tl h.2⟩)
    · obtain ⟨p, C, dx, fs, e, hp, oc, na, rf⟩ := rb.slfE sr1.gd.sub
      exact fin e hp oc na rf (h.imp fun _ h => ⟨h.1, KQt.from s1 sr1.tl h.2⟩)
theorem d_ix {a b : Expr} {ea eb : E} {pos : Pos} (ha : PE X a (tD c ea)) (hb : PE X b (tD c eb)) (hp : PlainIx b) : PE X (.Subscript a b pos) (tD c (.ix ea eb)) :=
  (pe_ix (ix_D ok.toXW) ha hb hp).imp fun σ H Q ⟨G, ρ, _, sr, xo, h⟩ => by
    simp only [ev] at h
    refine goB ok sr xo h fun d1 v1 H1 G1 h s1 r1 sr1 xo1 => ?_
    refine goF ok sr1 xo1 h fun d2 v2 H2 G2 h s2 r2 sr2 xo2 => ?_
    exact ⟨G2, d1, d2, _, sr2.gd, r1.step s2, r2, sr2.tl, ixD_mono (fun d h => KQt.from (s1.trans s2) sr2.tl h) h⟩
end
/-! ### built-in functions -/
inductive RBL (W : Wd) (G H : Hp) : List V → List D → Prop
  | nil : RBL W G H [] []
  | cons {v d vs ds} : RB W G H v d → RBL W G H vs ds → RBL W G H (v :: vs) (d :: ds)
theorem RAs.rbl {W : Wd} {G H : Hp} : ∀ {vs as}, RAs W G H vs as → RBL W G H vs (as.map (·.2))
  | _, _, .nil => .nil
  | _, _, .cons (f := f) h1 h2 r => .cons (by
      by_cases hf : f = .b
      · obtain ⟨p, e, n, _, o⟩ := h2 hf
        exact .inr ⟨p, e, n, o⟩
      · exact .inl (h1 hf)) (RAs.rbl r)
def rBl (W : Wd) (b : Bi) : List V → Hp → VK → Prop := fun vs H Q => ∃ G ds, Gd W G H ∧ RBL W G H vs ds ∧ bltD b ds (KQ W G H Q)
theorem RBL.one {W : Wd} {G H : Hp} {vs : List V} {d : D} (h : RBL W G H vs [d]) : ∃ v, vs = [v] ∧ RB W G H v d := by
  cases h with | cons h r => cases r; exact ⟨_, rfl, h⟩
theorem RBL.two {W : Wd} {G H : Hp} {vs : List V} {d e : D} (h : RBL W G H vs [d, e]) : ∃ v w, vs = [v, w] ∧ RB W G H v d ∧ RB W G H w e := by
  cases h with | cons h r => cases r with | cons h' r => cases r; exact ⟨_, _, rfl, h, h'⟩
/-- the value that a built-in's name has -/
def biV : Bi → Value
  | .abs => .builtin "abs" | .int => .type "int" | .len => .builtin "len" | .max => .builtin "max" | .min => .builtin "min" | .repr => .builtin "repr"
  | .tuple => .type "tuple" | .list => .type "list" | .sum => .builtin "sum" | .all => .builtin "all" | .any => .builtin "any" | .str => .type "str" | .sorted => .builtin "sorted" | .lset => .none
section
variable {X : Cx} {c : Ct} (ok : COk X c)
include ok
theorem b_abs : CallR X (.builtin "abs") (rBl c.W .abs) := by
  intro pins s σ H xs us Q I r ⟨G, ds, g, rs, h⟩
  unfold bltD at h
  split at h
  all_goals first | exact h.elim | (exfalso; rename_i e; exact Bi.noConfusion e) | skip
  obtain ⟨v, rfl, rb⟩ := rs.one
  obtain rfl := rb.int
  exact call_abs pins s σ H _ us Q I r ⟨_, rfl, KQ.flat h g (.int _)⟩
theorem b_int : CallR X (.type "int") (rBl c.W .int) := by
  intro pins s σ H xs us Q I r ⟨G, ds, g, rs, h⟩
  unfold bltD at h
  split at h
  all_goals first | exact h.elim | (exfalso; rename_i e; exact Bi.noConfusion e) | skip
  · obtain ⟨v, rfl, rb⟩ := rs.one
    obtain rfl := rb.int
    exact call_int1 pins s σ H _ us Q I r (.inl ⟨_, rfl, KQ.flat h g (.int _)⟩)
  · obtain ⟨v, rfl, rb⟩ := rs.one
    obtain rfl := rb.blE
    exact call_int1 pins s σ H _ us Q I r (.inr ⟨_, rfl, KQ.flat h g (.int _)⟩)
theorem b_str : CallR X (.type "str") (rBl c.W .str) := by
  intro pins s σ H xs us Q I r ⟨G, ds, g, rs, h⟩
  unfold bltD at h
  split at h
  all_goals first | exact h.elim | (exfalso; rename_i e; exact Bi.noConfusion e) | skip
  obtain ⟨v, rfl, rb⟩ := rs.one
  obtain rfl := rb.int
  exact call_str_int pins s σ H _ us Q I r ⟨_, rfl, h.1, KQ.flat h.2 g (.str _)⟩
omit ok in
theorem RL.map_ints {W : Wd} {G : Hp} {xs : List V} {ds : List D} {ns : List Int} (r : RL W G xs ds) (e : intsOf ds = some ns) : xs = ns.map V.int := (r.ints e).1
theorem b_max : CallR X (.builtin "max") (rBl c.W .max) := by
  intro pins s σ H xs us Q I r ⟨G, ds, g, rs, h⟩
  unfold bltD at h
  split at h
  all_goals first | exact h.elim | (exfalso; rename_i e; exact Bi.noConfusion e) | skip
  · obtain ⟨v, w, rfl, r1, r2⟩ := rs.two
    obtain rfl := r1.int
    obtain rfl := r2.int
    exact call_max2 ok.calm pins s σ H _ us Q I r ⟨_, _, rfl, KQ.flat h g (.int _)⟩
  · obtain ⟨v, rfl, rb⟩ := rs.one
    obtain ⟨a, xs, rfl, ha, rl⟩ := rb.lstE g.sub
    obtain ⟨ns, m, e, hm, h⟩ := h
    obtain rfl := rl.map_ints e
    have q := List.max?_eq_some_iff.mp hm
    refine cr_max ok.calm pins s σ H _ us Q I r ⟨a, ns, rfl, SqL.of ha, List.length_pos_of_mem q.1, fun m' h1 h2 => ?_⟩
    have : m' = m := Int.le_antisymm (q.2 m' h1) (h2 m q.1)
    rw [this]
    exact KQ.flat h g (.int _)
theorem b_min : CallR X (.builtin "min") (rBl c.W .min) := by
  intro pins s σ H xs us Q I r ⟨G, ds, g, rs, h⟩
  unfold bltD at h
  split at h
  all_goals first | exact h.elim | (exfalso; rename_i e; exact Bi.noConfusion e) | skip
  · obtain ⟨v, w, rfl, r1, r2⟩ := rs.two
    obtain rfl := r1.int
    obtain rfl := r2.int
    exact call_min2 ok.calm pins s σ H _ us Q I r ⟨_, _, rfl, KQ.flat h g (.int _)⟩
  · obtain ⟨v, rfl, rb⟩ := rs.one
    obtain ⟨a, xs, rfl, ha, rl⟩ := rb.lstE g.sub
    obtain ⟨ns, m, e, hm, h⟩ := h
    obtain rfl := rl.map_ints e
    have q := List.min?_eq_some_iff.mp hm
    refine cr_min ok.calm pins s σ H _ us Q I r ⟨a, ns, rfl, SqL.of ha, List.length_pos_of_mem q.1, fun m' h1 h2 => ?_⟩
    have : m' = m := Int.le_antisymm (h2 m q.1) (q.2 m' h1)
    rw [this]
    exact KQ.flat h g (.int _)
theorem b_sum : CallR X (.builtin "sum") (rBl c.W .sum) := by
  intro pins s σ H xs us Q I r ⟨G, ds, g, rs, h⟩
  unfold bltD at h
  split at h
  all_goals first | exact h.elim | (exfalso; rename_i e; exact Bi.noConfusion e) | skip
  obtain ⟨v, rfl, rb⟩ := rs.one
  obtain ⟨a, xs, rfl, ha, rl⟩ := rb.lstE g.sub
  obtain ⟨ns, e, h⟩ := h
  obtain rfl := rl.map_ints e
  exact cr_sum ok.calm pins s σ H _ us Q I r ⟨a, ns, rfl, SqL.of ha, KQ.flat h g (.int _)⟩
theorem b_all : CallR X (.builtin "all") (rBl c.W .all) := by
  intro pins s σ H xs us Q I r ⟨G, ds, g, rs, h⟩
  unfold bltD at h
  split at h
  all_goals first | exact h.elim | (exfalso; rename_i e; exact Bi.noConfusion e) | skip
  obtain ⟨v, rfl, rb⟩ := rs.one
  obtain ⟨a, xs, rfl, ha, rl⟩ := rb.lstE g.sub
  obtain ⟨bs, e, h⟩ := h
  obtain rfl := rl.bls e
  exact cr_all ok.calm pins s σ H _ us Q I r ⟨a, bs, rfl, SqL.of ha, KQ.flat h g (.bl _)⟩
theorem b_any : CallR X (.builtin "any") (rBl c.W .any) := by
  intro pins s σ H xs us Q I r ⟨G, ds, g, rs, h⟩
  unfold bltD at h
  split at h
  all_goals first | exact h.elim | (exfalso; rename_i e; exact Bi.noConfusion e) | skip
  obtain ⟨v, rfl, rb⟩ := rs.one
  obtain ⟨a, xs, rfl, ha, rl⟩ := rb.lstE g.sub
  obtain ⟨bs, e, h⟩ := h
  obtain rfl := rl.bls e
  exact cr_any ok.calm pins s σ H _ us Q I r ⟨a, bs, rfl, SqL.of ha, KQ.flat h g (.bl _)⟩
theorem b_tuple : CallR X (.type "tuple") (rBl c.W .tuple) := by
  intro pins s σ H xs us Q I r ⟨G, ds, g, rs, h⟩
  unfold bltD at h
  split at h
  all_goals first | exact h.elim | (exfalso; rename_i e; exact Bi.noConfusion e) | skip
  · obtain ⟨v, rfl, rb⟩ := rs.one
    obtain ⟨a, xs, rfl, ha, rl⟩ := rb.lstE g.sub
    exact call_tuple_of pins s σ H _ us Q I r ⟨a, xs, rfl, .inl ⟨SqL.of ha, fun p hp => KQ.tup h g hp rl⟩⟩
  · obtain ⟨v, rfl, rb⟩ := rs.one
    obtain ⟨a, xs, rfl, ha, rl⟩ := rb.tupE
    exact call_tuple_of pins s σ H _ us Q I r ⟨a, xs, rfl, .inr ⟨by rw [ok.K]; exact g.sub.sqt ha, KQ.flat h g (.tup ha rl)⟩⟩
theorem b_list : CallR X (.type "list") (rBl c.W .list) := by
  intro pins s σ H xs us Q I r ⟨G, ds, g, rs, h⟩
  unfold bltD at h
  split at h
  all_goals first | exact h.elim | (exfalso; rename_i e; exact Bi.noConfusion e) | skip
  · obtain ⟨v, rfl, rb⟩ := rs.one
    obtain ⟨a, xs, rfl, ha, rl⟩ := rb.lstE g.sub
    exact call_list_of pins s σ H _ us Q I r ⟨a, xs, rfl, .inl (SqL.of ha), fun p hp => KQ.lst h g hp rl⟩
  · obtain ⟨v, rfl, rb⟩ := rs.one
    obtain ⟨a, xs, rfl, ha, rl⟩ := rb.tupE
    exact call_list_of pins s σ H _ us Q I r ⟨a, xs, rfl, .inr (by rw [ok.K]; exact g.sub.sqt ha), fun p hp => KQ.lst h g hp rl⟩
theorem b_len : CallR X (.builtin "len") (rBl c.W .len) := by
  intro pins s σ H xs us Q I r ⟨G, ds, g, rs, h⟩
  unfold bltD at h
  split at h
  all_goals first | exact h.elim | (exfalso; rename_i e; exact Bi.noConfusion e) | skip
  obtain ⟨v, rfl, rb⟩ := rs.one
  rename_i a _
  cases a with
  | tup l =>
    obtain ⟨a, xs, rfl, ha, rl⟩ := rb.tupE
    refine call_len pins s σ H _ us Q I r ⟨_, _, rfl, .inr ⟨xs, by rw [ok.K]; exact g.sub.sqt ha, rfl⟩, ?_⟩
    rw [rl.length]
    exact KQ.flat h g (.int _)
  | lst l =>
    obtain ⟨a, xs, rfl, ha, rl⟩ := rb.lstE g.sub
    refine call_len pins s σ H _ us Q I r ⟨_, _, rfl, .inl ⟨xs, SqL.of ha, rfl⟩, ?_⟩
    rw [rl.length]
    exact KQ.flat h g (.int _)
  | str z =>
    obtain rfl := rb.strD
    exact call_len pins s σ H _ us Q I r ⟨_, _, rfl, ⟨h.1, rfl⟩, KQ.flat h.2 g (.int _)⟩
  | scr ns =>
    obtain ⟨a, rfl, ha⟩ : ∃ a, v = .ref a ∧ SqL c.W.K H a (ns.map V.int) := by
      rcases rb with rb | ⟨_, _, _, o⟩
      · cases rb with | scr q => exact ⟨_, rfl, g.sub.sql q⟩
      · exact o.elim
    refine call_len pins s σ H _ us Q I r ⟨_, _, rfl, .inl ⟨_, by rw [ok.K]; exact ha, rfl⟩, ?_⟩
    rw [List.length_map]
    exact KQ.flat h g (.int _)
  | dct l =>
    obtain ⟨p, rfl, oc⟩ := RB.dctE g.sub rb
    obtain ⟨u, rfl, ru⟩ := vals1 r
    obtain rfl := ru
    rcases oc with ⟨kv, hp, rk⟩ | ⟨xs, hp, rx⟩
    · exact d_len I hp fun t s' I' => ⟨.int _, H, I', ⟨t, rfl⟩, by rw [rk.length]; exact KQ.flat h g (.int _)⟩
    · obtain ⟨dd, hs, hl⟩ := dic_h ok.toXW I g.sub hp rx
      refine PyProof.Rows.call_len_slot (n := xs.length) dd.typeIs PySem.F.slot_dict_len (fun Q' hq => len_keyed hs ⟨xs, dd, rfl⟩ (by rw [pairsH_length]; exact hq)) (by have := sizeLine_eq; omega) (by rw [sizeLine_eq] at hl; omega) ?_
      exact ⟨.int _, H, I.tok _, ⟨_, rfl⟩, by rw [rx.length]; exact KQ.flat h g (.int _)⟩
  | dcl l =>
    obtain ⟨p, rfl, oc⟩ := RB.dclE g.sub rb
    obtain ⟨u, rfl, ru⟩ := vals1 r
    obtain rfl := ru
    rcases oc with ⟨kv, hp, rk⟩ | ⟨xs, hp, rx⟩
    · exact d_len I hp fun t s' I' => ⟨.int _, H, I', ⟨t, rfl⟩, by rw [rk.length]; exact KQ.flat h g (.int _)⟩
    · obtain ⟨dd, hs, hl⟩ := dic_h ok.toXW I g.sub hp rx
      refine PyProof.Rows.call_len_slot (n := xs.length) dd.typeIs PySem.F.slot_dict_len (fun Q' hq => len_keyed hs ⟨xs, dd, rfl⟩ (by rw [pairsH_length]; exact hq)) (by have := sizeLine_eq; omega) (by rw [sizeLine_eq] at hl; omega) ?_
      exact ⟨.int _, H, I.tok _, ⟨_, rfl⟩, by rw [rx.length]; exact KQ.flat h g (.int _)⟩
  | _ => exact h.elim
end
end Lk
set_option autoImplicit false
set_option linter.all false
namespace Lk
open PySem L2
mutual
theorem plain_hasDict : ∀ d : PyData, d.plain = true → d.hasDict = false
  | .none, _ => by simp only [PyData.hasDict]
  | .bool _, _ => by simp only [PyData.hasDict]
  | .int _, _ => by simp only [PyData.hasDict]
  | .str _, _ => by simp only [PyData.hasDict]
  | .list xs, h => by
    simp only [PyData.hasDict]
    exact plain_hasDictL xs (by simpa [PyData.plain] using h)
  | .tuple xs, h => by
    simp only [PyData.hasDict]
    exact plain_hasDictL xs (by simpa [PyData.plain] using h)
  | .dict _, h => by simp [PyData.plain] at h
theorem plain_hasDictL : ∀ xs : List PyData, PyData.plainAll xs = true → PyData.hasDictAll xs = false
  | [], _ => by simp only [PyData.hasDictAll]
  | x :: xs, h => by
    have h' : x.plain = true ∧ PyData.plainAll xs = true := by simpa [PyData.plainAll] using h
    simp only [PyData.hasDictAll, plain_hasDict x h'.1, plain_hasDictL xs h'.2, Bool.or_self]
end
section
variable {prog : Program} {w : World} {A : Around} {E : Value → Shared → Prop} {s : Shared} {Q : Value → Shared → Prop}
theorem repr_data {v : Value} {d : PyData} {as : List Addr} (r : Reads s.heap v d as) (hs : d.showable = true) (hsm : d.hasDict = true → sysModules ∉ as) (hz : d.shown.length ≤ sizeLine) (hg : A.guards = some []) (hu : A.units + 2 + d.depth < cLine)
    (hQ : ∀ h' u tk, (∀ b o, s.heap.get? b = some o → h'.get? b = some o) → Q (.str d.shown u) { s with heap := h', toks := tk }) : wpAny (model prog w) A (call (.builtin "repr") [v]) Q E s := by
  have hg1 : A.in1.guards = some [] := hg
  have hu0 : A.units + 1 < cLine := by omega
  cases r with
  | none => exact call_repr_gives (typeIs_none s) F.slot_NoneType_repr F.entry_NoneType_repr (F.args_NoneType_repr_1 _) gives_none_repr (hQ s.heap _ _ fun _ _ e => e) (hx := by decide)
  | bool b => exact call_repr_gives (typeIs_bool s b) F.slot_bool_repr F.entry_bool_repr (F.args_bool_repr_1 _) (gives_bool_repr b) (by simp only [PyData.shown] at hQ; exact hQ s.heap _ _ fun _ _ e => e) (hx := by cases b <;> decide)
  | int i t =>
    have hs' : i.natAbs.log2 < 1920 := by simpa [PyData.showable] using hs
    exact call_repr_gives (typeIs_int s i t) F.slot_int_repr F.entry_int_repr (F.args_int_repr_1 _) (gives_int_repr i t hs') (by simp only [PyData.shown] at hQ; exact hQ s.heap _ _ fun _ _ e => e) (hx := int_text_fits hs')
  | str x t =>
    exact call_repr_gives (typeIs_str s x t) F.slot_str_repr F.entry_str_repr (F.args_str_repr_1 _) (gives_str_repr x t) (by simp only [PyData.shown] at hQ; exact hQ s.heap _ _ fun _ _ e => e) (hx := by simpa only [PyData.shown] using hz)
  | list h1 h2 h3 h4 =>
    rename_i a o vs n xs as
    have hz' : (listText (PyData.shownAll xs)).length ≤ sizeLine := by simpa only [PyData.shown] using hz
    obtain ⟨bs, hb, hk⟩ := ReprAllK.of_readsAll (prog := prog) (w := w) h4 (by simpa [PyData.showable] using hs) (fun hx hm => hsm (by simpa [PyData.hasDict] using hx) (List.mem_cons_of_mem _ hm)) (fun t ht => Nat.le_trans (listText_mem_le ht) hz')
    have r : Reads s.heap (.ref a) (.list xs) _ := .list h1 h2 h3 h4
    have hna : a ∉ bs := not_mem_of_deeper r (by simp only [PyData.depth]; omega) hb
    simp only [PyData.depth] at hu
    simp only [PyData.shown] at hQ
    have hTy : s.TypeIs (.ref a) "list" := ⟨_, h1, h2⟩
    refine call_repr_slot hu0 hTy F.slot_list_repr.toG ?_
    obtain ⟨l⟩ := vs
    cases l with
    | nil =>
      have h4' : ReadsAll s.heap [] xs _ := h4
      cases h4'
      simp only [PyData.shownAll, listText_nil] at hQ
      exact call_list_repr_empty hTy h1 h3 ⟨_, _, rfl, hQ s.heap _ _ fun _ _ e => e⟩
    | cons x l =>
      exact call_list_reprK h1 h2 h3 hna (by simpa using hk.length_eq) (fun i y e => hk.item i y (by simpa using e)) hg1 (fun b _ => Clear.nil b) (by show A.units + 1 + _ < _; omega) (fun _ _ e => e) (fun h' u tk hk' => ⟨_, _, rfl, hQ h' u tk hk'⟩) hz'
  | tuple h1 h2 h3 h4 =>
    rename_i a o vs n xs
    have hz' : (tupleText (PyData.shownAll xs)).length ≤ sizeLine := by simpa only [PyData.shown] using hz
    obtain ⟨bs, hb, hk⟩ := ReprAllK.of_readsAll (prog := prog) (w := w) h4 (by simpa [PyData.showable] using hs) (fun hx => hsm (by simpa [PyData.hasDict] using hx)) (fun t ht => Nat.le_trans (tupleText_mem_le ht) hz')
    have r : Reads s.heap (.ref a) (.tuple xs) _ := .tuple h1 h2 h3 h4
    have hna : a ∉ bs := not_mem_of_deeper r (by simp only [PyData.depth]; omega) hb
    simp only [PyData.depth] at hu
    simp only [PyData.shown] at hQ
    have hTy : s.TypeIs (.ref a) "tuple" := ⟨_, h1, h2⟩
    refine call_repr_slot hu0 hTy F.slot_tuple_repr ?_
    exact call_tuple_reprK h1 h2 h3 hna hk hg1 (fun b _ => Clear.nil b) (by show A.units + 1 + _ < _; omega) (fun _ _ e => e) (fun h' u tk hk' => ⟨_, _, rfl, hQ h' u tk hk'⟩) hz'
  | dict h1 h2 h3 h4 h5 =>
    rename_i a o es n kvs as₁ bs₁
    have hz' : (dictText (PyData.shownKv kvs)).length ≤ sizeLine := by simpa only [PyData.shown] using hz
    have hno : sysModules ∉ a :: as₁ ++ bs₁ := hsm (by simp only [PyData.hasDict])
    obtain ⟨hs1, hs2⟩ := PyData.showableKv_split kvs (by simpa [PyData.showable] using hs)
    obtain ⟨b1, hb1, k1⟩ := ReprAllK.of_readsAll (prog := prog) (w := w) h4 hs1 (fun _ hm => hno (List.mem_cons_of_mem _ (List.mem_append_left _ hm))) (fun t ht => let ⟨p, hp, hl⟩ := PyData.shownKv_key_le kvs t ht; Nat.le_trans hl (Nat.le_trans (dictText_mem_le hp) hz'))
    obtain ⟨b2, hb2, k2⟩ := ReprAllK.of_readsAll (prog := prog) (w := w) h5 hs2 (fun _ hm => hno (List.mem_cons_of_mem _ (List.mem_append_right _ hm))) (fun t ht => let ⟨p, hp, hl⟩ := PyData.shownKv_val_le kvs t ht; Nat.le_trans hl (Nat.le_trans (dictText_mem_le hp) hz'))
    have r : Reads s.heap (.ref a) (.dict kvs) _ := .dict h1 h2 h3 h4 h5
    have hb : ReadAtMost s.heap (PyData.depthKv kvs) (b1 ++ b2) := (hb1.mono (PyData.depthAll_keys_le kvs)).append (hb2.mono (PyData.depthAll_vals_le kvs))
    have hna : a ∉ b1 ++ b2 := not_mem_of_deeper r (by simp only [PyData.depth]; omega) hb
    have hsys : (a == sysModules) = false := beq_eq_false_iff_ne.mpr fun e => hno (e ▸ List.mem_cons_self ..)
    simp only [PyData.depth] at hu
    simp only [PyData.shown, PyData.shownKv_eq] at hQ
    have hTy : s.TypeIs (.ref a) "dict" := ⟨_, h1, h2⟩
    refine call_repr_slot hu0 hTy F.slot_dict_repr ?_
    exact call_dict_reprK h1 h2 h3 hsys hna (ReprEntriesK.of_two es.toList _ _ (k1.more_le (fun b hb => List.mem_append_left _ hb) (PyData.depthAll_keys_le kvs)) (k2.more_le (fun b hb => List.mem_append_right _ hb) (PyData.depthAll_vals_le kvs)))
      hg1 (fun b _ => Clear.nil b) (by show A.units + 1 + _ < _; omega) (fun _ _ e => e) (fun h' u tk hk' => ⟨_, _, rfl, by simpa only [PyData.shown, PyData.shownKv_eq] using hQ h' u tk hk'⟩) (by simpa only [PyData.shownKv_eq] using hz')
end
section
variable {X : Cx} {c : Ct} (ok : COk X c)
include ok
theorem b_repr (hg : X.A.guards = some []) : CallR X (.builtin "repr") (rBl c.W .repr) := by
  intro pins s σ H xs us Q I r ⟨G, ds, g, rs, h⟩
  unfold bltD at h
  split at h
  all_goals first | exact h.elim | (exfalso; rename_i e; exact Bi.noConfusion e) | skip
  obtain ⟨v, rfl, rb⟩ := rs.one
  obtain ⟨p, hs, hd, hz, h⟩ := h
  obtain ⟨u, rfl, ru⟩ := vals1 r
  obtain ⟨as, ra⟩ := rb.reads I ok.K g.sub p ru
  have hu := ok.hu
  refine repr_data ra hs (fun e => ?_) (by omega) hg (by omega) fun h' u tk hk => ?_
  · exfalso
    have : ∀ d : PyData, d.plain = true → d.hasDict = false := plain_hasDict
    rw [this _ (D.pure_plain p)] at e
    cases e
  · exact ⟨.str _, H, I.kept hk, ⟨u, rfl⟩, KQ.flat h g (.str _)⟩
end
end Lk
set_option autoImplicit false
set_option linter.all false
namespace Lk
open PySem L2
/-! ### enumerate(tuple) -/
theorem meets_enumerate_newT (l : Addr) (items : Array Value) (dct : Option Addr) (n : Nat) (sl : Array (Option Value)) :
    Meets (Builtin.«enumerate.__new__» ⟨[.type "enumerate", .ref l], []⟩) (fun _ R s => s.heap.get? l = some { cls := .type "tuple", dict := dct, data := .seq items n, slots := sl } ∧
      R (.ok (.ret (.ref (s.heap.push { cls := .type "tuple_iterator", data := .fields #[.ref l, .int 0 0] }).objs.size)))
        { s with heap := (s.heap.push { cls := .type "tuple_iterator", data := .fields #[.ref l, .int 0 0] }).push { cls := .type "enumerate", data := .fields #[.none, .bool false, .ref s.heap.objs.size, rawInt 0, .none, .none] } }) :=
  .of_wp fun prog w A R s h => by
    obtain ⟨hp, g, d, tk, os⟩ := s; obtain ⟨hl, h⟩ := h
    have hsub := sub_enumerate
    have hL : Heap.IsTuple (Shared.heap ⟨hp, g, d, tk, os⟩) l items := ⟨_, hl, rfl, n, rfl⟩
    wp_walk using AutoSeq1.wpAny_loadPart' hl
    refine wpAny_stack_any fun st => wpAny_pure ?_
    split
    · rename_i c _ _ _ _ _
      cases (c == Value.type "enumerate")
      · wp_walk using AutoSeq1.wpAny_loadPart' hl, wpAny_pyIter_tuple hL
        exact ⟨_, rfl, h⟩
      · wp_walk using AutoSeq1.wpAny_loadPart' hl, wpAny_pyIter_tuple hL
        exact ⟨_, rfl, h⟩
    · wp_walk using AutoSeq1.wpAny_loadPart' hl, wpAny_pyIter_tuple hL
      exact ⟨_, rfl, h⟩
section
variable {prog : Program} {w : World} {A : Around} {E : Value → Shared → Prop} {s : Shared}
theorem call_enumerate_tuple {l : Addr} {items : Array Value} {Q : Value → Shared → Prop} (hL : s.heap.IsTuple l items)
    (h : ∀ h', IsEnum h' (s.heap.objs.size + 1) s.heap.objs.size 0 .none → h'.IsTupleIter s.heap.objs.size l 0 →
      (∀ b o, s.heap.get? b = some o → h'.get? b = some o) → Q (.ref (s.heap.objs.size + 1)) { s with heap := h' }) :
    wpAny (model prog w) A (call (.type "enumerate") [.ref l]) Q E s := by
  obtain ⟨⟨c, dct, dt, sl⟩, hl, hc, n, hd⟩ := hL
  replace hc : c = .type "tuple" := hc
  replace hd : dt = .seq items n := hd
  subst hc hd
  refine callType_new F.called_enumerate (by decide) (F.typeCall_enumerate_1 _) (F.newCall_enumerate_1 _) (fun obj => F.args_object_init_2 obj _) F.entry_enumerate_new
    (meets_enumerate_newT l items dct n sl) ⟨hl, ?_⟩
  generalize eh : s.heap.push { cls := .type "tuple_iterator", data := .fields #[.ref l, .int 0 0] } = h1
  have hz : h1.objs.size = s.heap.objs.size + 1 := by rw [← eh]; exact Heap.size_push ..
  have hit : h1.get? s.heap.objs.size = some { cls := .type "tuple_iterator", data := .fields #[.ref l, .int 0 0] } := by rw [← eh]; exact Heap.get?_push_size _ rfl
  have hk : ∀ b o, s.heap.get? b = some o → h1.get? b = some o := fun b o x => by rw [← eh]; exact Heap.get?_push_of_some _ x
  show _ ∧ _
  rw [hz]
  have he : IsEnum (h1.push { cls := .type "enumerate", data := .fields #[.none, .bool false, .ref s.heap.objs.size, rawInt 0, .none, .none] }) (s.heap.objs.size + 1) s.heap.objs.size 0 .none := by
    rw [← hz]
    exact Heap.get?_push_size h1 rfl
  exact ⟨⟨_, he, rfl⟩, h _ he ⟨_, Heap.get?_push_of_some _ hit, rfl, rfl⟩ fun b o x => Heap.get?_push_of_some _ (hk b o x)⟩
end
/-- the tuple at a, each item in a new pair -/
def IteT (K : PySem.W.Frag) (a : Addr) : It :=
  ⟨fun i H => ∃ (xs : List V) (x : V), SqT K H a xs ∧ xs[i]? = some x, fun i H v H' => ∃ T x, v = .ref T ∧ H T = none ∧ H' = upd H T (.tup [.int (i : Nat), x]) ∧ ∀ xs, SqT K H a xs → xs[i]? = some x, fun i H => ∃ xs : List V, SqT K H a xs ∧ xs.length = i⟩
theorem turn_enumT {P : Program} {w : World} {K : PySem.W.Frag} {elts : List Expr} {kk : Nat} {tpos : Pos} (a e it : Addr) :
    Turn P w K (.Tuple elts kk tpos) (IteT K a) [e, it] e (fun i h => (∃ old, IsEnum h e it ((i : Nat) : Int) old) ∧ h.IsTupleIter it a i ∧ e ≠ it) where
  mem := by simp
  obj := fun i h st b hb => by
    obtain ⟨⟨old, he⟩, ⟨o, ho, hc, hd⟩, _⟩ := st
    rcases (show b = e ∨ b = it by simpa using hb) with rfl | rfl
    · exact ⟨_, he, fun v q => nomatch q⟩
    · exact ⟨o, ho, fun v q => by rw [hd] at q; cases q⟩
  keep := fun i h h' st k => let ⟨⟨old, he⟩, hi, hne⟩ := st; ⟨⟨old, k e (by simp) _ he⟩, hi.at fun o q => k it (by simp) o q, hne⟩
  item := by
    intro X hP hw hK hc i pins s σ H E I hf st hg
    subst hP hw hK
    obtain ⟨⟨old, he⟩, hit, hne⟩ := st
    obtain ⟨xs, x, hq, hx⟩ := hg
    obtain ⟨its, rv, p, hz⟩ := I.tuple hq
    have hi : i < its.length := by
      have := rv.length
      have : i < xs.length := by
        rcases Nat.lt_or_ge i xs.length with z | z
        · exact z
        · rw [List.getElem?_eq_none z] at hx; cases hx
      omega
    obtain ⟨ot, hot, hct, hdt⟩ := id p
    have hea : e ≠ a := fun z => by
      subst z
      rw [he] at hot; cases hot; exact absurd (show Value.type "enumerate" = .type "tuple" from hct) (by decide)
    have hita : a ≠ it := fun z => by
      subst z
      obtain ⟨oi, hoi, hci, _⟩ := hit
      rw [hoi] at hot; cases hot; rw [hci] at hct; exact absurd hct (by decide)
    have hel : e < s.heap.objs.size := Heap.lt_size he
    have hil : it < s.heap.objs.size := by obtain ⟨_, q, _⟩ := hit; exact Heap.lt_size q
    refine wpAny_pyNext_enum_itemD (Draws.tuple (A := X.A.in1) (show X.A.in1.handled = none from I.ok.hd hc) it a hita its.toArray) he ⟨hit, p⟩ (by simpa using hi) hne (by simp [hne, hea]) fun u h' tk hu ho hit' hT hsz hk => ?_
    have ru : RelV x u := by
      obtain ⟨u', e1, e2⟩ := rv.get hx
      have : its[i]? = some u := by simpa using hu
      rw [e1] at this
      cases this
      exact e2
    refine ⟨_, rfl, wpAny_letOwnedTupleGo_enum (s := { s with heap := h', toks := tk + 1 }) ho fun h'' he' sb => ?_⟩
    have hT2 : h''.get? s.heap.objs.size = some { cls := .type "tuple", data := .seq #[.int i tk, u] } := (sb.2 _ (Nat.ne_of_gt hel)).trans hT
    have new : ObjOk X.prog X.w (upd H s.heap.objs.size (.tup [.int (i : Nat), x])) h'' s.heap.objs.size (.tup [.int (i : Nat), x]) :=
      ⟨by show 2 ≤ sizeLine; decide, [.int i tk, u], .cons ⟨_, rfl⟩ (.cons ru .nil), ⟨_, hT2, rfl, _, rfl⟩⟩
    have I1 : Inv X pins σ (upd H s.heap.objs.size (.tup [.int (i : Nat), x])) { s with heap := h'', toks := tk + 1 } :=
      I.turnedNew (ch := [e, it]) (fun b ob hb q => (sb.2 b (fun z => hb (by simp [z]))).trans (hk b ob (fun z => hb (by simp [z])) (fun z => hb (by simp [z])) q)) hf (Nat.le_refl _) new
    refine ⟨.ref s.heap.objs.size, _, I1, rfl, ⟨_, x, rfl, I.hok.fresh (Nat.le_refl _), rfl, fun ys hy => by rw [I.tuple_inj hy hq]; exact hx⟩, ⟨⟨u, ?_⟩, hit'.1.at fun o q => (sb.2 it (Ne.symm hne)).trans q, hne⟩, fun b hb => ?_⟩
    · have e1 : ((i + 1 : Nat) : Int) = (i : Int) + 1 := by omega
      rw [e1]; exact he'
    · have hb' : b < s.heap.objs.size := by
        rcases (show b = e ∨ b = it by simpa using hb) with rfl | rfl
        · exact hel
        · exact hil
      rw [upd_ne (Nat.ne_of_lt hb')]
      exact (hf b hb).1
  done := by
    intro X hP hw hK hc i pins s σ H E I hf st hg
    subst hP hw hK
    obtain ⟨⟨old, he⟩, hit, hne⟩ := st
    obtain ⟨xs, hq, hx⟩ := hg
    obtain ⟨its, rv, p, hz⟩ := I.tuple hq
    obtain ⟨f0, f1, f2, f3, f4, f5⟩ := hf it (by simp)
    have hl := rv.length
    obtain ⟨ot, hot, hct, hdt⟩ := id p
    have hita : a ≠ it := fun z => by
      subst z
      obtain ⟨oi, hoi, hci, _⟩ := hit
      rw [hoi] at hot; cases hot; rw [hci] at hct; exact absurd hct (by decide)
    have hi : i = its.toArray.size := by simp; omega
    subst hi
    exact wpAny_pyNext_enum_endD (Draws.tuple (A := X.A.in1) (show X.A.in1.handled = none from I.ok.hd hc) it a hita its.toArray) he ⟨hit, p⟩ fun h' eb => ⟨rfl, I.turned (t' := s.toks) (fun b o hb q => eb b o hb q) f0 f1 f3 f4 f5⟩
  self := fun A i s Q E st h => let ⟨⟨_, he⟩, _⟩ := st; wpAny_pyIter_enum he h
end Lk
set_option autoImplicit false
set_option linter.all false
namespace Lk
open PySem L2
/-- what an iterator yields -/
structure Yl (W : Wd) (G0 : Hp) (J : It) (items : List D) : Prop where
  go : ∀ i d G H, Sub G0 G → Gd W G H → items[i]? = some d → J.go i H ∧ ∀ x H', J.yld i H x H' → ∃ G', Step W G H G' H' ∧ Pu W H H' ∧ R W G' x d
  stop : ∀ i G H, Sub G0 G → Gd W G H → items.length = i → J.stop i H
theorem _root_.L2.PI.imp {X : Cx} {tg e : Expr} {t t' : TI} (h : PI X tg e t) (m : ∀ σ H Q, t' σ H Q → t σ H Q) : PI X tg e t' := ⟨fun pins s σ H Q I q => h.run pins s σ H Q I (m σ H Q q)⟩
def KI (W : Wd) (G H : Hp) (R : It → Hp → Prop) : Nat → List D → Prop := fun t items => ∀ J H' G', Step W G H G' H' → TL W H' t → Yl W G' J items → R J H'
def tI (c : Ct) (e : E) : TI := fun σ H R => ∃ G ρ t, SR c.W c.H0 G H σ ρ t ∧ XOk c.W G H σ c.x c.wx ∧ evi c.g c.Φ c.x e ρ t (KI c.W G H R)
theorem KI.from {W : Wd} {G H G1 H1 : Hp} {R : It → Hp → Prop} {t : Nat} {l : List D} (s : Step W G H G1 H1) (h : KI W G H R t l) : KI W G1 H1 R t l := fun J H' G' s' tl y => h J H' G' (s.trans s') tl y
theorem KI.now {W : Wd} {G H : Hp} {R : It → Hp → Prop} {t : Nat} {l : List D} {J : It} (h : KI W G H R t l) (g : Gd W G H) (tl : TL W H t) (y : Yl W G J l) : R J H := h J H G g.step tl y
section
variable {W : Wd} {G0 : Hp} {a b : Addr} {xs ys : List V} {ds es : List D}
theorem Yl.list {K : PySem.W.Frag} (h : G0 a = some (.lst xs)) (r : RL W G0 xs ds) : Yl W G0 (Itl K a) ds where
  go := fun i d G H sb g e => by
    obtain ⟨v, hv, rv⟩ := r.get e
    have q : SqL K H a xs := .inl (.inl (g.sub _ _ (sb _ _ h)))
    refine ⟨⟨xs, v, q, hv⟩, fun x H' ⟨e1, e2⟩ => ?_⟩
    subst e1
    have : xs[i]? = some x := e2 xs q
    rw [hv] at this; cases this
    exact ⟨G, g.step, Pu.refl _ _, rv.mono sb⟩
  stop := fun i G H sb g e => ⟨xs, .inl (.inl (g.sub _ _ (sb _ _ h))), by rw [r.length]; omega⟩
theorem Yl.listS {K : PySem.W.Frag} (hK : K = W.K) (h : SqL W.K G0 a xs) (r : RL W G0 xs ds) : Yl W G0 (Itl K a) ds where
  go := fun i d G H sb g e => by
    obtain ⟨v, hv, rv⟩ := r.get e
    have q : SqL K H a xs := by rw [hK]; exact g.sub.sql (sb.sql h)
    refine ⟨⟨xs, v, q, hv⟩, fun x H' ⟨e1, e2⟩ => ?_⟩
    subst e1
    have : xs[i]? = some x := e2 xs q
    rw [hv] at this; cases this
    exact ⟨G, g.step, Pu.refl _ _, rv.mono sb⟩
  stop := fun i G H sb g e => ⟨xs, by rw [hK]; exact g.sub.sql (sb.sql h), by rw [r.length]; omega⟩
theorem Yl.tup {K : PySem.W.Frag} (hK : K = W.K) (h : SqT W.K G0 a xs) (r : RL W G0 xs ds) : Yl W G0 (Itt K a) ds where
  go := fun i d G H sb g e => by
    obtain ⟨v, hv, rv⟩ := r.get e
    have q : SqT K H a xs := by rw [hK]; exact g.sub.sqt (sb.sqt h)
    refine ⟨⟨xs, v, q, hv⟩, fun x H' ⟨e1, e2⟩ => ?_⟩
    subst e1
    have : xs[i]? = some x := e2 xs q
    rw [hv] at this; cases this
    exact ⟨G, g.step, Pu.refl _ _, rv.mono sb⟩
  stop := fun i G H sb g e => ⟨xs, by rw [hK]; exact g.sub.sqt (sb.sqt h), by rw [r.length]; omega⟩
theorem rangeL_get {lo hi : Int} {i : Nat} {d : D} (e : (rangeL lo hi)[i]? = some d) : i < (hi - lo).toNat ∧ d = .int (lo + i) := by
  unfold rangeL at e
  rw [List.getElem?_map] at e
  obtain ⟨j, hj, rfl⟩ := Option.map_eq_some_iff.mp e
  have h : i < (hi - lo).toNat := by
    rcases Nat.lt_or_ge i (hi - lo).toNat with z | z
    · exact z
    · rw [List.getElem?_eq_none (by simpa using z)] at hj; cases hj
  rw [List.getElem?_range h] at hj
  cases hj
  exact ⟨h, rfl⟩
theorem Yl.range {lo hi : Int} {n : Nat} (hn : n = (hi - lo).toNat) : Yl W G0 (Itr lo n) (rangeL lo hi) where
  go := fun i d G H sb g e => by
    obtain ⟨h1, rfl⟩ := rangeL_get e
    refine ⟨by rw [hn]; exact h1, fun x H' ⟨e1, e2⟩ => ?_⟩
    subst e1
    subst e2
    exact ⟨G, g.step, Pu.refl _ _, .int _⟩
  stop := fun i G H sb g e => by
    show n ≤ i
    rw [hn, ← e]
    simp [rangeL]
theorem pair_step {G H : Hp} {T : Addr} {x y : V} {d e : D} (g : Gd W G H) (hT : H T = none) (rx : R W G x d) (ry : R W G y e) : ∃ G', Step W G H G' (upd H T (.tup [x, y])) ∧ Pu W H (upd H T (.tup [x, y])) ∧ R W G' (.ref T) (.tup [d, e]) := by
  have sb : Sub G (upd G T (.tup [x, y])) := Sub.new (g.none hT)
  exact ⟨_, g.new hT (fun ps q => by cases q), Pu.new g.wi hT, .tup (SqT.of upd_same) (.cons (rx.mono sb) (.cons (ry.mono sb) .nil))⟩
theorem enumL_get {l : List D} {i : Nat} {d : D} (e : (enumL l)[i]? = some d) : ∃ d', l[i]? = some d' ∧ d = .tup [.int (i : Nat), d'] := by
  unfold enumL at e
  rw [List.getElem?_map, List.getElem?_zipIdx] at e
  cases h : l[i]? with
  | none => rw [h] at e; cases e
  | some d' => rw [h] at e; simp at e; exact ⟨d', rfl, e.symm⟩
theorem Yl.eL {K : PySem.W.Frag} (h : G0 a = some (.lst xs)) (r : RL W G0 xs ds) : Yl W G0 (Ite K a) (enumL ds) where
  go := fun i d G H sb g e => by
    obtain ⟨d', e', rfl⟩ := enumL_get e
    obtain ⟨v, hv, rv⟩ := r.get e'
    have q : SqL K H a xs := .inl (.inl (g.sub _ _ (sb _ _ h)))
    refine ⟨⟨xs, v, q, hv⟩, fun x H' ⟨T, y, e1, hT, e2, e3⟩ => ?_⟩
    subst e1
    subst e2
    have : xs[i]? = some y := e3 xs q
    rw [hv] at this; cases this
    exact pair_step g hT (.int _) (rv.mono sb)
  stop := fun i G H sb g e => ⟨xs, .inl (.inl (g.sub _ _ (sb _ _ h))), by rw [r.length, ← e]; simp [enumL]⟩
theorem Yl.eT {K : PySem.W.Frag} (hK : K = W.K) (h : SqT W.K G0 a xs) (r : RL W G0 xs ds) : Yl W G0 (IteT K a) (enumL ds) where
  go := fun i d G H sb g e => by
    obtain ⟨d', e', rfl⟩ := enumL_get e
    obtain ⟨v, hv, rv⟩ := r.get e'
    have q : SqT K H a xs := by rw [hK]; exact g.sub.sqt (sb.sqt h)
    refine ⟨⟨xs, v, q, hv⟩, fun x H' ⟨T, y, e1, hT, e2, e3⟩ => ?_⟩
    subst e1
    subst e2
    have : xs[i]? = some y := e3 xs q
    rw [hv] at this; cases this
    exact pair_step g hT (.int _) (rv.mono sb)
  stop := fun i G H sb g e => ⟨xs, by rw [hK]; exact g.sub.sqt (sb.sqt h), by rw [r.length, ← e]; simp [enumL]⟩
theorem zipL_get : ∀ {l r : List D} {i : Nat} {d : D}, (zipL l r)[i]? = some d → ∃ d1 d2, l[i]? = some d1 ∧ r[i]? = some d2 ∧ d = .tup [d1, d2]
  | [], _, _, _, e => by simp [zipL] at e
  | _ :: _, [], _, _, e => by simp [zipL] at e
  | x :: l, y :: r, 0, d, e => by simp [zipL] at e; exact ⟨x, y, rfl, rfl, e.symm⟩
  | x :: l, y :: r, i + 1, d, e => by
    have e' : (zipL l r)[i]? = some d := by simpa [zipL] using e
    obtain ⟨d1, d2, h1, h2, h3⟩ := zipL_get e'
    exact ⟨d1, d2, by simpa using h1, by simpa using h2, h3⟩
theorem Yl.zL {K : PySem.W.Frag} (h : G0 a = some (.lst xs)) (h' : G0 b = some (.lst ys)) (r : RL W G0 xs ds) (r' : RL W G0 ys es) : Yl W G0 (Itz K a b) (zipL ds es) where
  go := fun i d G H sb g e => by
    obtain ⟨d1, d2, e1, e2, rfl⟩ := zipL_get e
    obtain ⟨v, hv, rv⟩ := r.get e1
    obtain ⟨w, hw, rw'⟩ := r'.get e2
    have q : SqL K H a xs := .inl (.inl (g.sub _ _ (sb _ _ h)))
    have q' : SqL K H b ys := .inl (.inl (g.sub _ _ (sb _ _ h')))
    refine ⟨⟨xs, ys, v, w, q, q', hv, hw⟩, fun x H' ⟨T, y, z, e1, hT, e2, e3, e4⟩ => ?_⟩
    subst e1
    subst e2
    have : xs[i]? = some y := e3 xs q
    rw [hv] at this; cases this
    have : ys[i]? = some z := e4 ys q'
    rw [hw] at this; cases this
    exact pair_step g hT (rv.mono sb) (rw'.mono sb)
  stop := fun i G H sb g e => ⟨xs, ys, .inl (.inl (g.sub _ _ (sb _ _ h))), .inl (.inl (g.sub _ _ (sb _ _ h'))), by
    rw [r.length, r'.length]
    simp only [zipL, List.length_zipWith] at e
    omega⟩
theorem Yl.zT {K : PySem.W.Frag} (hK : K = W.K) (h : SqT W.K G0 a xs) (h' : SqT W.K G0 b ys) (r : RL W G0 xs ds) (r' : RL W G0 ys es) : Yl W G0 (RZ.ItzT K a b) (zipL ds es) where
  go := fun i d G H sb g e => by
    obtain ⟨d1, d2, e1, e2, rfl⟩ := zipL_get e
    obtain ⟨v, hv, rv⟩ := r.get e1
    obtain ⟨w, hw, rw'⟩ := r'.get e2
    have q : SqT K H a xs := by rw [hK]; exact g.sub.sqt (sb.sqt h)
    have q' : SqT K H b ys := by rw [hK]; exact g.sub.sqt (sb.sqt h')
    refine ⟨⟨xs, ys, v, w, q, q', hv, hw⟩, fun x H' ⟨T, y, z, e1, hT, e2, e3, e4⟩ => ?_⟩
    subst e1
    subst e2
    have : xs[i]? = some y := e3 xs q
    rw [hv] at this; cases this
    have : ys[i]? = some z := e4 ys q'
    rw [hw] at this; cases this
    exact pair_step g hT (rv.mono sb) (rw'.mono sb)
  stop := fun i G H sb g e => ⟨xs, ys, by rw [hK]; exact g.sub.sqt (sb.sqt h), by rw [hK]; exact g.sub.sqt (sb.sqt h'), by
    rw [r.length, r'.length]
    simp only [zipL, List.length_zipWith] at e
    omega⟩
theorem Yl.str {x : Str} : Yl W G0 (Its x) (x.cps.toList.map fun c => .str ⟨#[c]⟩) where
  go := fun i d G H sb g e => by
    rw [List.getElem?_map] at e
    obtain ⟨c, hc, rfl⟩ := Option.map_eq_some_iff.mp e
    have hc' : x.cps[i]? = some c := by simpa using hc
    refine ⟨(Array.getElem?_eq_some_iff.mp hc').1, fun v H' ⟨e1, c', h1, h2⟩ => ?_⟩
    subst e1
    subst h2
    rw [hc'] at h1; cases h1
    exact ⟨G, g.step, Pu.refl _ _, .str _⟩
  stop := fun i G H sb g e => by
    show x.cps.size ≤ i
    rw [← e]; simp
end
/-! ### a locked dict's keys -/
def ItK (d : Addr) (o : Obj) (ks : List V) : It :=
  ⟨fun i H => (∃ u, H d = some (.frz o u)) ∧ i < ks.length, fun i H x H' => H' = H ∧ ks[i]? = some x, fun i H => (∃ u, H d = some (.frz o u)) ∧ ks.length ≤ i⟩
theorem turn_K {P : Program} {w : World} {K : PySem.W.Frag} {tg : Expr} {d : Addr} {o : Obj} {es : Array DictEntry} {ep : Nat} {ks : List V} (it : Addr) (hod : o.data = .dict es ep) (hx : o.ExactDict) (hn : es.size = ks.length)
    (hk : ∀ (i : Nat) (x : V), ks[i]? = some x → ∃ en : DictEntry, es[i]? = some en ∧ RelV x en.key) : Turn P w K tg (ItK d o ks) [it] it (fun i h => h.IsKeyIter it d i ks.length ep) where
  mem := by simp
  obj := fun i h st b hb => by
    obtain rfl : b = it := by simpa using hb
    obtain ⟨oi, e, c, dd⟩ := st
    exact ⟨oi, e, fun v z => by rw [dd] at z; cases z⟩
  keep := fun i h h' st k => st.at fun oi e => k it (by simp) oi e
  item := by
    intro X hP hw hK hc i pins s σ H E I hf st hg
    subst hP hw hK
    obtain ⟨⟨u, hd⟩, hi⟩ := hg
    obtain ⟨f0, f1, f2, f3, f4, f5⟩ := hf it (by simp)
    obtain ⟨hgd, _⟩ := I.hok d _ hd
    obtain ⟨en, hen, hkey⟩ := hk i ks[i] (List.getElem?_eq_getElem hi)
    refine next_key_item st hgd hod hn hen fun h' st' sb => ?_
    have I1 : Inv X pins σ H { s with heap := h' } := I.turned (t' := s.toks) (fun b ob hb e => (sb.2 b hb).trans e) f0 f1 f3 f4 f5
    obtain ⟨oi, e, c, dd⟩ := id st'
    exact ⟨en.key, rfl, go_of (s := { s with heap := h' }) e c dd (by decide) ⟨ks[i], H, I1, hkey, ⟨rfl, List.getElem?_eq_getElem hi⟩, st', fun b hb => (hf b hb).1⟩⟩
  done := by
    intro X hP hw hK hc i pins s σ H E I hf st hg
    subst hP hw hK
    obtain ⟨⟨u, hd⟩, hi⟩ := hg
    obtain ⟨f0, f1, f2, f3, f4, f5⟩ := hf it (by simp)
    obtain ⟨hgd, _⟩ := I.hok d _ hd
    exact next_key_end (I.ok.hd hc) st hgd hod hn hi fun h' eb => ⟨rfl, I.turned (t' := s.toks) (fun b ob hb e => eb b ob hb e) f0 f1 f3 f4 f5⟩
  self := fun A i s Q E st h => by
    refine wpAny_pyIter_slot st.typeIs F.slot_dict_keyiterator_iter (wpAny_call_entry F.slot_dict_keyiterator_iter st.typeIs F.entry_dict_keyiterator_iter ?_ (F.args_dict_keyiterator_iter_1 _))
    show wpAny _ _ (ret (.ref it)) _ _ s
    exact wpAny_pure ⟨_, rfl, "dict_keyiterator", _, st.typeIs, F.slot_dict_keyiterator_next.lookup, h⟩
theorem Yl.keys {W : Wd} {G0 : Hp} {p : Addr} {o : Obj} {u : HO} {ks : List V} {ds : List D} (h : G0 p = some (.frz o u)) (r : RL W G0 ks ds) : Yl W G0 (ItK p o ks) ds where
  go := fun i d G H sb g e => by
    obtain ⟨v, hv, rv⟩ := r.get e
    have q := g.sub _ _ (sb _ _ h)
    have hi : i < ks.length := by
      rcases Nat.lt_or_ge i ks.length with z | z
      · exact z
      · rw [List.getElem?_eq_none z] at hv; cases hv
    refine ⟨⟨⟨u, q⟩, hi⟩, fun x H' ⟨e1, e2⟩ => ?_⟩
    subst e1
    rw [hv] at e2; cases e2
    exact ⟨G, g.step, Pu.refl _ _, rv.mono sb⟩
  stop := fun i G H sb g e => ⟨⟨u, g.sub _ _ (sb _ _ h)⟩, by rw [r.length]; omega⟩
theorem RK.keysL {W : Wd} {G : Hp} : ∀ {xs ds}, RK W G xs ds → RL W G (xs.map fun p => kV p.1) (ds.map (·.1))
  | _, _, .nil => .nil
  | _, _, .cons h _ r => .cons h (RK.keysL r)
theorem RX.keysL {W : Wd} {G : Hp} : ∀ {xs ds}, RX W G xs ds → RL W G (xs.map fun p => V.ref p.2.1) (ds.map (·.1))
  | _, _, .nil => .nil
  | _, _, .cons _ _ h _ _ r => .cons h (RX.keysL r)
end Lk
set_option autoImplicit false
set_option linter.all false
namespace Lk
open PySem PySem.Spec PyProof.Rows L2
def lenE : E → Nat
  | .cons _ r => lenE r + 1
  | _ => 0
section
variable {g : Str → Option D} {Φ : Cal} (hΦ : CalMono Φ)
include hΦ
theorem evs_len {x : XP} : ∀ (e : E) (ρ : Rho) {t : Nat} {k : Argk}, evs g Φ x e ρ t k → evs g Φ x e ρ t fun t as => as.length = lenE e ∧ k t as
  | .nil, ρ, t, k, h => by simp only [evs] at h ⊢; exact ⟨rfl, h⟩
  | .cons a r, ρ, t, k, h => by
    simp only [evs] at h ⊢
    exact ev_mono hΦ a ρ (fun _ f d h => evs_mono hΦ r ρ (fun _ as h => ⟨by simp [lenE, h.1], h.2⟩) (evs_len r ρ h)) h
  | .cn, ρ, t, k, h | .cb _, ρ, t, k, h | .ci _, ρ, t, k, h | .cs _, ρ, t, k, h | .v _, ρ, t, k, h | .g _, ρ, t, k, h | .bin _ _ _, ρ, t, k, h
  | .neg _, ρ, t, k, h | .not _, ρ, t, k, h | .and _ _, ρ, t, k, h | .or _ _, ρ, t, k, h | .ife _ _ _, ρ, t, k, h | .cmp _ _ _, ρ, t, k, h
  | .isn _, ρ, t, k, h | .nsn _, ρ, t, k, h | .chn _ _ _ _ _, ρ, t, k, h | .tup _, ρ, t, k, h | .lst _, ρ, t, k, h | .dct _, ρ, t, k, h | .ix _ _, ρ, t, k, h
  | .sl _ _ _, ρ, t, k, h | .rev _, ρ, t, k, h | .fld _ _, ρ, t, k, h | .call _ _ _, ρ, t, k, h | .cv _ _, ρ, t, k, h | .blt _ _, ρ, t, k, h | .isi _ _, ρ, t, k, h
  | .srt _ _, ρ, t, k, h | .mth _ _ _, ρ, t, k, h | .lc _ _, ρ, t, k, h | .lam _ _ _ _, ρ, t, k, h | .rng _, ρ, t, k, h | .enu _, ρ, t, k, h | .zip _ _, ρ, t, k, h
  | .items _, ρ, t, k, h | .rvd _, ρ, t, k, h | .gcons _ _ _ _ _, ρ, t, k, h => by simp only [evs] at h
end
section
variable {X : Cx} {c : Ct} (ok : COk X c) {tg : Expr}
include ok
theorem goIt {pins : List (Addr × Obj)} {σ : L2.St} {G H : Hp} {s : Shared} {Y : It → Hp → Prop} {v : V} {u : Value} {d : D} {t : Nat} {P : List D → Prop} (I : Inv X pins σ H s) (g : Gd c.W G H) (tl : TL c.W H t) (r : R c.W G v d) (ru : RelV v u) (h : iterD d P) (hk : ∀ l, P l → KI c.W G H Y t l) : wpAny (model X.prog X.w) X.A (pyIter u) (PIE X pins σ tg Y) X.xe s := by
  cases d with
  | lst l =>
    obtain ⟨a, xs, rfl, ha, rl⟩ := r.lstE
    obtain rfl := ru
    obtain ⟨its, rv, p, hz⟩ := I.list (SqL.of (g.sub _ _ ha))
    refine wpAny_pyIter_list p.isList ?_
    exact pi_one (tk := s.toks) I _ (turn_list a _) ⟨_, Heap.get?_push_size _ rfl, rfl, rfl⟩ ((hk _ h).now g tl (.list ha rl))
  | scr ns =>
    cases r with
    | @scr a _ ha =>
      obtain rfl := ru
      have rl : ∀ ns : List Int, RL c.W G (ns.map V.int) (ns.map D.int) := fun ns => by
        induction ns with
        | nil => exact .nil
        | cons n r ih => exact .cons (.int n) ih
      obtain ⟨its, rv, p, hz⟩ := I.list (a := a) (xs := ns.map V.int) (by rw [ok.K]; exact g.sub.sql ha)
      refine wpAny_pyIter_list p.isList ?_
      exact pi_one (tk := s.toks) I _ (turn_list a _) ⟨_, Heap.get?_push_size _ rfl, rfl, rfl⟩ ((hk _ h).now g tl (.listS ok.K ha (rl ns)))
  | tup l =>
    obtain ⟨a, xs, rfl, ha, rl⟩ := r.tupE
    obtain rfl := ru
    obtain ⟨its, rv, p, hz⟩ := I.tuple (a := a) (xs := xs) (by rw [ok.K]; exact g.sub.sqt ha)
    refine wpAny_pyIter_tuple (show s.heap.IsTuple a its.toArray from p) ?_
    exact pi_one (tk := s.toks) I _ (turn_tuple a _) ⟨_, Heap.get?_push_size _ rfl, rfl, rfl⟩ ((hk _ h).now g tl (.tup ok.K ha rl))
  | str x =>
    obtain rfl := r.strE
    obtain ⟨t, rfl⟩ := ru
    cases ha : x.cps.all (· < 128)
    · exact wpAny_pyIter_wide ha (pi_one (tk := s.toks) I _ (turn_str _ x t "str_iterator" (.inr rfl)) ⟨_, Heap.get?_push_size _ rfl, rfl, rfl⟩ ((hk _ h).now g tl .str))
    · exact wpAny_pyIter_ascii ha (pi_one (tk := s.toks) I _ (turn_str _ x t "str_ascii_iterator" (.inl rfl)) ⟨_, Heap.get?_push_size _ rfl, rfl, rfl⟩ ((hk _ h).now g tl .str))
  | dcl l =>
    cases r with
    | @dl p o kv _ hp rk =>
      obtain rfl := ru
      have hH := g.sub _ _ hp
      obtain ⟨hgd, _, hs, vs, rel, dd⟩ := I.hok p _ hH
      obtain ⟨o', es, ep, ho, hx, hd, hp1, hp2, hp3⟩ := id dd
      have : o' = o := by rw [ho] at hgd; exact Option.some.inj hgd
      subst this
      obtain ⟨es', ep', ⟨o2, g2, x2, d2⟩, hsz, hent⟩ := dd.raw
      rw [ho] at g2; cases g2
      rw [hd] at d2; cases d2
      have hl : kv.length = vs.length := rel.length
      refine wpAny_pyIter_dict_raw hs ⟨_, ho, hx, hd⟩ (pi_one (tk := s.toks) I _ (turn_K (ks := kv.map fun q => kV q.1) _ hd hx (by rw [hsz]; simp [hl]) fun i x hx => ?_) ⟨_, Heap.get?_push_size _ rfl, rfl, ?_⟩ ((hk _ h).now g tl (.keys hp rk.keysL)))
      · rw [List.getElem?_map] at hx
        obtain ⟨⟨k, v⟩, hkv, rfl⟩ := Option.map_eq_some_iff.mp hx
        obtain ⟨u, hu, ru⟩ := kv_get rel hkv
        have hi : i < es.size := by
          rw [hsz]
          rcases Nat.lt_or_ge i vs.length with z | z
          · exact z
          · rw [List.getElem?_eq_none z] at hu; cases hu
        obtain ⟨q1, q2⟩ := hent i hi k u hu
        exact ⟨es[i], Array.getElem?_eq_getElem hi, relV_key q1⟩
      · rw [hsz]; simp [hl]
    | @dlx p o xs _ hp rx =>
      obtain rfl := ru
      have hH := g.sub _ _ hp
      obtain ⟨dd, hs, hl⟩ := dic_h ok.toXW I g.sub (.inr ⟨_, hH⟩) rx
      obtain ⟨hgd, _⟩ := I.hok p _ hH
      obtain ⟨es, ep, ⟨o2, g2, x2, d2⟩, hsz, hent⟩ := dd.raw
      have : o2 = o := by rw [g2] at hgd; exact Option.some.inj hgd
      subst this
      refine wpAny_pyIter_dict_raw hs ⟨_, g2, x2, d2⟩ (pi_one (tk := s.toks) I _ (turn_K (ks := xs.map fun q => V.ref q.2.1) _ d2 x2 (by rw [hsz]; simp) fun i x hx => ?_) ⟨_, Heap.get?_push_size _ rfl, rfl, ?_⟩ ((hk _ h).now g tl (.keys hp rx.keysL)))
      · rw [List.getElem?_map] at hx
        obtain ⟨q, hq, rfl⟩ := Option.map_eq_some_iff.mp hx
        have hi : i < es.size := by
          rw [hsz]
          rcases Nat.lt_or_ge i xs.length with z | z
          · exact z
          · rw [List.getElem?_eq_none z] at hq; cases hq
        obtain ⟨y, hy, hkey, _⟩ := hent i hi
        rw [hq] at hy; cases hy
        exact ⟨es[i], Array.getElem?_eq_getElem hi, hkey⟩
      · rw [hsz]; simp
  | _ => exact h.elim
theorem i_any {a : Expr} {ea r : E} (ha : PE X a (tD c ea)) : PI X tg a (tI c (.cons ea r)) := by
  refine ⟨fun pins s σ H Y I ⟨G, ρ, t, sr, xo, h⟩ => ?_⟩
  simp only [evi] at h
  refine thn (ha.run pins s σ H (fun v H1 => ∃ G1 d t, Gd c.W G1 H1 ∧ TL c.W H1 t ∧ R c.W G1 v d ∧ iterD d (KI c.W G1 H1 Y t)) I ?_) fun u s1 ⟨v, H1, I1, ru, G1, d, t1, g1, tl1, rd, q⟩ => goIt ok I1 g1 tl1 rd ru q fun l h => h
  refine goF ok sr xo h fun d v H' G' h s rv sr' xo' => ⟨G', d, _, sr'.gd, sr'.tl, rv, iterD_mono (fun l h => h.from s) h⟩
theorem i_rng1 {a : Expr} {ea : E} {p pos : Pos} (hg : Gl X "range") (hm : X.mg "range" = none) (ha : PA X [a] (tA c (.cons ea .nil))) (hs : starEach [a] X.env = [(false, eval a X.env)]) : PI X tg (.Call (.Name "range" p) [a] [] pos) (tI c (.rng (.cons ea .nil))) :=
  (pi_range1 hg hm ha hs).imp fun σ H Y ⟨G, ρ, t, sr, xo, h⟩ => by
    simp only [evi] at h
    refine goA ok sr xo (evs_len ok.mono _ _ h) fun as vs H' G' ⟨hl, nb, h⟩ s ra sr' xo' => ?_
    have rl := ra.noB nb
    unfold rngD at h
    split at h
    · rename_i j e
      rw [e] at rl
      cases rl with | cons r t =>
      cases t
      obtain rfl := r.intE
      exact ⟨j, rfl, h.1, h.2.1, (h.2.2.from s).now sr'.gd sr'.tl (.range (by simp))⟩
    · rename_i i j e
      have := congrArg List.length e
      rw [List.length_map, hl] at this
      simp [lenE] at this
    · exact h.elim
theorem i_rng2 {a b : Expr} {ea eb : E} {p pos : Pos} (hg : Gl X "range") (hm : X.mg "range" = none) (ha : PA X [a, b] (tA c (.cons ea (.cons eb .nil)))) (hs : starEach [a, b] X.env = [(false, eval a X.env), (false, eval b X.env)]) (hs2 : starEach [b] X.env = [(false, eval b X.env)]) : PI X tg (.Call (.Name "range" p) [a, b] [] pos) (tI c (.rng (.cons ea (.cons eb .nil)))) :=
  (pi_range2 hg hm ha hs hs2).imp fun σ H Y ⟨G, ρ, t, sr, xo, h⟩ => by
    simp only [evi] at h
    refine goA ok sr xo (evs_len ok.mono _ _ h) fun as vs H' G' ⟨hl, nb, h⟩ s ra sr' xo' => ?_
    have rl := ra.noB nb
    unfold rngD at h
    split at h
    · rename_i j e
      have := congrArg List.length e
      rw [List.length_map, hl] at this
      simp [lenE] at this
    · rename_i i j e
      rw [e] at rl
      cases rl with | cons r t =>
      cases t with | cons r' t =>
      cases t
      obtain rfl := r.intE
      obtain rfl := r'.intE
      exact ⟨i, j, rfl, h.1, (h.2.from s).now sr'.gd sr'.tl (.range (by simp))⟩
    · exact h.elim
theorem i_enu {a : Expr} {ea : E} {p pos tpos : Pos} {elts : List Expr} {kk : Nat} (hg : Gl X "enumerate") (hm : X.mg "enumerate" = none) (ha : PA X [a] (tA c (.cons ea .nil))) (hs : starEach [a] X.env = [(false, eval a X.env)]) : PI X (.Tuple elts kk tpos) (.Call (.Name "enumerate" p) [a] [] pos) (tI c (.enu ea)) := by
  refine ⟨fun pins s σ H Y I ⟨G, ρ, t, sr, xo, h⟩ => ?_⟩
  simp only [evi] at h
  have h' : evs c.g c.Φ c.x (.cons ea .nil) ρ t fun t as => ∃ f d, as = [(f, d)] ∧ f ≠ .b ∧ ∃ l, seqOf d = some l ∧ KI c.W G H Y t (enumL l) := by
    simp only [evs]
    exact ev_mono ok.mono _ _ (fun _ f d h => ⟨f, d, rfl, h⟩) h
  refine Call_ (ld_blt I hg hm boot_enumerate (PyProof.Rows.callWith_type1 (thn (ha.run pos pins s σ H (fun vs H1 => ∃ G1 v d l t, vs = [v] ∧ Gd c.W G1 H1 ∧ TL c.W H1 t ∧ R c.W G1 v d ∧ seqOf d = some l ∧ KI c.W G1 H1 Y t (enumL l)) I (goA ok sr xo h' fun as vs H' G' ⟨f, d, e, hf, l, hl, h⟩ st ra sr' xo' => ?_)) fun us s1 ⟨vs, H1, I1, r1, G1, v, d, l, t1, e, g, tl1, r, hl, q⟩ => ?_) hs rfl))
  · subst e
    cases ra with | cons r _ t =>
    cases t
    exact ⟨G', _, d, l, _, rfl, sr'.gd, sr'.tl, r hf, hl, h.from st⟩
  · subst e
    cases r1 with | cons ru t =>
    cases t
    have fin : ∀ (h' : Heap) (J : It) (tn : Nat → Heap → Prop), Inv X pins σ H1 { s1 with heap := h' } → Turn X.prog X.w X.K (.Tuple elts kk tpos) J [s1.heap.objs.size + 1, s1.heap.objs.size] (s1.heap.objs.size + 1) tn → tn 0 h' → Y J H1 → PIE X pins σ (.Tuple elts kk tpos) Y (.ref (s1.heap.objs.size + 1)) { s1 with heap := h' } := fun h' J tn I2 T t0 y => by
      refine ⟨s1.heap.objs.size + 1, _, _, _, H1, rfl, I2, T, t0, fun b hb => ?_, y⟩
      have hle : s1.heap.objs.size ≤ b := by
        rcases (show b = s1.heap.objs.size + 1 ∨ b = s1.heap.objs.size by simpa using hb) with z | z
        · rw [z]; exact Nat.le_add_right _ _
        · rw [z]; exact Nat.le_refl _
      exact I1.fpOk hle (I1.hok.fresh hle)
    cases d with
    | lst l' =>
      cases hl
      obtain ⟨a, xs, rfl, ha, rl⟩ := r.lstE
      obtain rfl := ru
      obtain ⟨its, rv, p', hz⟩ := I1.list (SqL.of (g.sub _ _ ha))
      refine call_enumerate_list p'.isList fun h' he hit hsz hk => wpAny_pyIter_enum he ?_
      exact fin h' _ _ (I1.kept (t' := s1.toks) hk) (turn_enum a (s1.heap.objs.size + 1) s1.heap.objs.size) ⟨⟨.none, he⟩, hit, Nat.succ_ne_self _⟩ (q.now g tl1 (.eL ha rl))
    | tup l' =>
      cases hl
      obtain ⟨a, xs, rfl, ha, rl⟩ := r.tupE
      obtain rfl := ru
      obtain ⟨its, rv, p', hz⟩ := I1.tuple (a := a) (xs := xs) (by rw [ok.K]; exact g.sub.sqt ha)
      refine call_enumerate_tuple (show s1.heap.IsTuple a its.toArray from p') fun h' he hit hk => wpAny_pyIter_enum he ?_
      exact fin h' _ _ (I1.kept (t' := s1.toks) hk) (turn_enumT a (s1.heap.objs.size + 1) s1.heap.objs.size) ⟨⟨.none, he⟩, hit, Nat.succ_ne_self _⟩ (q.now g tl1 (.eT ok.K ha rl))
    | _ => cases hl
theorem i_zip {a b : Expr} {ea eb : E} {p pos tpos : Pos} {elts : List Expr} {kk : Nat} (hg : Gl X "zip") (hm : X.mg "zip" = none) (ha : PA X [a, b] (tA c (.cons ea (.cons eb .nil)))) (hs : starEach [a, b] X.env = (false, eval a X.env) :: starEach [b] X.env) (hpl : (backTo pos (starEach [b] X.env)).any (·.1) = false) :
    PI X (.Tuple elts kk tpos) (.Call (.Name "zip" p) [a, b] [] pos) (tI c (.zip ea eb)) :=
  (RZ.pi_zipA hg hm ha hs hpl).imp fun σ H Y ⟨G, ρ, t, sr, xo, h⟩ => by
    simp only [evi] at h
    have h' : evs c.g c.Φ c.x (.cons ea (.cons eb .nil)) ρ t fun t as => ∃ f d f' d', as = [(f, d), (f', d')] ∧ f ≠ .b ∧ f' ≠ .b ∧ zipD d d' (KI c.W G H Y t) := by
      simp only [evs]
      exact ev_mono ok.mono _ _ (fun _ f d h => ev_mono ok.mono _ _ (fun _ f' d' h' => ⟨f, d, f', d', rfl, h.1, h'⟩) h.2) h
    refine goA ok sr xo h' fun as vs H' G' ⟨f, d, f', d', e, hf, hf', h⟩ s ra sr' xo' => ?_
    subst e
    cases ra with | cons r _ t =>
    cases t with | cons r' _ t =>
    cases t
    have r := r hf
    have r' := r' hf'
    unfold zipD at h
    split at h
    · obtain ⟨a, xs, rfl, ha, rl⟩ := r.lstE
      obtain ⟨b, ys, rfl, hb, rl'⟩ := r'.lstE
      exact ⟨a, b, xs, ys, rfl, .inl ⟨.inl (.inl (sr'.gd.sub _ _ ha)), .inl (.inl (sr'.gd.sub _ _ hb)), (h.from s).now sr'.gd sr'.tl (.zL ha hb rl rl')⟩⟩
    · obtain ⟨a, xs, rfl, ha, rl⟩ := r.tupE
      obtain ⟨b, ys, rfl, hb, rl'⟩ := r'.tupE
      exact ⟨a, b, xs, ys, rfl, .inr ⟨by rw [ok.K]; exact sr'.gd.sub.sqt ha, by rw [ok.K]; exact sr'.gd.sub.sqt hb, (h.from s).now sr'.gd sr'.tl (.zT ok.K ha hb rl rl')⟩⟩
    · exact h.elim
end
end Lk
set_option autoImplicit false
set_option linter.all false
namespace Lk
open PySem PySem.Spec PyProof.Rows L2
/-! ### slots -/
theorem wipe_get (σ : L2.St) : ∀ (vs : List Nat) (j : Nat), (wipe σ vs)[j]? = if j ∈ vs then (σ[j]?).map (fun _ => none) else σ[j]?
  | [], j => by simp [wipe]
  | v :: vs, j => by
    unfold wipe
    by_cases h : v = j
    · subst h
      rw [List.getElem?_set]
      rw [if_pos rfl, if_pos List.mem_cons_self]
      by_cases hl : v < (wipe σ vs).length
      · rw [if_pos hl]
        rw [wipe_length] at hl
        rw [List.getElem?_eq_getElem hl]; rfl
      · rw [if_neg hl]
        rw [wipe_length] at hl
        rw [List.getElem?_eq_none (by omega)]; rfl
    · rw [List.getElem?_set_ne h, wipe_get σ vs j]
      have : (j ∈ v :: vs) ↔ j ∈ vs := by simp [Ne.symm h]
      simp only [this]
theorem wipeR_get (ρ : Rho) : ∀ (vs : List Nat) (j : Nat), (wipeR vs ρ)[j]? = if j ∈ vs then (ρ[j]?).map (fun _ => Sv.non) else ρ[j]?
  | [], j => by simp [wipeR]
  | v :: vs, j => by
    have wl : ∀ vs : List Nat, (wipeR vs ρ).length = ρ.length := fun vs => by
      induction vs with
      | nil => rfl
      | cons a r ih => simpa [wipeR] using ih
    unfold wipeR
    by_cases h : v = j
    · subst h
      rw [List.getElem?_set]
      rw [if_pos rfl, if_pos List.mem_cons_self]
      by_cases hl : v < (wipeR vs ρ).length
      · rw [if_pos hl]
        rw [wl] at hl
        rw [List.getElem?_eq_getElem hl]; rfl
      · rw [if_neg hl]
        rw [wl] at hl
        rw [List.getElem?_eq_none (by omega)]; rfl
    · rw [List.getElem?_set_ne h, wipeR_get ρ vs j]
      have : (j ∈ v :: vs) ↔ j ∈ vs := by simp [Ne.symm h]
      simp only [this]
theorem wipeR_length (ρ : Rho) (vs : List Nat) : (wipeR vs ρ).length = ρ.length := by
  induction vs with
  | nil => rfl
  | cons a r ih => simpa [wipeR] using ih
theorem wipe_set (σ : L2.St) {vs : List Nat} {i : Nat} {x : Option V} (h : i ∈ vs) : wipe (σ.set i x) vs = wipe σ vs := by
  apply List.ext_getElem?
  intro j
  rw [wipe_get, wipe_get]
  by_cases hj : j ∈ vs
  · rw [if_pos hj, if_pos hj]
    by_cases e : i = j
    · subst e
      rw [List.getElem?_set]
      rw [if_pos rfl]
      by_cases hl : i < σ.length
      · rw [if_pos hl, List.getElem?_eq_getElem hl]; rfl
      · rw [if_neg hl, List.getElem?_eq_none (by omega)]
    · rw [List.getElem?_set_ne e]
  · have e : i ≠ j := fun z => hj (z ▸ h)
    rw [if_neg hj, if_neg hj, List.getElem?_set_ne e]
theorem wipe_wipe (σ : L2.St) (vs : List Nat) : wipe (wipe σ vs) vs = wipe σ vs := by
  apply List.ext_getElem?
  intro j
  rw [wipe_get, wipe_get]
  by_cases hj : j ∈ vs
  · rw [if_pos hj, if_pos hj]
    cases σ[j]? <;> rfl
  · rw [if_neg hj, if_neg hj]
theorem wipe_sub (σ : L2.St) {us vs : List Nat} (h : ∀ i ∈ us, i ∈ vs) : wipe (wipe σ us) vs = wipe σ vs := by
  apply List.ext_getElem?
  intro j
  rw [wipe_get, wipe_get, wipe_get]
  by_cases hj : j ∈ vs
  · rw [if_pos hj, if_pos hj]
    by_cases hu : j ∈ us
    · rw [if_pos hu]; cases σ[j]? <;> rfl
    · rw [if_neg hu]
  · rw [if_neg hj, if_neg hj, if_neg (fun z => hj (h j z))]
section
variable {W : Wd} {H0 G H : Hp} {σ : L2.St} {ρ : Rho} {t : Nat}
theorem SR.set {i : Nat} {v : V} {d : D} (sr : SR W H0 G H σ ρ t) (r : R W G v d) : SR W H0 G H (σ.set i (some v)) (ρ.set i (.val d)) t where
  gd := sr.gd
  tl := sr.tl
  len := by simpa using sr.len
  val := fun j e h => by
    by_cases hj : i = j
    · subst hj
      rw [List.getElem?_set] at h ⊢
      rw [if_pos rfl] at h ⊢
      by_cases hl : i < ρ.length
      · rw [if_pos hl] at h
        cases h
        rw [if_pos (by rw [sr.len]; exact hl)]
        exact ⟨v, rfl, r⟩
      · rw [if_neg hl] at h; cases h
    · rw [List.getElem?_set_ne hj] at h ⊢
      exact sr.val j e h
  own := fun j e h => by
    by_cases hj : i = j
    · subst hj
      rw [List.getElem?_set] at h
      rw [if_pos rfl] at h
      by_cases hl : i < ρ.length
      · rw [if_pos hl] at h; cases h
      · rw [if_neg hl] at h; cases h
    · rw [List.getElem?_set_ne hj] at h ⊢
      exact sr.own j e h
  dis := fun j k d1 d2 p hjk h1 h2 h3 => by
    have ne : ∀ {j : Nat} {e : D}, (ρ.set i (.val d))[j]? = some (.own e) → i ≠ j := fun {j e} h z => by
      subst z
      rw [List.getElem?_set, if_pos rfl] at h
      by_cases hl : i < ρ.length
      · rw [if_pos hl] at h; cases h
      · rw [if_neg hl] at h; cases h
    have n1 := ne h1
    have n2 := ne h2
    rw [List.getElem?_set_ne n1] at h1 h3
    rw [List.getElem?_set_ne n2] at h2 ⊢
    exact sr.dis j k d1 d2 p hjk h1 h2 h3
theorem SR.wipe (sr : SR W H0 G H σ ρ t) (vs : List Nat) : SR W H0 G H (L2.wipe σ vs) (wipeR vs ρ) t where
  gd := sr.gd
  tl := sr.tl
  len := by rw [wipe_length, wipeR_length]; exact sr.len
  val := fun j e h => by
    rw [wipeR_get] at h
    rw [wipe_get]
    by_cases hj : j ∈ vs
    · rw [if_pos hj] at h
      cases q : ρ[j]? with
      | none => rw [q] at h; cases h
      | some _ => rw [q] at h; cases h
    · rw [if_neg hj] at h ⊢
      exact sr.val j e h
  own := fun j e h => by
    rw [wipeR_get] at h
    rw [wipe_get]
    by_cases hj : j ∈ vs
    · rw [if_pos hj] at h
      cases q : ρ[j]? with
      | none => rw [q] at h; cases h
      | some _ => rw [q] at h; cases h
    · rw [if_neg hj] at h ⊢
      exact sr.own j e h
  dis := fun j k d1 d2 p hjk h1 h2 h3 => by
    have ne : ∀ {j : Nat} {e : D}, (wipeR vs ρ)[j]? = some (.own e) → j ∉ vs := fun {j e} h z => by
      rw [wipeR_get, if_pos z] at h
      cases q : ρ[j]? with
      | none => rw [q] at h; cases h
      | some _ => rw [q] at h; cases h
    have n1 := ne h1
    have n2 := ne h2
    rw [wipeR_get, if_neg n1] at h1
    rw [wipeR_get, if_neg n2] at h2
    rw [wipe_get, if_neg n1] at h3
    rw [wipe_get, if_neg n2]
    exact sr.dis j k d1 d2 p hjk h1 h2 h3
/-! ### targets -/
def gNs : List Nat → TGs
  | [] => gNil
  | i :: is => gCons (gName i) (gNs is)
def gT (K : PySem.W.Frag) : Tg → TG
  | .one i => gName i
  | .many is => gTup K is.length (gNs is)
def Tg.ix : Tg → List Nat
  | .one i => [i]
  | .many is => is
theorem bindMany_go : ∀ {is : List Nat} {ds : List D} {xs : List V} {σ : L2.St} {ρ ρ' : Rho} {Q : L2.St → Hp → Prop}, SR W H0 G H σ ρ t → RL W G xs ds → bindMany is ds ρ = some ρ' →
    (∀ σ', SR W H0 G H σ' ρ' t → (∀ vs, (∀ i ∈ is, i ∈ vs) → L2.wipe σ' vs = L2.wipe σ vs) → Q σ' H) → gNs is xs σ H Q
  | [], ds, xs, σ, ρ, ρ', Q, sr, r, e, k => by
    cases r with
    | nil =>
      simp only [bindMany, Option.some.injEq] at e; subst e
      exact ⟨rfl, k σ sr fun _ _ => rfl⟩
    | cons _ _ => simp [bindMany] at e
  | i :: is, ds, xs, σ, ρ, ρ', Q, sr, r, e, k => by
    cases r with
    | nil => simp [bindMany] at e
    | @cons v d vs ds r1 r2 =>
      simp only [bindMany] at e
      refine ⟨v, vs, rfl, bindMany_go (sr.set (i := i) r1) r2 e fun σ' sr' hw => k σ' sr' fun us hu => ?_⟩
      rw [hw us (fun j hj => hu j (List.mem_cons_of_mem _ hj)), wipe_set σ (hu i List.mem_cons_self)]
theorem bindMany_len : ∀ {is : List Nat} {ds : List D} {ρ ρ' : Rho}, bindMany is ds ρ = some ρ' → ds.length = is.length
  | [], [], _, _, _ => rfl
  | [], _ :: _, _, _, e => by simp [bindMany] at e
  | _ :: _, [], _, _, e => by simp [bindMany] at e
  | i :: is, d :: ds, ρ, ρ', e => by
    simp only [bindMany] at e
    simp [bindMany_len e]
theorem gT_of {K : PySem.W.Frag} (hK : K = W.K) {tg : Tg} {v : V} {d : D} {kr : Rho → Prop} {Q : L2.St → Hp → Prop} (sr : SR W H0 G H σ ρ t) (r : R W G v d) (h : bindK tg d ρ kr)
    (k : ∀ σ' ρ', kr ρ' → SR W H0 G H σ' ρ' t → (∀ vs, (∀ i ∈ tg.ix, i ∈ vs) → L2.wipe σ' vs = L2.wipe σ vs) → Q σ' H) : gT K tg v σ H Q := by
  unfold bindK at h
  split at h
  · rename_i ρ' e
    cases tg with
    | one i =>
      simp only [bindT, Option.some.injEq] at e
      subst e
      exact k _ _ h (sr.set r) fun vs hv => wipe_set σ (hv i List.mem_cons_self)
    | many is =>
      unfold bindT at e
      simp only at e
      split at e
      · rename_i l
        obtain ⟨a, xs, rfl, ha, rl⟩ := r.tupE
        exact ⟨a, xs, rfl, by rw [hK]; exact sr.gd.sub.sqt ha, by rw [rl.length]; exact bindMany_len e, bindMany_go sr rl e fun σ' sr' hw => k σ' _ h sr' hw⟩
      · cases e
  · exact h.elim
end
end Lk
set_option autoImplicit false
set_option linter.all false
namespace Lk
open PySem PySem.Spec PyProof.Rows L2
/-- within a comprehension's block no exception is let out -/
def Ct.blk (c : Ct) : Ct := { c with x := noX, wx := fun _ _ _ _ => False }
theorem COk.blk {X : Cx} {c : Ct} (ok : COk X c) (s : Shared) (H : Hp) (scope : Scope) (cenv : Env) (fp : List Addr) : COk (X.blk s H scope cenv fp) c.blk where
  toXW := ⟨ok.K, ok.mg, ok.P, ok.w, ok.hu, ok.isc⟩
  mono := ok.mono
  calm := ok.calm
  nd := ok.nd
  takes := fun u s' ⟨_, _, _, _, _, _, _, _, _, _, _, _, _, _, _, _, h⟩ => h.elim
  po := PassesOwn.never
  gl := ok.gl
theorem XOk.no {W : Wd} {G H : Hp} {σ : L2.St} {wx : WX} : XOk W G H σ noX wx := fun _ _ _ h => h.elim
theorem Step.put {W : Wd} {G H G' H' : Hp} {p : Addr} {o : HO} (s : Step W G H G' H') (w : WI W H) (hp : H p = none) (gp : G' p = none) : Step W G H G' (upd H' p o) where
  keep := fun b u e n => by rw [upd_ne (ne_of_none e hp)]; exact s.keep b u e n
  live := fun b e => by
    by_cases hb : b = p
    · rw [hb, upd_same]; simp
    · rw [upd_ne hb]; exact s.live b e
  gext := s.gext
  gsub := fun b u e => by rw [upd_ne (ne_of_none e gp)]; exact s.gsub b u e
  gnew := s.gnew
  gno := s.gno
  wi := fun a gr cc e => by
    obtain ⟨⟨gs, cs, l, t, h1, h2, h3, _⟩, _⟩ := w a gr cc e
    obtain ⟨⟨gs', cs', l', t', k1, k2, k3, r⟩, n⟩ := s.wi a gr cc e
    exact ⟨⟨gs', cs', l', t', by rw [upd_ne (ne_of_none h1 hp)]; exact k1, by rw [upd_ne (ne_of_none h2 hp)]; exact k2, by rw [upd_ne (ne_of_none h3 hp)]; exact k3, r⟩, n⟩
/-! ### tests of a clause -/
def tC (c : Ct) (e : E) : TT := fun σ H Q => ∃ G ρ t, SR c.W c.H0 G H σ ρ t ∧ XOk c.W G H σ c.x c.wx ∧ evc c.g c.Φ c.x e ρ t fun t' b => ∀ H' G', Step c.W G H G' H' → TL c.W H' t' → Q b H'
theorem _root_.L2.PTs.imp {X : Cx} {e : List Expr} {t t' : TT} (h : PTs X e t) (m : ∀ σ H Q, t' σ H Q → t σ H Q) : PTs X e t' := ⟨fun pins s σ H Q I q => h.run pins s σ H Q I (m σ H Q q)⟩
section
variable {X : Cx} {c : Ct} (ok : COk X c)
include ok
theorem c_nil : PTs X [] (tC c .nil) := pts_nil.imp fun σ H Q ⟨G, ρ, _, sr, xo, h⟩ => by
  simp only [evc] at h
  exact h H G sr.gd.step sr.tl
theorem c_one {a : Expr} {ea : E} (ha : PT X a (tT c ea)) : PTs X [a] (tC c (.cons ea .nil)) := (pts_one ha).imp fun σ H Q ⟨G, ρ, _, sr, xo, h⟩ => by
  simp only [evc] at h
  refine ⟨G, ρ, _, sr, xo, ev_mono ok.mono _ _ (fun _ f d h => trD_mono (fun b hb => ?_) h) h⟩
  cases b <;> exact hb
end
/-! ### one clause -/
section
variable {c : Ct} (mono : CalMono c.Φ)
include mono
theorem goF' {e : E} {k : Nat → D → Prop} {P : VK} {σ : L2.St} {H G : Hp} {ρ : Rho} {t : Nat} (sr : SR c.W c.H0 G H σ ρ t) (xo : XOk c.W G H σ c.x c.wx) (h : ev c.g c.Φ c.x e ρ t fun t f d => f ≠ .b ∧ k t d)
    (hk : ∀ {t'} d v H' G', k t' d → Step c.W G H G' H' → R c.W G' v d → SR c.W c.H0 G' H' σ ρ t' → XOk c.W G' H' σ c.x c.wx → P v H') : tD c e σ H P :=
  ⟨G, ρ, t, sr, xo, ev_mono mono e ρ (fun t' fl d hd v H' G' s tl rv => by
    obtain ⟨G2, s2, r, _⟩ := rv.freeze sr.gd.wi s hd.1
    exact hk d v H' G2 hd.2 s2 r (sr.step s2 tl) (xo.step s2)) h⟩
/-- the new list as it grows -/
structure Gr (W : Wd) (G1 H1 : Hp) (Dl : Addr) (G2 H2 : Hp) (accV : List V) (acc : List D) : Prop where
  st : Step W G1 H1 G2 H2
  at' : H2 Dl = some (.lst accV)
  no : G2 Dl = none
  rl : RL W G2 accV acc
omit mono in
theorem Gr.step {W : Wd} {G1 H1 G2 H2 G3 H3 : Hp} {Dl : Addr} {accV : List V} {acc : List D} (w : WI W H1) (hD : H1 Dl = none) (g : Gr W G1 H1 Dl G2 H2 accV acc) (s : Step W G2 H2 G3 H3) : Gr W G1 H1 Dl G3 H3 accV acc where
  st := g.st.trans s
  at' := s.keep Dl _ g.at' fun z => z.elim (w.notSt hD) fun ⟨ps, z⟩ => by cases z
  no := by rw [s.gnew Dl (by rw [g.at']; simp)]; exact g.no
  rl := g.rl.mono s.gext
omit mono in
theorem Gr.app {W : Wd} {G1 H1 G2 H2 : Hp} {Dl : Addr} {accV : List V} {acc : List D} {v : V} {d : D} (w : WI W H1) (hD : H1 Dl = none) (g : Gr W G1 H1 Dl G2 H2 accV acc) (r : R W G2 v d) : Gr W G1 H1 Dl G2 (upd H2 Dl (.lst (accV ++ [v]))) (accV ++ [v]) (acc ++ [d]) where
  st := g.st.put w hD g.no
  at' := upd_same
  no := g.no
  rl := g.rl.append (.cons r .nil)
/-- a turn of the innermost clause -/
theorem lc_turn {own : List Nat} {tg : Tg} {conds ee : E} {ht : ∀ i ∈ tg.ix, i ∈ own} {G1 H1 G2 H2 : Hp} {Dl : Addr} {accV : List V} {acc : List D} {σ : L2.St} {ρ : Rho} {t : Nat} {k' : Nat → List D → Prop} {Nx : Hp → Prop} {x : V} {d : D} {K : PySem.W.Frag} (hK : K = c.W.K)
    (w : WI c.W H1) (hD : H1 Dl = none) (g : Gr c.W G1 H1 Dl G2 H2 accV acc) (sr : SR c.W c.H0 G2 H2 σ ρ t) (r : R c.W G2 x d)
    (h : bindK tg d (wipeR own ρ) fun ρ' => evc c.g c.Φ noX conds ρ' t fun t1 b => if b = true then ev c.g c.Φ noX ee ρ' t1 (fun t2 f d => f ≠ .b ∧ acc.length < sizeLine ∧ k' t2 (acc ++ [d])) else k' t1 acc)
    (nx : ∀ {t'} G3 H3 accV' acc', Gr c.W G1 H1 Dl G3 H3 accV' acc' → TL c.W H3 t' → Step c.W G2 H2 G3 H3 ∨ (∃ G4 H4 , Step c.W G2 H2 G4 H4 ∧ TL c.W H4 t' ∧ G3 = G4 ∧ ∃ o, H3 = upd H4 Dl o) → k' t' acc' → Nx H3) :
    gT K tg x (wipe σ own) H2 fun σ2 H' => wipe σ2 own = wipe σ own ∧ tC c.blk conds σ2 H' fun b H3 =>
      if b = true then tD c.blk ee σ2 H3 fun y H4 => ∃ acc, H4 Dl = some (.lst acc) ∧ acc.length < sizeLine ∧ Nx (upd H4 Dl (.lst (acc ++ [y]))) else Nx H3 := by
  refine gT_of hK (sr.wipe own) r h fun σ2 ρ2 h2 sr2 hw => ⟨by rw [hw own ht, wipe_wipe], G2, ρ2, _, sr2, XOk.no, evc_mono mono _ _ (fun t1 b hb H3 G3 s3 tl3 => ?_) h2⟩
  have g3 := g.step w hD s3
  cases b
  · exact nx _ _ _ _ g3 tl3 (.inl s3) hb
  · refine goF' (c := c.blk) mono (sr2.step s3 tl3) XOk.no hb fun d v H5 G5 ⟨hl, hk⟩ s5 r5 sr5 _ => ?_
    have g5 := g3.step w hD s5
    exact ⟨accV, g5.at', by rw [g5.rl.length]; exact hl, nx _ _ _ _ (g5.app w hD r5) (Pu.off (w.notSt hD) _ sr5.tl) (.inr ⟨_, _, s3.trans s5, sr5.tl, rfl, _, rfl⟩) hk⟩
theorem lc1 {own : List Nat} {tg : Tg} {it conds ee : E} (ht : ∀ i ∈ tg.ix, i ∈ own) {σ : L2.St} {H : Hp} {Q : VK} {K : PySem.W.Frag} (hK : K = c.W.K) (h : tD c (.lc ee (.gcons own tg it conds .nil)) σ H Q) :
    tLc (tI c it) (gT K tg) (tC c.blk conds) (tD c.blk ee) own σ H Q := by
  obtain ⟨G, ρ, t, sr, xo, h⟩ := h
  simp only [ev, evg] at h
  refine ⟨G, ρ, t, sr, xo, evi_mono mono _ _ (fun t1 items h J H1 G1 s1 tl1 y Dl hD => ?_) h⟩
  have tl1' : TL c.W (upd H1 Dl (.lst [])) t1 := Pu.new s1.wi hD _ tl1
  refine ⟨fun i m H2 => i ≤ items.length ∧ m = items.length - i ∧ ∃ G2 accV acc t2, Gr c.W G1 H1 Dl G2 H2 accV acc ∧ TL c.W H2 t2 ∧ lcGo _ (items.drop i) acc t2 (fun t3 acc => KQt c.W G H Q t3 .n (.lst acc)),
    ⟨_, Nat.zero_le _, rfl, G1, [], [], t1, ⟨s1.gd.newOwn hD, upd_same, s1.gd.none hD, .nil⟩, tl1', h⟩, fun i m H2 ⟨hi, hm, G2, accV, acc, t2, g, tl2, hl⟩ => ?_⟩
  by_cases hi' : items.length = i
  · refine .inl ⟨y.stop i G2 H2 g.st.gext g.st.gd hi', ?_⟩
    rw [List.drop_eq_nil_of_le (by omega)] at hl
    exact hl _ _ _ (s1.trans g.st) tl2 ⟨Dl, rfl, s1.back hD, g.no, accV, g.at', g.rl⟩
  · have hlt : i < items.length := by omega
    rw [List.drop_eq_getElem_cons hlt] at hl
    simp only [lcGo] at hl
    obtain ⟨y1, y2⟩ := y.go i items[i] G2 H2 g.st.gext g.st.gd (List.getElem?_eq_getElem hlt)
    refine .inr ⟨y1, fun H' => ∃ m', m' < m ∧ (i + 1 ≤ items.length ∧ m' = items.length - (i + 1) ∧ ∃ G2 accV acc t2, Gr c.W G1 H1 Dl G2 H' accV acc ∧ TL c.W H' t2 ∧ lcGo _ (items.drop (i + 1)) acc t2 (fun t3 acc => KQt c.W G H Q t3 .n (.lst acc))), fun H' h => h, fun x H' hy => ?_⟩
    obtain ⟨G3, s3, pu3, r3⟩ := y2 x H' hy
    refine lc_turn mono (k' := fun t3 acc' => lcGo _ (items.drop (i + 1)) acc' t3 (fun t4 acc => KQt c.W G H Q t4 .n (.lst acc))) (ht := ht) hK s1.wi hD (g.step s1.wi hD s3) (sr.step ((s1.trans g.st).trans s3) (pu3 _ tl2)) r3 hl fun G4 H4 accV' acc' g4 tl4 _ hk => ?_
    exact ⟨_, by omega, hlt, rfl, G4, accV', acc', _, g4, tl4, hk⟩
end
section
variable {X : Cx} {c : Ct} (ok : COk X c)
include ok
theorem d_lc {elt tg iter : Expr} {ifs : List Expr} {scope : Scope} {own : List (Str × Nat)} {pos : Pos} {t : Tg} {it conds ee : E} (ht : ∀ i ∈ t.ix, i ∈ own.map (·.2)) (hi : PI X tg iter (tI c it)) (bo : BlkOk X.N X.env.scope scope own)
    (hg : ∀ (s : Shared) (H : Hp) (C : Addr) (cl : List (Str × Addr)) (fp : List Addr), PG (X.blk s H scope (compEnvC scope cl C X.env) fp) tg (gT X.K t)) (hc : ∀ (s : Shared) (H : Hp) (C : Addr) (cl : List (Str × Addr)) (fp : List Addr), PTs (X.blk s H scope (compEnvC scope cl C X.env) fp) ifs (tC c.blk conds))
    (he : ∀ (s : Shared) (H : Hp) (C : Addr) (cl : List (Str × Addr)) (fp : List Addr), PE (X.blk s H scope (compEnvC scope cl C X.env) fp) elt (tD c.blk ee)) (hs : ∀ x, foldedSetIterable iter X.env x = pure x) :
    PE X (.ListComp elt [⟨tg, iter, ifs, 0⟩] scope pos) (tD c (.lc ee (.gcons (own.map (·.2)) t it conds .nil))) :=
  (pe_lc ok.calm ok.nd hi bo hg hc he hs).imp fun σ H Q h => lc1 ok.mono ht ok.K h
end
end Lk
set_option autoImplicit false
set_option linter.all false
namespace Lk
open PySem PySem.Spec PyProof.Rows L2
section
variable {W : Wd} {H0 G H : Hp} {σ : L2.St} {ρ : Rho} {t : Nat} {p : Addr} {o o' : HO}
theorem none_upd (h : upd H0 p o = fun b => if b = p then some o else H0 b := by rfl) {b : Addr} (e : upd H0 p o b = none) : b ≠ p ∧ H0 b = none := by
  by_cases hb : b = p
  · rw [hb, upd_same] at e; cases e
  · rw [upd_ne hb] at e; exact ⟨hb, e⟩
theorem SR.older (r : SR W (upd H0 p o) G H σ ρ t) : SR W H0 G H σ ρ t where
  gd := r.gd
  tl := r.tl
  len := r.len
  val := r.val
  own := fun i d e => by
    obtain ⟨q, h1, h2, h3⟩ := r.own i d e
    exact ⟨q, h1, (none_upd rfl h2).2, h3⟩
  dis := r.dis
/-- an object that came later is no slot's own -/
theorem SR.apart (r : SR W H0 G H σ ρ t) (hp : H p = none) : SR W (upd H0 p o) G H σ ρ t where
  gd := r.gd
  tl := r.tl
  len := r.len
  val := r.val
  own := fun i d e => by
    obtain ⟨q, h1, h2, h3, h4, h5⟩ := r.own i d e
    obtain ⟨u, hu, _⟩ := h5.there
    exact ⟨q, h1, by rw [upd_ne (ne_of_none hu hp)]; exact h2, h3, h4, h5⟩
  dis := r.dis
theorem OwnC.put {q : Addr} {d : D} (h : OwnC W G H q d) (hq : q ≠ p) : OwnC W G (upd H p o') q d := h.stay (Sub.refl _) (upd_ne hq)
theorem SR.put {t' : Nat} (r : SR W (upd H0 p o) G H σ ρ t) (g : Gd W G (upd H p o')) (tl : TL W (upd H p o') t') : SR W (upd H0 p o) G (upd H p o') σ ρ t' where
  gd := g
  tl := tl
  len := r.len
  val := r.val
  own := fun i d e => by
    obtain ⟨q, h1, h2, h3, h4, h5⟩ := r.own i d e
    exact ⟨q, h1, h2, h3, h4, h5.put (none_upd rfl h2).1⟩
  dis := r.dis
end
section
variable {c : Ct} (mono : CalMono c.Φ)
include mono
/-- the inner clause of two -/
theorem lc_inner {own1 : List Nat} {t1 : Tg} {it1 conds1 ee : E} (ht1 : ∀ i ∈ t1.ix, i ∈ own1) {K : PySem.W.Frag} (hK : K = c.W.K) {G1 H1 G2 H2 : Hp} {Dl : Addr} {accV : List V} {acc : List D} {σ : L2.St} {ρ : Rho} {t : Nat} {kq : Nat → List D → Prop} {Nx : Hp → Prop} {oD : HO}
    (w : WI c.W H1) (hD : H1 Dl = none) (g : Gr c.W G1 H1 Dl G2 H2 accV acc) (sr : SR c.W (upd c.H0 Dl oD) G2 H2 σ ρ t)
    (h : evg c.g c.Φ noX (.gcons own1 t1 it1 conds1 .nil) (fun ρ' => ev c.g c.Φ noX ee ρ') ρ acc t kq)
    (nx : ∀ {t'} G3 H3 accV' acc', Gr c.W G1 H1 Dl G3 H3 accV' acc' → TL c.W H3 t' → kq t' acc' → Nx H3) :
    tI c.blk it1 σ H2 fun J1 H4 => ∃ W1 : Nat → Nat → Hp → Prop, (∃ m, W1 0 m H4) ∧ ∀ j k H, W1 j k H →
      (J1.stop j H ∧ Nx H) ∨ (J1.go j H ∧ ∃ Nx1 : Hp → Prop, (∀ H', Nx1 H' → ∃ k', k' < k ∧ W1 (j + 1) k' H') ∧ ∀ x H', J1.yld j H x H' → gT K t1 x (wipe σ own1) H' fun σ3 H5 => wipe σ3 own1 = wipe σ own1 ∧ tC c.blk conds1 σ3 H5 fun b H6 =>
        if b = true then tD c.blk ee σ3 H6 fun y H7 => ∃ acc, H7 Dl = some (.lst acc) ∧ acc.length < sizeLine ∧ Nx1 (upd H7 Dl (.lst (acc ++ [y]))) else Nx1 H6) := by
  simp only [evg] at h
  refine ⟨G2, ρ, t, sr.older, XOk.no, evi_mono mono _ _ (fun t4 items h J H4 G4 s4 tl4 y => ?_) h⟩
  refine ⟨fun i m H => i ≤ items.length ∧ m = items.length - i ∧ ∃ G accV acc t5, Gr c.W G1 H1 Dl G H accV acc ∧ SR c.W (upd c.H0 Dl oD) G H σ ρ t5 ∧ Sub G4 G ∧ lcGo _ (items.drop i) acc t5 kq,
    ⟨_, Nat.zero_le _, rfl, G4, accV, acc, t4, g.step w hD s4, sr.step s4 tl4, Sub.refl _, h⟩, fun i m H ⟨hi, hm, G, accV, acc, t5, g, sr, sb, hl⟩ => ?_⟩
  by_cases hi' : items.length = i
  · refine .inl ⟨y.stop i G H sb g.st.gd hi', ?_⟩
    rw [List.drop_eq_nil_of_le (by omega)] at hl
    exact nx _ _ _ _ g sr.tl hl
  · have hlt : i < items.length := by omega
    rw [List.drop_eq_getElem_cons hlt] at hl
    simp only [lcGo] at hl
    obtain ⟨y1, y2⟩ := y.go i items[i] G H sb g.st.gd (List.getElem?_eq_getElem hlt)
    refine .inr ⟨y1, fun H' => ∃ m', m' < m ∧ (i + 1 ≤ items.length ∧ m' = items.length - (i + 1) ∧ ∃ G accV acc t5, Gr c.W G1 H1 Dl G H' accV acc ∧ SR c.W (upd c.H0 Dl oD) G H' σ ρ t5 ∧ Sub G4 G ∧ lcGo _ (items.drop (i + 1)) acc t5 kq), fun H' h => h, fun x H' hy => ?_⟩
    obtain ⟨G3, s3, pu3, r3⟩ := y2 x H' hy
    have sr3 := sr.step s3 (pu3 _ sr.tl)
    refine lc_turn mono (k' := fun t6 acc' => lcGo _ (items.drop (i + 1)) acc' t6 kq) (ht := ht1) hK w hD (g.step w hD s3) sr3.older r3 hl fun G5 H5 accV' acc' g5 tl5 q hk => ?_
    refine ⟨_, by omega, hlt, rfl, G5, accV', acc', _, g5, ?_, ?_, hk⟩
    · rcases q with q | ⟨G6, H6, q, tl6, e, o, e2⟩
      · exact sr3.step q tl5
      · have sr6 := sr3.step q tl6
        rw [e]
        have gd := g5.st.gd
        rw [e, e2] at gd
        rw [e2] at tl5 ⊢
        exact sr6.put gd tl5
    · rcases q with q | ⟨G6, H6, q, tl6, e, o, e2⟩
      · exact (sb.trans s3.gext).trans q.gext
      · rw [e]; exact (sb.trans s3.gext).trans q.gext
theorem lc2 {own own1 : List Nat} {tg t1 : Tg} {it conds it1 conds1 ee : E} (ht : ∀ i ∈ tg.ix, i ∈ own) (ht1 : ∀ i ∈ t1.ix, i ∈ own1) {σ : L2.St} {H : Hp} {Q : VK} {K : PySem.W.Frag} (hK : K = c.W.K) (h : tD c (.lc ee (.gcons own tg it conds (.gcons own1 t1 it1 conds1 .nil))) σ H Q) :
    tLc2 (tI c it) (gT K tg) (tC c.blk conds) (tI c.blk it1) (gT K t1) (tC c.blk conds1) (tD c.blk ee) own own1 σ H Q := by
  obtain ⟨G, ρ, t, sr, xo, h⟩ := h
  simp only [ev] at h
  unfold evg at h
  refine ⟨G, ρ, t, sr, xo, evi_mono mono _ _ (fun tt items h J H1 G1 s1 tl1 y Dl hD => ?_) h⟩
  have tl1' : TL c.W (upd H1 Dl (.lst [])) tt := Pu.new s1.wi hD _ tl1
  refine ⟨fun i m H2 => i ≤ items.length ∧ m = items.length - i ∧ ∃ G2 accV acc t2, Gr c.W G1 H1 Dl G2 H2 accV acc ∧ TL c.W H2 t2 ∧ lcGo _ (items.drop i) acc t2 (fun t3 acc => KQt c.W G H Q t3 .n (.lst acc)),
    ⟨_, Nat.zero_le _, rfl, G1, [], [], tt, ⟨s1.gd.newOwn hD, upd_same, s1.gd.none hD, .nil⟩, tl1', h⟩, fun i m H2 ⟨hi, hm, G2, accV, acc, t2, g, tl2, hl⟩ => ?_⟩
  by_cases hi' : items.length = i
  · refine .inl ⟨y.stop i G2 H2 g.st.gext g.st.gd hi', ?_⟩
    rw [List.drop_eq_nil_of_le (by omega)] at hl
    exact hl _ _ _ (s1.trans g.st) tl2 ⟨Dl, rfl, s1.back hD, g.no, accV, g.at', g.rl⟩
  · have hlt : i < items.length := by omega
    rw [List.drop_eq_getElem_cons hlt] at hl
    unfold lcGo at hl
    dsimp only at hl
    obtain ⟨y1, y2⟩ := y.go i items[i] G2 H2 g.st.gext g.st.gd (List.getElem?_eq_getElem hlt)
    refine .inr ⟨y1, fun H' => ∃ m', m' < m ∧ (i + 1 ≤ items.length ∧ m' = items.length - (i + 1) ∧ ∃ G2 accV acc t2, Gr c.W G1 H1 Dl G2 H' accV acc ∧ TL c.W H' t2 ∧ lcGo _ (items.drop (i + 1)) acc t2 (fun t3 acc => KQt c.W G H Q t3 .n (.lst acc))), fun H' h => h, fun x H' hy => ?_⟩
    obtain ⟨G3, s3, pu3, r3⟩ := y2 x H' hy
    have g3 := g.step s1.wi hD s3
    have tl3 := pu3 _ tl2
    have srw : SR c.W (upd c.H0 Dl (.lst [])) G3 H' (wipe σ own) (wipeR own ρ) t2 := ((sr.step s1 tl1).apart hD).step (g.st.trans s3) tl3 |>.wipe own
    refine gT_of (W := c.W) hK srw r3 hl fun σ2 ρ2 h2 sr2 hw => ⟨by rw [hw own ht, wipe_wipe], G3, ρ2, _, sr2.older, XOk.no, evc_mono mono _ _ (fun t4 b hb H3 G4 s4 tl4 => ?_) h2⟩
    have g4 := g3.step s1.wi hD s4
    cases b
    · exact ⟨_, by omega, hlt, rfl, G4, accV, acc, t4, g4, tl4, hb⟩
    · exact lc_inner mono ht1 hK s1.wi hD g4 (sr2.step s4 tl4) hb fun G5 H5 accV' acc' g5 tl5 hk => ⟨_, by omega, hlt, rfl, G5, accV', acc', _, g5, tl5, hk⟩
end
section
variable {X : Cx} {c : Ct} (ok : COk X c)
include ok
theorem d_lc2 {elt tg iter tg1 iter1 : Expr} {ifs ifs1 : List Expr} {scope : Scope} {own : List (Str × Nat)} {vs1 : List Nat} {pos : Pos} {t t1 : Tg} {it conds it1 conds1 ee : E} (ht : ∀ i ∈ t.ix, i ∈ own.map (·.2)) (ht1 : ∀ i ∈ t1.ix, i ∈ vs1) (hi : PI X tg iter (tI c it)) (bo : BlkOk X.N X.env.scope scope own) (hv : ∀ i ∈ vs1, i ∈ own.map (·.2))
    (hg : ∀ (s : Shared) (H : Hp) (C : Addr) (cl : List (Str × Addr)) (fp : List Addr), PG (X.blk s H scope (compEnvC scope cl C X.env) fp) tg (gT X.K t)) (hc : ∀ (s : Shared) (H : Hp) (C : Addr) (cl : List (Str × Addr)) (fp : List Addr), PTs (X.blk s H scope (compEnvC scope cl C X.env) fp) ifs (tC c.blk conds))
    (hi1 : ∀ (s : Shared) (H : Hp) (C : Addr) (cl : List (Str × Addr)) (fp : List Addr), PI (X.blk s H scope (compEnvC scope cl C X.env) fp) tg1 iter1 (tI c.blk it1))
    (hg1 : ∀ (s : Shared) (H : Hp) (C : Addr) (cl : List (Str × Addr)) (fp : List Addr), PG (X.blk s H scope (compEnvC scope cl C X.env) fp) tg1 (gT X.K t1)) (hc1 : ∀ (s : Shared) (H : Hp) (C : Addr) (cl : List (Str × Addr)) (fp : List Addr), PTs (X.blk s H scope (compEnvC scope cl C X.env) fp) ifs1 (tC c.blk conds1))
    (he : ∀ (s : Shared) (H : Hp) (C : Addr) (cl : List (Str × Addr)) (fp : List Addr), PE (X.blk s H scope (compEnvC scope cl C X.env) fp) elt (tD c.blk ee)) (hs : ∀ x, foldedSetIterable iter X.env x = pure x) (hs1 : ∀ env x, foldedSetIterable iter1 env x = pure x) :
    PE X (.ListComp elt [⟨tg, iter, ifs, 0⟩, ⟨tg1, iter1, ifs1, 0⟩] scope pos) (tD c (.lc ee (.gcons (own.map (·.2)) t it conds (.gcons vs1 t1 it1 conds1 .nil)))) :=
  (pe_lc2 ok.calm ok.nd hi bo hv hg hc hi1 hg1 hc1 he hs hs1).imp fun σ H Q h => lc2 ok.mono ht ht1 ok.K h
end
end Lk
set_option autoImplicit false
set_option linter.all false
namespace Lk
open PySem PySem.Spec PyProof.Rows L2
/-! ### len(set(xs)) -/
theorem unlike_eq : ∀ {ns : List Int} {l : List Int}, l.Nodup → (∀ x, x ∈ l ↔ x ∈ ns) → l.length = unlike ns
  | [], l, _, h => by
    cases l with
    | nil => rfl
    | cons a r => exact absurd ((h a).mp List.mem_cons_self) (by simp)
  | i :: r, l, hn, h => by
    unfold unlike
    by_cases hi : i ∈ r
    · rw [if_pos hi]
      exact unlike_eq hn fun x => (h x).trans ⟨fun q => by rcases List.mem_cons.mp q with rfl | q; exact hi; exact q, List.mem_cons_of_mem _⟩
    · rw [if_neg hi]
      have hm : i ∈ l := (h i).mpr List.mem_cons_self
      have := unlike_eq (ns := r) (l := l.erase i) (hn.erase i) fun x => by
        rw [hn.mem_erase_iff, h x, List.mem_cons]
        constructor
        · rintro ⟨h1, h2 | h2⟩
          · exact absurd h2 h1
          · exact h2
        · intro h2
          exact ⟨fun e => hi (e ▸ h2), .inr h2⟩
      rw [List.length_erase_of_mem hm] at this
      have hp := List.length_pos_of_mem hm
      omega
theorem firstMet_unlike (ns : List Int) : (firstMet (fun i => ns.getD i 0) ns.length).length = unlike ns := by
  have key : ∀ i, i ≤ ns.length → (firstMet (fun i => ns.getD i 0) i).Nodup ∧ ∀ x, x ∈ firstMet (fun i => ns.getD i 0) i ↔ x ∈ ns.take i := by
    intro i
    induction i with
    | zero => intro _; simp [firstMet_zero]
    | succ i ih =>
      intro hi
      obtain ⟨n1, n2⟩ := ih (by omega)
      have e1 : ns.getD i 0 = ns[i] := by rw [List.getD_eq_getElem?_getD, List.getElem?_eq_getElem (by omega)]; rfl
      rw [firstMet_succ, e1, List.take_succ, List.getElem?_eq_getElem (by omega)]
      unfold step_dedup
      have any : (List.any (firstMet (fun i => ns.getD i 0) i) fun x => x == ns[i]) = decide (ns[i] ∈ firstMet (fun i => ns.getD i 0) i) := by
        rw [Bool.eq_iff_iff]; simp
      rw [any]
      by_cases hm : ns[i] ∈ firstMet (fun i => ns.getD i 0) i
      · rw [decide_eq_true hm]
        refine ⟨n1, fun x => ?_⟩
        simp only [if_true]
        rw [n2, List.mem_append]
        constructor
        · exact .inl
        · rintro (h | h)
          · exact h
          · simp at h; subst h; exact (n2 _).mp hm
      · rw [decide_eq_false hm]
        simp only [Bool.false_eq_true, if_false]
        refine ⟨?_, fun x => ?_⟩
        · rw [List.nodup_append]
          refine ⟨n1, by simp, fun a ha b hb => ?_⟩
          simp at hb; subst hb
          exact fun e => hm (e ▸ ha)
        · rw [List.mem_append, List.mem_append, n2]; simp
  obtain ⟨h1, h2⟩ := key ns.length (Nat.le_refl _)
  rw [List.take_length] at h2
  exact unlike_eq h1 h2
section
variable {X : Cx} {c : Ct} (ok : COk X c)
include ok
theorem d_lset {a : Expr} {ea : E} {p p2 q pos : Pos} (hg : Gl X "len") (hm : X.mg "len" = none) (hg2 : Gl X "set") (hm2 : X.mg "set" = none) (ha : PE X a (tD c ea))
    (na : starEach [a] X.env = (false, eval a X.env) :: starEach [] X.env) : PE X (.Call (.Name "len" p) [.Call (.Name "set" p2) [a] [] q] [] pos) (tD c (.blt .lset (.cons ea .nil))) := by
  refine ⟨fun pins s σ H Q I ⟨G, ρ, t, sr, xo, h⟩ => ?_⟩
  simp only [ev, evs] at h
  have h' : tD c ea σ H fun v H1 => ∃ G1 d l ns, Gd c.W G1 H1 ∧ RB c.W G1 H1 v d ∧ seqOf d = some l ∧ intsOf l = some ns ∧ ns.length ≤ 4000 ∧ KQ c.W G1 H1 Q .f (.int (unlike ns)) := by
    refine goB (k := fun t d => ∃ l ns, seqOf d = some l ∧ intsOf l = some ns ∧ ns.length ≤ 4000 ∧ KQt c.W G H Q t .f (.int (unlike ns))) ok sr xo h fun d v H' G' ⟨l, ns, h1, h2, h3, h4⟩ s rb sr' xo' => ⟨G', d, l, ns, sr'.gd, rb, h1, h2, h3, h4.from s sr'.tl⟩
  refine Call_ (ld_blt I hg hm boot_len ?_)
  refine callWith_builtin1 (args_cons ?_ rfl) rfl rfl
  refine Call_ (ld_blt I hg2 hm2 boot_set ?_)
  refine callWith_type1 (args_cons (thn (ha.run pins s σ H _ I h') fun v s1 ⟨x, H1, I1, r1, G1, d, l, ns, g, rb, e1, e2, e3, q1⟩ => args_nil ?_) na) na rfl
  cases d with
  | lst l' =>
    cases e1
    obtain ⟨p, xs, rfl, hp, rl⟩ := rb.lstE g.sub
    obtain rfl := r1
    obtain rfl := (rl.ints e2).1
    obtain ⟨its, r, pl, hz⟩ := I1.list (SqL.of hp)
    have hlen : its.toArray.size = ns.length := by rw [List.size_toArray, ← r.length, List.length_map]
    refine call_set_list (I1.ok.hd ok.calm) pl.isList (by simpa using RZ.intsAre_vals r) (by rw [hlen]; unfold scanBound; omega) fun h' tk hS hk => ?_
    refine args_nil ?_
    rw [hlen, firstMet_unlike] at hS
    obtain ⟨o, es, ep, t, ho, hex, hd, _, _, hsb, hf, hn⟩ := hS
    have I2 : Inv X pins σ H1 { s1 with heap := h', toks := tk } := I1.kept fun b o e => hk b o (Heap.lt_size e) e
    exact call_len_set ho hex hd hf (by unfold scanBound at hsb; omega) ⟨.int (unlike ns), H1, I2.tok _, ⟨_, by rw [hn]⟩, q1.flat g (.int _)⟩
  | tup l' =>
    cases e1
    obtain ⟨p, xs, rfl, hp, rl⟩ := rb.tupE
    obtain rfl := r1
    obtain rfl := (rl.ints e2).1
    obtain ⟨its, r, pl, hz⟩ := I1.tuple (a := p) (xs := ns.map V.int) (by rw [ok.K]; exact g.sub.sqt hp)
    refine call_set_tupI ns (I1.ok.hd ok.calm) (show s1.heap.IsTuple p its.toArray from pl) (by simpa using RZ.intsAre_vals r) (by unfold scanBound; omega) fun h' tk cnt hS hc hk => ?_
    refine args_nil ?_
    obtain ⟨o, es, ep, t, ho, hex, hd, _, hnd, hmem, hsb, hf, hn, _⟩ := hS
    have I2 : Inv X pins σ H1 { s1 with heap := h', toks := tk } := I1.kept hk
    have hu : cnt = unlike ns := by
      rw [← unlike_eq hnd fun x => (hmem x).symm.trans (by simp), List.length_map]
      simpa using hn.symm
    exact call_len_set ho hex hd hf (by unfold scanBound at hsb; omega) ⟨.int (unlike ns), H1, I2.tok _, ⟨_, by rw [hn, hu]⟩, q1.flat g (.int _)⟩
  | _ => cases e1
/-! ### built-in functions called -/
theorem d_bltB {b : Bi} {nm : Str} {id : String} {e : Expr} {es : List Expr} {ea : E} {p pos : Pos} (hc : CallR X (.builtin id) (rBl c.W b)) (hg : Gl X nm) (hm : X.mg nm = none) (hv : bootBuiltins nm = some (.builtin id)) (ha : PA X (e :: es) (tA c ea)) (hn : nm ≠ "__name__") (hdb : (nm == ("__debug__" : Str)) = false)
    (he : starEach (e :: es) X.env = (false, eval e X.env) :: starEach es X.env) (hpl : (backTo pos (starEach es X.env)).any (·.1) = false) : PE X (.Call (.Name nm p) (e :: es) [] pos) (tD c (.blt b ea)) :=
  (pe_callB hc hg hm hv ha hn hdb he hpl).imp fun σ H Q ⟨G, ρ, t, sr, xo, h⟩ => by
    simp only [ev] at h
    exact goA ok sr xo h fun as vs H' G' h s ra sr' xo' => ⟨G', _, sr'.gd, ra.rbl, bltD_mono (fun _ _ h => KQt.from s sr'.tl h) h⟩
theorem d_bltT {b : Bi} {nm : Str} {id : String} {e : Expr} {es : List Expr} {ea : E} {p pos : Pos} (hc : CallR X (.type id) (rBl c.W b)) (hg : Gl X nm) (hm : X.mg nm = none) (hv : bootBuiltins nm = some (.type id)) (ha : PA X (e :: es) (tA c ea)) (hn : nm ≠ "__name__") (hdb : (nm == ("__debug__" : Str)) = false)
    (he : starEach (e :: es) X.env = (false, eval e X.env) :: starEach es X.env) (hpl : (backTo pos (starEach es X.env)).any (·.1) = false) : PE X (.Call (.Name nm p) (e :: es) [] pos) (tD c (.blt b ea)) :=
  (pe_callTy hc hg hm hv ha hn hdb he hpl).imp fun σ H Q ⟨G, ρ, t, sr, xo, h⟩ => by
    simp only [ev] at h
    exact goA ok sr xo h fun as vs H' G' h s ra sr' xo' => ⟨G', _, sr'.gd, ra.rbl, bltD_mono (fun _ _ h => KQt.from s sr'.tl h) h⟩
/-! ### d.get(k, x) -/
omit ok in
theorem dic_get {W : Wd} (ok : XW X W) {pins : List (Addr × Obj)} {σ : L2.St} {G H : Hp} {s : Shared} {p : Addr} {ds : List (D × D)} {x y : D} {v z : V} {u w : Value} {Q : Value → Shared → Prop} (I : Inv X pins σ H s) (g : Sub G H) (rv : RelV v u) (rz : RelV z w) (rd : R W G z y) (h : DicAt X W G H s.heap p ds x v)
    (q : ∀ v' w' s', Inv X pins σ H s' → RelV v' w' → R W G v' ((keyAt ds x).getD y) → Q w' s') : wpAny (model X.prog X.w) X.A (call (.builtin "dict.get") [.ref p, u, w]) Q X.xe s := by
  cases h with
  | @k k kvs vs e hk rk rel dd hs =>
    subst e
    have zz := RK.at hk rk
    refine call_meetsIn PySem.F.slot_dict_get dd.typeIs PySem.F.entry_dict_get (PySem.F.args_dict_get_3 _ _ _) (meets_dict_get_default (mixKind X.prog X.w) p (kV_is rv) hs w) ⟨_, dd.mapOf, ?_⟩
    cases ev : keyAt ds x with
    | none =>
      have hn : valueAt vs k = none := by
        have := rel.val k
        rw [zz.2 ev] at this
        cases hh : valueAt vs k with
        | none => rfl
        | some _ => rw [hh] at this; exact this.elim
      rw [hn]
      exact q z w _ (I.tok _) rz (by rw [ev]; exact rd)
    | some d =>
      obtain ⟨v', h1, h2⟩ := zz.1 d ev
      obtain ⟨w', hw, rw'⟩ := RelO.some_of (v := v') (by rw [← h1]; exact rel.val _)
      rw [hw]
      exact q v' w' _ (I.tok _) rw' (by rw [ev]; exact h2)
  | @t n a xs e hn h8 ha rx dd hs =>
    subst e
    obtain rfl := rv
    have zz := RX.at hn rx
    refine call_meetsIn F.slot_dict_get dd.typeIs F.entry_dict_get (F.args_dict_get_3 _ _ _) (meetsH_dict_get_default (nestedKind X.prog X.w) p a hs w) ⟨room1 ok, n, xs, dic_is ok I g ha hn h8, dd, ?_⟩
    cases ev : keyAt ds x with
    | none =>
      rw [zz.2 ev]
      exact q z w _ (I.tok _) rz (by rw [ev]; exact rd)
    | some d =>
      obtain ⟨a', u', v', h1, h2, h3⟩ := zz.1 d ev
      rw [h1]
      exact q v' u' _ (I.tok _) h2 (by rw [ev]; exact h3)
omit ok in
theorem dic_type {W : Wd} (ok : XW X W) {pins : List (Addr × Obj)} {σ : L2.St} {G H : Hp} {s : Shared} {p : Addr} {ds : List (D × D)} (I : Inv X pins σ H s) (g : Sub G H) (h : Dr W G H p ds) : s.TypeIs (.ref p) "dict" ∧ ∀ a, Value.ref p = .ref a → ∃ ob, s.heap.get? a = some ob ∧ ob.dict = none := by
  rcases h with ⟨kv, hp, rk⟩ | ⟨xs, hp, rx⟩
  · obtain ⟨_, hs, vs, rel, dd⟩ := dk_rd I.hok hp
    exact ⟨dd.typeIs, dd.mapOf.noDict⟩
  · obtain ⟨dd, hs, hl⟩ := dic_h ok I g hp rx
    obtain ⟨o, es, ep, h1, h2, _⟩ := id dd
    exact ⟨dd.typeIs, fun a e => by cases e; exact ⟨o, h1, h2.2.1⟩⟩
def D.kvs : D → Option (List (D × D))
  | .dct l => some l
  | .dcl l => some l
  | _ => none
theorem d_get {o e f : Expr} {eo ee ef : E} {apos cpos : Pos} (ho : PE X o (tD c eo)) (ha : PA X [e, f] (tA c (.cons ee (.cons ef .nil)))) (m : M2 X o "get" apos e f cpos) (hst : starEach [e, f] X.env = (false, eval e X.env) :: (false, eval f X.env) :: starEach [] X.env) : PE X (.Call (.Attribute o "get" apos) [e, f] [] cpos) (tD c (.mth eo .get (.cons ee (.cons ef .nil)))) := by
  refine ⟨fun pins s σ H Q I ⟨G, ρ, t, sr, xo, h⟩ => ?_⟩
  simp only [ev] at h
  have key : ∀ {t} d as, mthD d .get as (KQt c.W G H Q t) → ∃ ds x y, D.kvs d = some ds ∧ as = [x, y] ∧ okAsk ds x = true ∧ KQt c.W G H Q t .f ((keyAt ds x).getD y) := fun {t} d as h => by
    unfold mthD at h
    split at h
    · exact ⟨_, _, _, rfl, rfl, h.1, h.2⟩
    · exact ⟨_, _, _, rfl, rfl, h.1, h.2⟩
    · exact h.elim
  refine wpAny_Call_method m.base m.few m.line PySem.F.plainAttrs_dict PySem.F.slot_dict_get PySem.F.type_dict_get (thn (ho.run pins s σ H (fun v H1 => ∃ G1 d t1, SR c.W c.H0 G1 H1 σ ρ t1 ∧ XOk c.W G1 H1 σ c.x c.wx ∧ Step c.W G H G1 H1 ∧ RB c.W G1 H1 v d ∧ mthOk d .get = true ∧ evs c.g c.Φ c.x (.cons ee (.cons ef .nil)) ρ t1 fun t2 as => noB as ∧ mthD d .get (as.map (·.2)) (KQt c.W G H Q t2)) I
    (goB ok sr xo h fun d v H' G' h s rb sr' xo' => ⟨G', d, _, sr', xo', s, rb, h⟩)) fun u s1 ⟨x, H1, I1, rx, G1, d, t1, sr1, xo1, st1, rb, hok, h⟩ => ?_)
  obtain ⟨ds, hds, p, rfl, dr⟩ : ∃ ds, D.kvs d = some ds ∧ ∃ p, x = .ref p ∧ Dr c.W G1 H1 p ds := by
    cases d <;> first | cases hok | skip
    · obtain ⟨p, e, dr⟩ := RB.dctE sr1.gd.sub rb; exact ⟨_, rfl, p, e, dr⟩
    · obtain ⟨p, e, dr⟩ := RB.dclE sr1.gd.sub rb; exact ⟨_, rfl, p, e, dr⟩
  obtain rfl := rx
  obtain ⟨t1, t2⟩ := dic_type ok.toXW I1 sr1.gd.sub dr
  refine ⟨t1, t2, ?_⟩
  have hA := ha.run cpos pins s1 σ H1 (fun vs H2 => ∃ G2 vk vd x y, vs = [vk, vd] ∧ Gd c.W G2 H2 ∧ R c.W G2 vk x ∧ R c.W G2 vd y ∧ Dr c.W G2 H2 p ds ∧ okAsk ds x = true ∧ KQ c.W G2 H2 Q .f ((keyAt ds x).getD y)) I1
    (goA ok sr1 xo1 h fun as vs H' G' ⟨nb, h⟩ st ra sr' xo' => by
      obtain ⟨ds', x, y, e1, e2, h1, h2⟩ := key _ _ h
      rw [hds] at e1; cases e1
      have rl := ra.noB nb
      rw [e2] at rl
      cases rl with | cons r1 t =>
      cases t with | cons r2 t =>
      cases t
      have rb' := rb.step st
      refine ⟨G', _, _, x, y, rfl, sr'.gd, r1, r2, ?_, h1, h2.from (st1.trans st) sr'.tl⟩
      cases d <;> first | cases hds | skip
      · obtain ⟨p', e, dr⟩ := RB.dctE sr'.gd.sub rb'; cases e; exact dr
      · obtain ⟨p', e, dr⟩ := RB.dclE sr'.gd.sub rb'; cases e; exact dr)
  rw [m.trees]
  rw [hst] at hA
  refine Calls.callWith_builtin rfl (Calls.evalArgs_plain (thn hA fun us s2 ⟨vs, H2, I2, r2, G2, vk, vd, x, y, e, g, rk, rd, dr, ask, q⟩ => ?_))
  subst e
  obtain ⟨u1, u2, rfl, k1, k2⟩ := vals2 r2
  exact dic_get ok.toXW I2 g.sub k1 k2 rd (dicAt ok.toXW I2 g.sub dr rk ask) fun v' w' s' I' rw' r' => ⟨v', H2, I', rw', q.flat g r'⟩
end
end Lk
set_option autoImplicit false
set_option linter.all false
set_option maxRecDepth 10000
namespace Lk
open PySem PySem.Spec PyProof.Rows L2
/-- the type of a value, as isinstance asks for it -/
def tyV (d : D) : Option String := match d with
  | .int _ => some "int" | .bl _ => some "bool" | .str _ => some "str" | .non => some "NoneType" | .tup _ => some "tuple" | .lst _ => some "list" | .dct _ => some "dict" | .dcl _ => some "dict"
  | _ => none
section
variable {X : Cx} {W : Wd} {pins : List (Addr × Obj)} {σ : L2.St} {G H : Hp} {s : Shared}
theorem kit_D (ok : XW X W) {v : V} {u : Value} {d : D} {b : Bool} {t : Tn} (I : Inv X pins σ H s) (g : Sub G H) (r : RB W G H v d) (ru : RelV v u) (e : isTn d t = some b) :
    ∃ (ty : Value) (P : Heap → Prop), PySem.W.KitX X.K u ty P ∧ P s.heap ∧ u ≠ .builtin "__main__.__loader__#opaque" ∧ ((∃ T, tyV d = some T ∧ ty = .type T) ∨ ∃ c fs C, d = .obj c fs ∧ ty = .ref C ∧ ObjC W c C) := by
  have tx : ∀ {ty : Value}, TyX X.K H v ty → ((∃ T, tyV d = some T ∧ ty = .type T) ∨ ∃ c fs C, d = .obj c fs ∧ ty = .ref C ∧ ObjC W c C) → ∃ (ty : Value) (P : Heap → Prop), PySem.W.KitX X.K u ty P ∧ P s.heap ∧ u ≠ .builtin "__main__.__loader__#opaque" ∧ ((∃ T, tyV d = some T ∧ ty = .type T) ∨ ∃ c fs C, d = .obj c fs ∧ ty = .ref C ∧ ObjC W c C) := fun h k => by
    obtain ⟨P, h1, h2, h3⟩ := kit_of I ru h
    exact ⟨_, P, h1, h2, h3, k⟩
  cases d with
  | non =>
    rcases r with r | ⟨_, _, _, r⟩
    · cases r; exact tx (.base .non) (.inl ⟨_, rfl, rfl⟩)
    · exact r.elim
  | bl b => obtain rfl := r.blE; exact tx (.base (.bl _)) (.inl ⟨_, rfl, rfl⟩)
  | int i => obtain rfl := r.int; exact tx (.base (.int _)) (.inl ⟨_, rfl, rfl⟩)
  | str x => obtain rfl := r.strD; exact tx (.base (.str _)) (.inl ⟨_, rfl, rfl⟩)
  | tup l =>
    obtain ⟨a, xs, rfl, ha, _⟩ := r.tupE
    obtain rfl := ru
    obtain ⟨its, rv, ⟨o, h1, h2, _⟩, _⟩ := I.tuple (a := a) (xs := xs) (by rw [ok.K]; exact g.sqt ha)
    exact ⟨_, _, PySem.W.kitx_tuple, ⟨o, h1, h2⟩, (fun z => nomatch z), .inl ⟨_, rfl, rfl⟩⟩
  | lst l =>
    obtain ⟨a, xs, rfl, ha, _⟩ := r.lstE g
    exact tx (.base (.lst ha)) (.inl ⟨_, rfl, rfl⟩)
  | dct l =>
    obtain ⟨p, rfl, dr⟩ := RB.dctE g r
    obtain rfl := ru
    obtain ⟨⟨o, h1, h2⟩, _⟩ := dic_type ok I g dr
    exact ⟨_, _, PySem.W.kitx_dict, ⟨o, h1, h2⟩, (fun z => nomatch z), .inl ⟨_, rfl, rfl⟩⟩
  | dcl l =>
    obtain ⟨p, rfl, dr⟩ := RB.dclE g r
    obtain rfl := ru
    obtain ⟨⟨o, h1, h2⟩, _⟩ := dic_type ok I g dr
    exact ⟨_, _, PySem.W.kitx_dict, ⟨o, h1, h2⟩, (fun z => nomatch z), .inl ⟨_, rfl, rfl⟩⟩
  | obj c fs =>
    obtain ⟨a, C, dx, fs', rfl, ha, oc, _⟩ := r.objE g
    exact tx (.base (.ins ha (by rw [ok.K]; exact oc.cls) (by rw [ok.K]; exact oc.ha) (by rw [ok.K]; exact oc.hn) (by rw [ok.K]; exact oc.htk) (by rw [ok.K]; exact oc.hm))) (.inr ⟨c, fs, C, rfl, rfl, oc⟩)
  | _ => cases t <;> simp [isTn] at e
/-- a class, as a value -/
def ClsT (W : Wd) (v : V) (t : Tn) : Prop := match t with
  | .b n => n ∈ sixT ∧ v = .ty n
  | .o c => c ∈ W.cn ∧ ∃ C, W.mg c = some (.ref C) ∧ v = .ref C
theorem kitB6 : ∀ T ∈ ("NoneType" :: sixT), ∀ n ∈ sixT, kitB T n = some (n == T || (T == "bool" && n == "int")) := by decide +kernel
theorem ClsT.val {v : V} {u : Value} {t : Tn} (h : ClsT W v t) (r : RelV v u) : (∃ n, t = .b n ∧ n ∈ sixT ∧ u = .type n) ∨ ∃ c C, t = .o c ∧ c ∈ W.cn ∧ W.mg c = some (.ref C) ∧ u = .ref C := by
  cases t with
  | b n => obtain ⟨h1, rfl⟩ := h; obtain rfl := r; exact .inl ⟨n, rfl, h1, rfl⟩
  | o c => obtain ⟨h1, C, h2, rfl⟩ := h; obtain rfl := r; exact .inr ⟨c, C, rfl, h1, h2, rfl⟩
def rIsiD (W : Wd) (t : Tn) : List V → Hp → VK → Prop := fun xs H Q => ∃ G d v cv b, xs = [v, cv] ∧ Gd W G H ∧ RB W G H v d ∧ ClsT W cv t ∧ isTn d t = some b ∧ Q (.bl b) H
theorem call_isiD (ok : XW X W) (t : Tn) : CallR X (.builtin "isinstance") (rIsiD W t) := by
  intro pins s σ H xs us Q I r ⟨G, d, v, cv, b, e, g, rb, hc, ht, q⟩
  subst e
  obtain ⟨u1, u2, rfl, r1, r2⟩ := vals2 r
  obtain ⟨ty, P, Z, p, hx, hty⟩ := kit_D ok I g.sub rb r1 ht
  refine PySem.W.kia_one Z I.kIn p ?_ hx fun tk => ⟨.bl b, H, I.tok tk, rfl, q⟩
  rcases hc.val r2 with ⟨n, rfl, hn, rfl⟩ | ⟨c, C, rfl, hn, hC, rfl⟩
  · rcases hty with ⟨T, hT, rfl⟩ | ⟨c, fs, C, rfl, rfl, oc⟩
    · refine kit_ty ?_
      have hmem : T ∈ "NoneType" :: sixT := by
        cases d <;> simp [tyV] at hT <;> subst hT <;> decide
      rw [kitB6 T hmem n hn, ← ht]
      cases d <;> simp [tyV] at hT <;> subst hT <;> simp [isTn]
      · intro z; subst z; simp [sixT] at hn
      · rw [Bool.or_comm]
    · rw [ok.K, oc.kitB n hn]
      simp [isTn] at ht
      rw [ht]
  · rcases hty with ⟨T, hT, rfl⟩ | ⟨c', fs, C', rfl, rfl, oc⟩
    · have hmem : T ∈ "NoneType" :: sixT := by
        cases d <;> simp [tyV] at hT <;> subst hT <;> decide
      rw [ok.K, ok.isc c hn C hC T hmem]
      cases d <;> simp [tyV] at hT <;> simp [isTn] at ht <;> rw [ht]
    · rw [ok.K, oc.kitO c hn C hC]
      simp [isTn] at ht
      rw [ht]
end
section
variable {X : Cx} {c : Ct} (ok : COk X c)
include ok
theorem d_glob {x : Str} {pos : Pos} (hg : Gl X x) (hd : (x == ("__debug__" : Str)) = false) : PE X (.Name x pos) (tD c (.g x)) := by
  refine ⟨fun pins s σ H Q I ⟨G, ρ, _, sr, xo, h⟩ => ?_⟩
  simp only [ev, valD] at h
  split at h
  · rename_i d e
    obtain ⟨v, u, hm, ru, r⟩ := ok.gl x d e
    exact ld_glob I hg hm ⟨v, H, I, ru, h.flat sr.gd sr.tl (r G)⟩ hd
  · exact h.elim
/-- a class by its name -/
theorem e_clsB {n : String} {pos : Pos} (hn : n ∈ sixT) (hg : Gl X (Str.ofString n)) (hm : X.mg (Str.ofString n) = none) : PE X (.Name (Str.ofString n) pos) (fun _ H Q => Q (.ty n) H) := by
  refine ⟨fun pins s σ H Q I h => ?_⟩
  have hv : bootBuiltins (Str.ofString n) = some (.type n) := by
    have : ∀ n ∈ sixT, bootBuiltins (Str.ofString n) = some (.type n) := by decide +kernel
    exact this n hn
  have h1 : ∀ n ∈ sixT, (Str.ofString n) ≠ "__name__" ∧ ((Str.ofString n) == ("__debug__" : Str)) = false := by decide +kernel
  exact ld_blt I hg hm hv ⟨.ty n, H, I, rfl, h⟩ (h1 n hn).1 (h1 n hn).2
theorem e_clsO {n : Str} {C : Addr} {pos : Pos} (hg : Gl X n) (hm : X.mg n = some (.ref C)) (hd : (n == ("__debug__" : Str)) = false) : PE X (.Name n pos) (fun _ H Q => Q (.ref C) H) := by
  refine ⟨fun pins s σ H Q I h => ?_⟩
  exact ld_glob I hg hm ⟨.ref C, H, I, rfl, h⟩ hd
theorem d_isi {a b : Expr} {ea : E} {t : Tn} {p pos : Pos} {cv : V} (ha : PE X a (tD c ea)) (hb : PE X b (fun _ H Q => Q cv H)) (hc : ClsT c.W cv t) (hg : Gl X "isinstance") (hm : X.mg "isinstance" = none)
    (hs : starEach [a, b] X.env = (false, eval a X.env) :: starEach [b] X.env) (hs2 : starEach [b] X.env = (false, eval b X.env) :: starEach [] X.env) (hpl : (backTo pos (starEach [b] X.env)).any (·.1) = false) : PE X (.Call (.Name "isinstance" p) [a, b] [] pos) (tD c (.isi ea [t])) :=
  (pe_callB (call_isiD ok.toXW t) hg hm (by decide +kernel) (pa_cons ha (pa_cons hb pa_nil hs2) hs) (by decide) (by decide) hs hpl).imp fun σ H Q ⟨G, ρ, _, sr, xo, h⟩ => by
    simp only [ev] at h
    refine goB ok sr xo h fun d v H' G' ⟨b, e, h⟩ s rb sr' xo' => ?_
    refine ⟨G', d, v, cv, b, rfl, sr'.gd, rb, hc, ?_, (h.from s sr'.tl).flat sr'.gd (.bl _)⟩
    cases q : isTn d t with
    | none => simp [q] at e
    | some b' => simp [q] at e; rw [e]
end
end Lk
set_option autoImplicit false
set_option linter.all false
namespace Lk
open PySem PySem.Spec PyProof.Rows L2
structure SOk (X : Cx) (c : Ct) : Prop extends COk X c where
  gd0 : Gd c.W c.G0 c.H0
  xok : ∀ t cn fs, c.x t (.exc cn fs) → ∀ cls dd σ H' G', Step c.W c.G0 c.H0 G' H' → TL c.W H' t → RE c.W G' H' cls dd cn fs → c.wx cls dd σ H'
/-- what is wanted behind a statement, from G on -/
def enS (c : Ct) (G : Hp) (D : Ends) : En where
  nx := fun t' ρ' => ∀ σ' G' H', Sub G G' → Step c.W c.G0 c.H0 G' H' → SR c.W c.H0 G' H' σ' ρ' t' → D.nx σ' H'
  rt := fun t' fl d => ∀ v G' H', Step c.W c.G0 c.H0 G' H' → TL c.W H' t' → RV c.W fl c.H0 G' H' v d → D.rt v H'
  bk := fun t' ρ' => ∀ σ' G' H', Sub G G' → Step c.W c.G0 c.H0 G' H' → SR c.W c.H0 G' H' σ' ρ' t' → D.bk σ' H'
  ct := fun t' ρ' => ∀ σ' G' H', Sub G G' → Step c.W c.G0 c.H0 G' H' → SR c.W c.H0 G' H' σ' ρ' t' → D.ct σ' H'
theorem enS_le {c : Ct} {G G' : Hp} {D : Ends} (s : Sub G G') : EnLe (enS c G D) (enS c G' D) where
  nx := fun _ ρ h σ' G2 H' sb => h σ' G2 H' (s.trans sb)
  rt := fun _ f d h => h
  bk := fun _ ρ h σ' G2 H' sb => h σ' G2 H' (s.trans sb)
  ct := fun _ ρ h σ' G2 H' sb => h σ' G2 H' (s.trans sb)
def tS (c : Ct) (s : S) : TS := fun D σ H => ∃ G ρ t, Step c.W c.G0 c.H0 G H ∧ SR c.W c.H0 G H σ ρ t ∧ exs c.g c.Φ c.x s ρ t (enS c G D)
theorem _root_.L2.PS.imp {X : Cx} {st : Stmt} {t t' : TS} (h : PS X st t) (m : ∀ D σ H, t' D σ H → t D σ H) : PS X st t' := ⟨fun pins s σ H D I q => h.run pins s σ H D I (m D σ H q)⟩
theorem _root_.L2.PSs.imp {X : Cx} {st : List Stmt} {t t' : TS} (h : PSs X st t) (m : ∀ D σ H, t' D σ H → t D σ H) : PSs X st t' := ⟨fun pins s σ H D I q => h.run pins s σ H D I (m D σ H q)⟩
/-! ### own slots -/
section
variable {W : Wd} {H0 G0 G H : Hp} {σ : L2.St} {ρ : Rho} {t : Nat} {p : Addr}
theorem getElem?_set_own {ρ : Rho} {i j : Nat} {x : Sv} {d : D} (h : (ρ.set i x)[j]? = some (.own d)) : (i = j ∧ x = .own d ∧ i < ρ.length) ∨ (i ≠ j ∧ ρ[j]? = some (.own d)) := by
  by_cases e : i = j
  · subst e
    rw [List.getElem?_set, if_pos rfl] at h
    by_cases hl : i < ρ.length
    · rw [if_pos hl] at h; exact .inl ⟨rfl, Option.some.inj h, hl⟩
    · rw [if_neg hl] at h; cases h
  · rw [List.getElem?_set_ne e] at h; exact .inr ⟨e, h⟩
theorem getElem?_set_val {ρ : Rho} {i j : Nat} {x : Sv} {d : D} (h : (ρ.set i x)[j]? = some (.val d)) : (i = j ∧ x = .val d ∧ i < ρ.length) ∨ (i ≠ j ∧ ρ[j]? = some (.val d)) := by
  by_cases e : i = j
  · subst e
    rw [List.getElem?_set, if_pos rfl] at h
    by_cases hl : i < ρ.length
    · rw [if_pos hl] at h; exact .inl ⟨rfl, Option.some.inj h, hl⟩
    · rw [if_neg hl] at h; cases h
  · rw [List.getElem?_set_ne e] at h; exact .inr ⟨e, h⟩
/-- a slot takes an object of its own -/
theorem SR.setOwn {i : Nat} {d : D} (sr : SR W H0 G H σ ρ t) (h0 : H0 p = none) (ns : ¬ stA W p) (hg : G p = none) (oc : OwnC W G H p d) (ap : ∀ (j : Nat) (e : D), ρ[j]? = some (.own e) → σ[j]? ≠ some (some (.ref p))) :
    SR W H0 G H (σ.set i (some (.ref p))) (ρ.set i (.own d)) t where
  gd := sr.gd
  tl := sr.tl
  len := by simpa using sr.len
  val := fun j e h => by
    rcases getElem?_set_val h with ⟨_, q, _⟩ | ⟨hj, q⟩
    · cases q
    · rw [List.getElem?_set_ne hj]; exact sr.val j e q
  own := fun j e h => by
    rcases getElem?_set_own h with ⟨hj, q, hl⟩ | ⟨hj, q⟩
    · subst hj; cases q
      rw [List.getElem?_set, if_pos rfl, if_pos (by rw [sr.len]; exact hl)]
      exact ⟨p, rfl, h0, ns, hg, oc⟩
    · rw [List.getElem?_set_ne hj]; exact sr.own j e q
  dis := fun j k d1 d2 q hjk h1 h2 h3 => by
    rcases getElem?_set_own h1 with ⟨e1, q1, hl1⟩ | ⟨e1, q1⟩
    · subst e1
      rcases getElem?_set_own h2 with ⟨e2, _, _⟩ | ⟨e2, q2⟩
      · exact absurd e2 hjk
      · rw [List.getElem?_set, if_pos rfl, if_pos (by rw [sr.len]; exact hl1)] at h3
        cases h3
        rw [List.getElem?_set_ne e2]
        exact ap _ _ q2
    · rw [List.getElem?_set_ne e1] at h3
      rcases getElem?_set_own h2 with ⟨e2, q2, hl2⟩ | ⟨e2, q2⟩
      · subst e2
        rw [List.getElem?_set, if_pos rfl, if_pos (by rw [sr.len]; exact hl2)]
        intro z
        cases z
        exact ap _ _ q1 h3
      · rw [List.getElem?_set_ne e2]
        exact sr.dis j k d1 d2 q hjk q1 q2 h3
theorem SR.ap_fresh {G1 H1 : Hp} (sr : SR W H0 G H σ ρ t) (hp : H p = none) : ∀ (j : Nat) (e : D), ρ[j]? = some (.own e) → σ[j]? ≠ some (some (.ref p)) := fun j e h z => by
  obtain ⟨q, h1, _, _, _, oc⟩ := sr.own j e h
  rw [z] at h1
  cases h1
  obtain ⟨o, ho, _⟩ := oc.there
  rw [hp] at ho; cases ho
/-- an own object is turned -/
theorem SR.turn {i : Nat} {d d' : D} {o : HO} (w0 : WI W H0) (st : Step W G0 H0 G H) (sr : SR W H0 G H σ ρ t) (hi : ρ[i]? = some (.own d)) (hs : σ[i]? = some (some (.ref p))) (oc : OwnC W G (upd H p o) p d') :
    Step W G0 H0 G (upd H p o) ∧ SR W H0 G (upd H p o) σ (ρ.set i (.own d')) t := by
  obtain ⟨q, h1, h0, ns, hg, oc0⟩ := sr.own i d hi
  rw [hs] at h1; cases h1
  have st' := st.put (o := o) w0 h0 hg
  have hil : i < ρ.length := by
    rcases Nat.lt_or_ge i ρ.length with z | z
    · exact z
    · rw [List.getElem?_eq_none z] at hi; cases hi
  refine ⟨st', st'.gd, Pu.off ns _ sr.tl, by simpa using sr.len, fun j e h => ?_, fun j e h => ?_, fun j k d1 d2 q hjk h1 h2 h3 => ?_⟩
  · rcases getElem?_set_val h with ⟨_, q, _⟩ | ⟨hj, q⟩
    · cases q
    · exact sr.val j e q
  · rcases getElem?_set_own h with ⟨hj, q, hl⟩ | ⟨hj, q⟩
    · subst hj; cases q
      exact ⟨p, hs, h0, ns, hg, oc⟩
    · obtain ⟨p', k1, k2, k3, k4, k5⟩ := sr.own j e q
      refine ⟨p', k1, k2, k3, k4, k5.put fun z => ?_⟩
      subst z
      exact sr.dis i j d e p' hj hi q hs k1
  · have own' : ∀ {m : Nat} {e : D}, (ρ.set i (.own d'))[m]? = some (.own e) → ∃ e', ρ[m]? = some (.own e') := fun {m e} h => by
      rcases getElem?_set_own h with ⟨hj, _, _⟩ | ⟨_, q⟩
      · subst hj; exact ⟨_, hi⟩
      · exact ⟨_, q⟩
    obtain ⟨e1, q1⟩ := own' h1
    obtain ⟨e2, q2⟩ := own' h2
    exact sr.dis j k e1 e2 q hjk q1 q2 h3
/-- an own object is frozen: G' and H' at p are o -/
theorem SR.freeze {i : Nat} {d d' : D} {o : HO} (w0 : WI W H0) (st : Step W G0 H0 G H) (sr : SR W H0 G H σ ρ t) (hi : ρ[i]? = some (.own d)) (hs : σ[i]? = some (some (.ref p))) (nt : ∀ ps, o ≠ .tbl ps) (r : R W (upd G p o) (.ref p) d') :
    Step W G0 H0 (upd G p o) (upd H p o) ∧ SR W H0 (upd G p o) (upd H p o) σ (ρ.set i (.val d')) t ∧ Sub G (upd G p o) := by
  obtain ⟨q, h1, h0, ns, hg, oc0⟩ := sr.own i d hi
  rw [hs] at h1; cases h1
  have sb : Sub G (upd G p o) := Sub.new hg
  have stp := st.put (o := o) w0 h0 hg
  have st' : Step W G0 H0 (upd G p o) (upd H p o) := by
    refine ⟨stp.keep, stp.live, stp.gext.trans sb, fun b u e => ?_, fun b e => ?_, fun b u e => ?_, stp.wi⟩
    · by_cases hb : b = p
      · rw [hb, upd_same] at e ⊢; exact e
      · rw [upd_ne hb] at e; exact stp.gsub b u e
    · have hb : b ≠ p := fun z => e (z ▸ h0)
      rw [upd_ne hb]; exact stp.gnew b e
    · by_cases hb : b = p
      · rw [hb, upd_same] at e; cases e
        rintro (z | ⟨ps, z⟩)
        · exact ns (hb ▸ z)
        · exact nt ps z
      · rw [upd_ne hb] at e; exact stp.gno b u e
  refine ⟨st', ⟨st'.gd, Pu.off ns _ sr.tl, by simpa using sr.len, fun j e h => ?_, fun j e h => ?_, fun j k d1 d2 q hjk h1 h2 h3 => ?_⟩, sb⟩
  · rcases getElem?_set_val h with ⟨hj, q, hl⟩ | ⟨hj, q⟩
    · subst hj; cases q
      exact ⟨_, hs, r⟩
    · obtain ⟨v, k1, k2⟩ := sr.val j e q
      exact ⟨v, k1, k2.mono sb⟩
  · rcases getElem?_set_own h with ⟨_, q, _⟩ | ⟨hj, q⟩
    · cases q
    · obtain ⟨p', k1, k2, k3, k4, k5⟩ := sr.own j e q
      have ne : p' ≠ p := fun z => by
        subst z
        exact sr.dis i j d e p' hj hi q hs k1
      exact ⟨p', k1, k2, k3, by rw [upd_ne ne]; exact k4, k5.stay sb (upd_ne ne)⟩
  · have own' : ∀ {m : Nat} {e : D}, (ρ.set i (.val d'))[m]? = some (.own e) → ρ[m]? = some (.own e) := fun {m e} h => by
      rcases getElem?_set_own h with ⟨_, q, _⟩ | ⟨_, q⟩
      · cases q
      · exact q
    exact sr.dis j k d1 d2 q hjk (own' h1) (own' h2) h3
theorem SR.non {i : Nat} {v : Option V} (sr : SR W H0 G H σ ρ t) : SR W H0 G H (σ.set i v) (ρ.set i .non) t where
  gd := sr.gd
  tl := sr.tl
  len := by simpa using sr.len
  val := fun j e h => by
    rcases getElem?_set_val h with ⟨_, q, _⟩ | ⟨hj, q⟩
    · cases q
    · rw [List.getElem?_set_ne hj]; exact sr.val j e q
  own := fun j e h => by
    rcases getElem?_set_own h with ⟨_, q, _⟩ | ⟨hj, q⟩
    · cases q
    · rw [List.getElem?_set_ne hj]; exact sr.own j e q
  dis := fun j k d1 d2 q hjk h1 h2 h3 => by
    rcases getElem?_set_own h1 with ⟨_, q, _⟩ | ⟨e1, q1⟩
    · cases q
    rcases getElem?_set_own h2 with ⟨_, q, _⟩ | ⟨e2, q2⟩
    · cases q
    rw [List.getElem?_set_ne e1] at h3
    rw [List.getElem?_set_ne e2]
    exact sr.dis j k d1 d2 q hjk q1 q2 h3
end
end Lk
set_option autoImplicit false
set_option linter.all false
namespace Lk
open PySem PySem.Spec PyProof.Rows L2
theorem extend_tuple_meets (l : Addr) (items : Array Value) (n : Nat) (b : Addr) (items2 : Array Value) (n2 : Nat) (dct : Option Addr) (sl : Array (Option Value)) (hs0 : ¬(!items.isEmpty && Builtin.List.listTooLong (items.size + items2.size)) = true) (hs1 : items.size ≤ sizeLine) (hs2 : items.size + items2.size ≤ sizeLine + 1) :
    Meets (Builtin.«list.extend» ⟨[.ref l, .ref b], []⟩) (fun _ R s => s.heap.get? l = some { cls := .type "list", dict := none, data := .seq items n, slots := #[] } ∧ s.heap.get? b = some { cls := .type "tuple", dict := dct, data := .seq items2 n2, slots := sl } ∧ R (.ok (.ret Value.none)) { s with heap := s.heap.update l (Obj.mapSeq fun x => x ++ items2), toks := s.toks }) :=
  .of_wp fun prog w A R s h => by
    obtain ⟨hp, g, d, tk, os⟩ := s
    obtain ⟨hl, hb, h⟩ := h
    have f2 := AutoSeq1.sub_tuple_tuple
    have f3 := AutoSeq1.sub_list_list
    have f4 := AutoSeq1.sub_tuple_list
    have hz' : (items ++ items2).size ≤ sizeLine + 1 := by rw [Array.size_append]; exact hs2
    wp_walk using (wpAny_updateSeq hl rfl (hz := hs1) (_hz' := hz')), AutoSeq1.wpAny_loadPart' hl, AutoSeq1.wpAny_loadPart' hb
    exact ⟨_, rfl, h⟩
section
variable {X : Cx}
def rExtA (K : PySem.W.Frag) : V → List V → Hp → VK → Prop := fun x vs H Q => ∃ l b xs zs, x = .ref l ∧ vs = [.ref b] ∧ H l = some (.lst xs) ∧ (H b = some (.lst zs) ∨ SqT K H b zs) ∧ xs.length + zs.length ≤ sizeLine ∧ Q .non (upd H l (.lst (xs ++ zs)))
theorem mt_extA : MtM X "list.extend" (rExtA X.K) := by
  intro pins s σ H x vs v us Q I rx rv h
  obtain ⟨l, b, xs, zs, rfl, rfl, hH, hB, hz, q⟩ := h
  rcases hB with hB | hB
  · exact mt_extend pins s σ H _ _ v us Q I rx rv ⟨l, b, xs, zs, rfl, rfl, hH, hB, hz, q⟩
  cases rx
  obtain ⟨u, rfl, ru⟩ := L2.Vals.one rv
  cases ru
  obtain ⟨z, its, n, r, hl, e⟩ := I.lstM hH
  obtain ⟨its2, r2, ⟨o, ho, hc, n2, hd⟩, _⟩ := I.tuple hB
  obtain ⟨oc, od, dt, sl⟩ := o
  simp only at hc hd
  subst hc hd
  have hl2 := r2.length
  have hsz : its.toArray.size + its2.toArray.size ≤ sizeLine := by rw [List.size_toArray, List.size_toArray]; omega
  have hlong : ¬ (!its.toArray.isEmpty && Builtin.List.listTooLong (its.toArray.size + its2.toArray.size)) = true := by
    rw [notLongL hsz, Bool.and_false]
    exact Bool.false_ne_true
  refine call_meets F.slot_list_extend ⟨_, e, rfl⟩ F.entry_list_extend (F.args_list_extend_2 _ _)
    (extend_tuple_meets l its.toArray n b its2.toArray n2 od sl hlong (by rw [List.size_toArray]; omega) (by omega)) ⟨e, ho, ?_⟩
  refine ⟨.non, _, I.lset (its' := its ++ its2) hH e (by simp) (r.append r2) ?_, rfl, q⟩
  rw [List.length_append]
  omega
end
end Lk
set_option autoImplicit false
set_option linter.all false
namespace Lk
open PySem PySem.Spec PyProof.Rows L2
def rSetDat (W : Wd) : TSet := fun o i v H Q => ∃ G dO dk dv p, o = .ref p ∧ Gd W G H ∧ OwnC W G H p dO ∧ R W G i dk ∧ R W G v dv ∧ ssetD dO dk dv fun d' => ∀ ob, OwnC W G (upd H p ob) p d' → Q (upd H p ob)
section
variable {X : Cx} {W : Wd} (ok : XW X W)
include ok
theorem putO {pins : List (Addr × Obj)} {σ : L2.St} {G H : Hp} {s : Shared} {p a : Addr} {xs : List (NestedKey × Addr × Value)} {ds : List (D × D)} {kd y : D} {n : NestedKey} {v : V} {u : Value} {Q : Unit → Shared → Prop} (I : Inv X pins σ H s) (g : Sub G H) (mu : Mut (H p)) (hn : kd.nk = some n) (h8 : n.depth ≤ 8) (ha : R W G (.ref a) kd) (rv : R W G v y) (ru : RelV v u)
    (dd : s.heap.DictOfH (nestedKind X.prog X.w) p xs) (hs : (p == sysModules) = false) (hl : xs.length < sizeLine) (rx : RX W G xs ds)
    (q : ∀ s', Inv X pins σ (upd H p (DicO W.P W.w p (storedH xs n a u))) s' → Q () s') : wpAny (model X.prog X.w) X.A (setItem (.ref p) (.ref a) u) Q X.xe s := by
  refine wpAny_setItem_heap (hsz := Nat.le_of_lt hl) (room1 ok) (dic_is ok I g ha hn h8) dd fun h' dd' sb => q _ ?_
  have hlen : (storedH xs n a u).length ≤ sizeLine := by
    unfold storedH
    split
    · rw [List.length_map]; omega
    · rw [List.length_append, List.length_singleton]; omega
  have he : ∃ o, h'.get? p = some o := let ⟨o, _, _, h, _⟩ := dd'; ⟨o, h⟩
  rw [← ok.P, ← ok.w]
  exact I.write (x := p) (e := p) mu (.inl rfl) (fun b o hb e => (sb.2 b hb).trans e) he (dicO_ok dd' hs hlen)
theorem pset_D (hu : X.A.units + 1 < cLine) : PSet X (rSetDat W) := by
  intro pins s σ H o i v ov iv u Q I ro ri rv ⟨G, dO, dk, dv, p, e, g, oc, rk, rd, h⟩
  subst e
  cases dO with
  | lst ds =>
    obtain ⟨xs, hp, rl⟩ := oc
    cases dk with
    | int k =>
      obtain ⟨j, hj, h⟩ := h
      obtain rfl := rk.intE
      exact set_list pins s σ H _ _ _ ov iv u Q I ro ri rv ⟨p, xs, k, j, rfl, rfl, hp, by rw [rl.length]; exact hj, h _ ⟨_, upd_same, rl.set rd j⟩⟩
    | _ => exact h.elim
  | dct ds =>
    obtain rfl := ro
    obtain ⟨ask, hl, h⟩ := h
    unfold okAsk at ask
    rw [Bool.or_eq_true, Bool.and_eq_true, Bool.and_eq_true] at ask
    rcases oc with ⟨kv, hp, rkk⟩ | ⟨xs, hp, rx⟩
    · rcases ask with ⟨h1, h2⟩ | ⟨h1, h2⟩
      · obtain ⟨k, rfl, q⟩ := isKey_kV rk h1
        exact d_setItem hu I (.k hp (by rw [rkk.length]; exact hl)) ri rv fun s' I' => ⟨_, I', h _ (.inl ⟨_, upd_same, rkk.put q rd⟩)⟩
      · obtain rfl := both_nil rkk.keys h2
        cases rkk
        obtain ⟨_, hs, vs, rel, dd⟩ := dk_of I.hok hp
        cases rel
        obtain ⟨n, a, rfl, hn, h8⟩ := tupKey rk h1
        obtain rfl := ri
        exact putO ok I g.sub (by rw [hp]; trivial) hn h8 rk rd rv (dictOf_nil dd) hs (by show 0 < sizeLine; decide) .nil fun s' I' => ⟨_, I', h _ (.inr ⟨_, upd_same, RX.put (xs := []) hn h8 rk rv rd .nil⟩)⟩
    · obtain ⟨dd, hs, hz⟩ := dic_h ok I g.sub (.inl hp) rx
      rcases ask with ⟨h1, h2⟩ | ⟨h1, h2⟩
      · obtain rfl := both_nil h2 rx.keys
        cases rx
        obtain ⟨k, rfl, q⟩ := isKey_kV rk h1
        refine wpAny_setItem_pairs (hsz := Nat.zero_le _) (kV_is ri) (dictOfH_nil dd) fun h' dd' sb => ⟨upd H p (.dK (L2.putK [] k v)), ?_, h _ (.inl ⟨_, upd_same, RK.put (xs := []) q rd .nil⟩)⟩
        have he : ∃ o, h'.get? p = some o := let ⟨o, _, _, h, _⟩ := dd'; ⟨o, h⟩
        refine I.write (x := p) (e := p) (by rw [hp]; trivial) (.inl rfl) (fun b o hb e => (sb.2 b hb).trans e) he (dk_new (by show 1 ≤ sizeLine; decide) hs ?_ dd')
        exact .cons ⟨rfl, rv⟩ .nil
      · obtain ⟨n, a, rfl, hn, h8⟩ := tupKey rk h1
        obtain rfl := ri
        exact putO ok I g.sub (by rw [hp]; trivial) hn h8 rk rd rv dd hs (by rw [rx.length]; exact hl) rx fun s' I' => ⟨_, I', h _ (.inr ⟨_, upd_same, rx.put hn h8 rk rv rd⟩)⟩
  | _ => exact h.elim
end
end Lk
set_option autoImplicit false
set_option linter.all false
namespace Lk
open PySem PySem.Spec PyProof.Rows L2
theorem upd_id {H : Hp} {p : Addr} {o : HO} (h : H p = some o) : upd H p o = H := by
  funext b
  by_cases hb : b = p
  · rw [hb, upd_same, h]
  · rw [upd_ne hb]
section
variable {W : Wd} {H0 G0 G H : Hp} {σ : L2.St} {ρ : Rho} {t : Nat} {p : Addr} {o : HO}
/-- an object that is nobody's is frozen -/
theorem Step.frz (st : Step W G0 H0 G H) (h0 : H0 p = none) (hg : G p = none) (hp : H p = some o) (ns : ¬ stA W p) (nt : ∀ ps, o ≠ .tbl ps) : Step W G0 H0 (upd G p o) H := by
  refine ⟨st.keep, st.live, st.gext.trans (Sub.new hg), fun b u e => ?_, fun b e => ?_, fun b u e => ?_, st.wi⟩
  · by_cases hb : b = p
    · rw [hb, upd_same] at e; rw [hb, hp]; exact e
    · rw [upd_ne hb] at e; exact st.gsub b u e
  · have hb : b ≠ p := fun z => e (z ▸ h0)
    rw [upd_ne hb]; exact st.gnew b e
  · by_cases hb : b = p
    · rw [hb, upd_same] at e; cases e
      rintro (z | ⟨ps, z⟩)
      · exact ns (hb ▸ z)
      · exact nt ps z
    · rw [upd_ne hb] at e; exact st.gno b u e
theorem SR.frz (sr : SR W H0 G H σ ρ t) (g : Gd W (upd G p o) H) (hg : G p = none) (ap : ∀ (j : Nat) (e : D), ρ[j]? = some (.own e) → σ[j]? ≠ some (some (.ref p))) : SR W H0 (upd G p o) H σ ρ t where
  gd := g
  tl := sr.tl
  len := sr.len
  val := fun i d e => let ⟨v, h1, h2⟩ := sr.val i d e; ⟨v, h1, h2.mono (Sub.new hg)⟩
  own := fun i d e => by
    obtain ⟨q, h1, h2, h3, h4, h5⟩ := sr.own i d e
    have ne : q ≠ p := fun z => ap i d e (z ▸ h1)
    exact ⟨q, h1, h2, h3, by rw [upd_ne ne]; exact h4, h5.stay (Sub.new hg) rfl⟩
  dis := sr.dis
/-! ### arguments, what is new unfrozen -/
inductive RNs (W : Wd) (H G' H' : Hp) : List V → List (Fl × D) → Prop
  | nil : RNs W H G' H' [] []
  | cons {v f d vs as} : RV W f H G' H' v d → (f = .n → ∀ (j : Nat) w e, vs[j]? = some w → as[j]? = some (.n, e) → w ≠ v) → RNs W H G' H' vs as → RNs W H G' H' (v :: vs) ((f, d) :: as)
def KN (W : Wd) (G H : Hp) (Q : List V → Hp → Prop) : Argk := fun t as => ∀ vs H' G', Step W G H G' H' → TL W H' t → RNs W H G' H' vs as → Q vs H'
def tN (c : Ct) (e : E) : TA := fun σ H Q => ∃ G ρ t, SR c.W c.H0 G H σ ρ t ∧ XOk c.W G H σ c.x c.wx ∧ evs c.g c.Φ c.x e ρ t (KN c.W G H Q)
theorem RV.step {fl : Fl} {H1 G1 G2 H2 : Hp} {v : V} {d : D} (s : Step W G1 H1 G2 H2) (w : WI W H) (h : RV W fl H G1 H1 v d) : RV W fl H G2 H2 v d := by
  have own : ∀ p, ¬ stA W p → G1 p = none → OwnC W G1 H1 p d → G2 p = none ∧ OwnC W G2 H2 p d := fun p ns hg oc => by
    obtain ⟨o, ho, nt⟩ := oc.there
    refine ⟨?_, oc.stay s.gext ?_⟩
    · rw [s.gnew p (by rw [ho]; simp)]; exact hg
    · rw [ho]; exact s.keep p o ho fun z => z.elim ns fun ⟨ps, z⟩ => nt ps z
  cases fl with
  | f => exact h.mono s.gext
  | n => obtain ⟨p, e, h1, h2, h3⟩ := h; obtain ⟨k1, k2⟩ := own p (w.notSt h1) h2 h3; exact ⟨p, e, h1, k1, k2⟩
  | b => obtain ⟨p, e, h1, h2, h3⟩ := h; obtain ⟨k1, k2⟩ := own p h1 h2 h3; exact ⟨p, e, h1, k1, k2⟩
theorem RNs.from {G1 H1 G' H' : Hp} (s : Step W G H G1 H1) : ∀ {vs as}, RNs W H1 G' H' vs as → RNs W H G' H' vs as
  | _, _, .nil => .nil
  | _, _, .cons h d r => .cons (h.from s) d (RNs.from s r)
theorem RNs.get {Hs : Hp} : ∀ {vs as} {j : Nat} {w : V} {e : D}, RNs W Hs G H vs as → vs[j]? = some w → as[j]? = some (.n, e) → ∃ p, w = .ref p ∧ Hs p = none ∧ G p = none ∧ OwnC W G H p e
  | _, _, _, _, _, .nil, h, _ => by simp at h
  | _, _, 0, w, e, .cons h d r, h1, h2 => by
    simp only [List.getElem?_cons_zero, Option.some.injEq, Prod.mk.injEq] at h1 h2
    obtain ⟨rfl, rfl⟩ := h2
    subst h1
    exact h
  | _, _, j + 1, w, e, .cons h d r, h1, h2 => RNs.get (j := j) r (by simpa using h1) (by simpa using h2)
/-- .. behind the freezing of another -/
theorem RNs.up {Hs : Hp} (hg : G p = none) : ∀ {vs as}, (∀ (j : Nat) w e, vs[j]? = some w → as[j]? = some (.n, e) → w ≠ .ref p) → noB as → RNs W Hs G H vs as → RNs W Hs (upd G p o) H vs as
  | [], [], _, _, _ => .nil
  | [], _ :: _, _, _, r => nomatch r
  | _ :: _, [], _, _, r => nomatch r
  | v :: _, (f, d) :: _, ap, nb, .cons h dd r => by
    refine .cons ?_ dd (RNs.up hg (fun j w e h1 h2 => ap (j + 1) w e (by simpa using h1) (by simpa using h2)) (fun p hp => nb p (List.mem_cons_of_mem _ hp)) r)
    cases f with
    | f => exact R.mono (Sub.new hg) h
    | n =>
      obtain ⟨q, e, h1, h2, h3⟩ := h
      have ne : q ≠ p := fun z => ap 0 v d rfl rfl (z ▸ e)
      exact ⟨q, e, h1, by rw [upd_ne ne]; exact h2, h3.stay (Sub.new hg) rfl⟩
    | b => exact absurd rfl (nb _ List.mem_cons_self)
def setL : List (Nat × Bool) → List V → L2.St → L2.St
  | (i, _) :: ts, v :: vs, σ => setL ts vs (σ.set i (some v))
  | _, _, σ => σ
theorem bindN_noB : ∀ {ts : List (Nat × Bool)} {as : List (Fl × D)} {ρ ρ' : Rho}, bindN ts as ρ = some ρ' → noB as ∧ as.length = ts.length
  | [], [], _, _, _ => ⟨fun _ h => (by cases h), rfl⟩
  | [], _ :: _, _, _, e => by simp [bindN] at e
  | _ :: _, [], _, _, e => by simp [bindN] at e
  | (i, o) :: ts, (f, d) :: as, ρ, ρ', e => by
    cases o <;> cases f <;> simp only [bindN] at e <;> first | (cases e; done) | skip
    · obtain ⟨h1, h2⟩ := bindN_noB e; exact ⟨fun p hp => (List.mem_cons.mp hp).elim (fun z => by rw [z]; simp) (h1 p), by simp [h2]⟩
    · obtain ⟨h1, h2⟩ := bindN_noB e; exact ⟨fun p hp => (List.mem_cons.mp hp).elim (fun z => by rw [z]; simp) (h1 p), by simp [h2]⟩
    · split at e
      · obtain ⟨h1, h2⟩ := bindN_noB e; exact ⟨fun p hp => (List.mem_cons.mp hp).elim (fun z => by rw [z]; simp) (h1 p), by simp [h2]⟩
      · cases e
theorem bindN_go {Hs : Hp} (h0 : ∀ p, Hs p = none → H0 p = none) (nst : ∀ p, Hs p = none → ¬ stA W p) : ∀ {ts : List (Nat × Bool)} {as : List (Fl × D)} {vs : List V} {G : Hp} {σ : L2.St} {ρ ρ' : Rho}, Step W G0 H0 G H → SR W H0 G H σ ρ t → RNs W Hs G H vs as →
    (∀ (j : Nat) w e, vs[j]? = some w → as[j]? = some (.n, e) → ∀ (k : Nat) (e' : D), ρ[k]? = some (.own e') → σ[k]? ≠ some (some w)) → bindN ts as ρ = some ρ' →
    ∃ G', Step W G0 H0 G' H ∧ Sub G G' ∧ SR W H0 G' H (setL ts vs σ) ρ' t
  | [], [], vs, G, σ, ρ, ρ', st, sr, rn, ap, e => by
    cases rn
    simp only [bindN, Option.some.injEq] at e; subst e
    exact ⟨G, st, Sub.refl _, sr⟩
  | [], _ :: _, _, _, _, _, _, _, _, _, _, e => by simp [bindN] at e
  | _ :: _, [], _, _, _, _, _, _, _, _, _, e => by simp [bindN] at e
  | (i, ow) :: ts, (f, d) :: as, vs, G, σ, ρ, ρ', st, sr, rn, ap, e => by
    have nb := (bindN_noB e).1
    cases rn with
    | @cons v _ _ vs _ h dd r =>
    have ap' : ∀ (x : Sv) (hx : ∀ e', x ≠ .own e'), ∀ (j : Nat) w e, vs[j]? = some w → as[j]? = some (.n, e) → ∀ (k : Nat) (e' : D), (ρ.set i x)[k]? = some (.own e') → (σ.set i (some v))[k]? ≠ some (some w) := fun x hx j w e h1 h2 k e' h3 => by
      rcases getElem?_set_own h3 with ⟨_, q, _⟩ | ⟨hk, q⟩
      · exact absurd q (hx e')
      · rw [List.getElem?_set_ne hk]
        exact ap (j + 1) w e (by simpa using h1) (by simpa using h2) k e' q
    cases ow with
    | false =>
      cases f with
      | b => simp [bindN] at e
      | f =>
        simp only [bindN] at e
        have q := bindN_go h0 nst st (sr.set (i := i) h) r (ap' (.val d) (fun _ z => by cases z)) e
        exact q
      | n =>
        simp only [bindN] at e
        obtain ⟨p, rfl, hp, hg, oc⟩ := h
        obtain ⟨o, ho, nt⟩ := oc.there
        have st' := st.frz (h0 p hp) hg ho (nst p hp) nt
        have sr' := sr.frz st'.gd hg fun k e' h3 => ap 0 _ _ rfl rfl k e' h3
        have rr : R W (upd G p o) (.ref p) d := (oc.stay (Sub.new hg) rfl).frozen (by rw [upd_same, ho])
        obtain ⟨G', s1, s2, s3⟩ := bindN_go h0 nst st' (sr'.set (i := i) rr) (r.up (o := o) hg (fun j w e h1 h2 => dd rfl j w e h1 h2) (fun q hq => nb q (List.mem_cons_of_mem _ hq))) (ap' (.val d) (fun _ z => by cases z)) e
        exact ⟨G', s1, (Sub.new hg).trans s2, s3⟩
    | true =>
      cases f with
      | b => simp [bindN] at e
      | f => simp [bindN] at e
      | n =>
        simp only [bindN] at e
        split at e
        · obtain ⟨p, rfl, hp, hg, oc⟩ := h
          have q := bindN_go h0 nst st (sr.setOwn (i := i) (h0 p hp) (nst p hp) hg oc fun k e' h3 => ap 0 _ _ rfl rfl k e' h3) r (fun j w e h1 h2 k e' h3 => ?_) e
          · exact q
          rcases getElem?_set_own h3 with ⟨hk, q, hl⟩ | ⟨hk, q⟩
          · subst hk
            rw [List.getElem?_set, if_pos rfl, if_pos (by rw [sr.len]; exact hl)]
            intro z
            cases z
            exact dd rfl j _ e h1 h2 rfl
          · rw [List.getElem?_set_ne hk]
            exact ap (j + 1) w e (by simpa using h1) (by simpa using h2) k e' q
        · cases e
end
section
variable {X : Cx} {c : Ct} (ok : COk X c)
include ok
theorem n_nil : PA X [] (tN c .nil) := pa_nil.imp fun σ H Q ⟨G, ρ, _, sr, xo, h⟩ => by
  simp only [evs] at h
  exact h _ _ _ sr.gd.step sr.tl .nil
theorem n_cons {a : Expr} {r : List Expr} {ea er : E} (ha : PE X a (tD c ea)) (hr : PA X r (tN c er)) (hs : starEach (a :: r) X.env = (false, eval a X.env) :: starEach r X.env) : PA X (a :: r) (tN c (.cons ea er)) :=
  (pa_cons ha hr hs).imp fun σ H Q ⟨G, ρ, _, sr, xo, h⟩ => by
    simp only [evs] at h
    refine go ok sr xo h fun f d v H1 G1 h s rv sr1 xo1 => ?_
    refine ⟨G1, ρ, _, sr1, xo1, evs_mono ok.mono _ _ (fun _ as h vs H2 G2 s2 tl2 rn => ?_) h⟩
    refine h _ _ _ (s.trans s2) tl2 (.cons (rv.step s2 sr.gd.wi) (fun hf j w e h1 h2 z => ?_) (rn.from s))
    subst hf
    obtain ⟨p, rfl, _, _, oc⟩ := rv
    obtain ⟨o, ho, _⟩ := oc.there
    obtain ⟨q, e1, e2, _⟩ := rn.get h1 h2
    rw [z] at e1
    cases e1
    rw [ho] at e2; cases e2
end
end Lk
set_option autoImplicit false
set_option linter.all false
namespace Lk
open PySem PySem.Spec PyProof.Rows L2
section
variable {X : Cx} {c : Ct} (ok : SOk X c) {σ : L2.St} {H G : Hp} {ρ : Rho} {t : Nat}
include ok
theorem SOk.xo (st : Step c.W c.G0 c.H0 G H) : XOk c.W G H σ c.x c.wx := fun t cn fs hx cls dd H' G' s tl re => ok.xok t cn fs hx cls dd σ H' G' (st.trans s) tl re
theorem SOk.ns {p : Addr} (h : c.H0 p = none) : ¬ stA c.W p := ok.gd0.wi.notSt h
/-! ### plain ones -/
theorem s_skip : PSs X [] (tS c .skip) := pss_nil.imp fun D σ H ⟨G, ρ, t, st, sr, h⟩ => h σ G H (Sub.refl _) st sr
theorem s_pass {pos : Pos} : PS X (.Pass pos) (tS c .skip) := ps_pass.imp fun D σ H ⟨G, ρ, t, st, sr, h⟩ => h σ G H (Sub.refl _) st sr
theorem s_doc {x : Str} {j : Nat} {pos pos' : Pos} : PS X (.Expr (.Constant (.str x) j pos) pos') (tS c .skip) := ps_doc.imp fun D σ H ⟨G, ρ, t, st, sr, h⟩ => h σ G H (Sub.refl _) st sr
theorem s_brk {pos : Pos} : PS X (.Break pos) (tS c .brk) := ps_break.imp fun D σ H ⟨G, ρ, t, st, sr, h⟩ => h σ G H (Sub.refl _) st sr
theorem s_cnt {pos : Pos} : PS X (.Continue pos) (tS c .cnt) := ps_continue.imp fun D σ H ⟨G, ρ, t, st, sr, h⟩ => h σ G H (Sub.refl _) st sr
/-- two in a row, seen from within -/
theorem seq_in {a b : S} {D : Ends} (h : tS c (.seq a b) D σ H) : tS c a { D with nx := tS c b D } σ H := by
  obtain ⟨G, ρ, t, st, sr, h⟩ := h
  simp only [exs] at h
  refine ⟨G, ρ, t, st, sr, ?_⟩
  refine exs_mono ok.mono a ρ ?_ h
  exact ⟨fun t' ρ' h σ' G' H' sb st' sr' => ⟨G', ρ', t', st', sr', exs_mono ok.mono b ρ' (enS_le sb) h⟩, fun _ _ _ h => h, fun _ _ h => h, fun _ _ h => h⟩
theorem ss_cons {st : Stmt} {r : List Stmt} {a b : S} (ha : PS X st (tS c a)) (hb : PSs X r (tS c b)) : PSs X (st :: r) (tS c (.seq a b)) :=
  (pss_cons ha hb).imp fun D σ H h => seq_in ok h
theorem ss_one {st : Stmt} {a : S} (ha : PS X st (tS c a)) : PSs X [st] (tS c a) := pss_one ha
/-! ### expressions in statements -/
/-- the value goes on -/
theorem goS {e : E} {k : Kt} {P : VK} (st : Step c.W c.G0 c.H0 G H) (sr : SR c.W c.H0 G H σ ρ t) (h : ev c.g c.Φ c.x e ρ t k)
    (hk : ∀ {t'} fl d v H' G', k t' fl d → Step c.W G H G' H' → Step c.W c.G0 c.H0 G' H' → RV c.W fl H G' H' v d → SR c.W c.H0 G' H' σ ρ t' → P v H') : tD c e σ H P :=
  go ok.toCOk sr (ok.xo st) h fun fl d v H' G' a s rv sr' _ => hk fl d v H' G' a s (st.trans s) rv sr'
theorem goSF {e : E} {k : Nat → D → Prop} {P : VK} (st : Step c.W c.G0 c.H0 G H) (sr : SR c.W c.H0 G H σ ρ t) (h : ev c.g c.Φ c.x e ρ t fun t f d => f ≠ .b ∧ k t d)
    (hk : ∀ {t'} d v H' G', k t' d → Step c.W G H G' H' → Step c.W c.G0 c.H0 G' H' → R c.W G' v d → SR c.W c.H0 G' H' σ ρ t' → P v H') : tD c e σ H P :=
  goF ok.toCOk sr (ok.xo st) h fun d v H' G' a s r sr' _ => hk d v H' G' a s (st.trans s) r sr'
theorem s_ex {e : Expr} {ea : E} {pos : Pos} (he : PE X e (tD c ea)) (hs : swapsWith e none pos.line X.env = pure false) : PS X (.Expr e pos) (tS c (.ex ea)) :=
  (ps_expr he hs).imp fun D σ H ⟨G, ρ, t, st, sr, h⟩ => goS ok st sr h fun fl d v H' G' k s st' rv sr' => k σ G' H' s.gext st' sr'
theorem set_in {i : Nat} {a : E} {D : Ends} (h : tS c (.set i a) D σ H) : tD c a σ H fun x H1 => gName i x σ H1 D.nx := by
  obtain ⟨G, ρ, t, st, sr, h⟩ := h
  exact goSF ok st sr h fun d v H' G' k s st' r sr' => k _ G' H' s.gext st' (sr'.set r)
theorem own_in {i : Nat} {a : E} {D : Ends} (h : tS c (.own i a) D σ H) : tD c a σ H fun x H1 => gName i x σ H1 D.nx := by
  obtain ⟨G, ρ, t, st, sr, h⟩ := h
  refine goS ok st sr h fun fl d v H' G' ⟨hf, hn, k⟩ s st' rv sr' => ?_
  subst hf
  obtain ⟨p, rfl, hp, hg, oc⟩ := rv
  exact k _ G' H' s.gext st' (sr'.setOwn (st.back hp) (sr.gd.wi.notSt hp) hg oc (sr.ap_fresh (G1 := G) (H1 := H) hp))
theorem s_set {i : Nat} {x : Str} {e : Expr} {ea : E} {pos pos' : Pos} (hi : X.N[i]? = some x) (hx : Loc X.env.scope x) (he : PE X e (tD c ea)) (hs : swapsWith e (some (.Name x pos')) pos.line X.env = pure false) (hf : X.fn x = true ∨ X.env.scope.names.lookup x = some .local) :
    PS X (.Assign [.Name x pos'] e pos) (tS c (.set i ea)) := (ps_set ok.nd hi hx he hs hf).imp fun D σ H h => set_in ok h
theorem s_own {i : Nat} {x : Str} {e : Expr} {ea : E} {pos pos' : Pos} (hi : X.N[i]? = some x) (hx : Loc X.env.scope x) (he : PE X e (tD c ea)) (hs : swapsWith e (some (.Name x pos')) pos.line X.env = pure false) (hf : X.fn x = true ∨ X.env.scope.names.lookup x = some .local) :
    PS X (.Assign [.Name x pos'] e pos) (tS c (.own i ea)) := (ps_set ok.nd hi hx he hs hf).imp fun D σ H h => own_in ok h
theorem s_ret {e : Expr} {ea : E} {pos : Pos} (he : PE X e (tD c ea)) : PS X (.Return (some e) pos) (tS c (.ret ea)) :=
  (ps_ret he).imp fun D σ H ⟨G, ρ, t, st, sr, h⟩ => goS ok st sr h fun fl d v H' G' k s st' rv sr' => k.2 v G' H' st' sr'.tl (rv.from st)
theorem s_ret0 {pos : Pos} : PS X (.Return none pos) (tS c .ret0) := ps_retN.imp fun D σ H ⟨G, ρ, t, st, sr, h⟩ => h _ G H st sr.tl .non
theorem s_rtv {i : Nat} {x : Str} {pos pos' : Pos} (hN : X.N[i]? = some x) (hv : Vis X.env.scope x) (hd : (x == ("__debug__" : Str)) = false) (hcd : (x == ("__classdict__" : Str)) = false) : PS X (.Return (some (.Name x pos')) pos) (tS c (.rtv i)) :=
  (ps_ret (pe_var hN hv hd hcd)).imp fun D σ H ⟨G, ρ, t, st, sr, h⟩ => by
    simp only [exs, rtvD] at h
    split at h
    · rename_i d e
      obtain ⟨v, h1, h2⟩ := sr.val _ _ e
      exact ⟨v, h1, h v G H st sr.tl h2⟩
    · rename_i d e
      obtain ⟨p, h1, h2, h3, h4, h5⟩ := sr.own _ _ e
      exact ⟨.ref p, h1, h _ G H st sr.tl ⟨p, rfl, h2, h4, h5⟩⟩
    · exact h.elim
theorem s_if {t : Expr} {a b : List Stmt} {et : E} {ea eb : S} {pos : Pos} (ht : PT X t (tT c et)) (ha : PSs X a (tS c ea)) (hb : PSs X b (tS c eb)) : PS X (.If t a b pos) (tS c (.ife et ea eb)) :=
  (ps_if ht ha hb).imp fun D σ H ⟨G, ρ, t, st, sr, h⟩ => by
    refine goT ok.toCOk sr (ok.xo st) h fun b H' G' h s sr' _ => ?_
    have st' := st.trans s
    cases b
    · exact ⟨G', ρ, _, st', sr', exs_mono ok.mono _ _ (enS_le s.gext) h⟩
    · exact ⟨G', ρ, _, st', sr', exs_mono ok.mono _ _ (enS_le s.gext) h⟩
theorem s_while {e : Expr} {b : List Stmt} {et : E} {eb : S} {pos : Pos} (ht : PT X e (tT c et)) (hb : PSs X b (tS c eb)) : PS X (.While e b [] pos) (tS c (.whl et eb)) :=
  (ps_while ok.po ht hb).imp fun D σ H ⟨G, ρ, t, st, sr, n, h⟩ => by
    refine ⟨fun m σ H => ∃ G' ρ t, Sub G G' ∧ Step c.W c.G0 c.H0 G' H ∧ SR c.W c.H0 G' H σ ρ t ∧ whlN (fun ρ t k => ev c.g c.Φ c.x et ρ t fun t1 _ d => trD d (k t1)) (fun ρ t e => exs c.g c.Φ c.x eb ρ t e) m ρ t (enS c G D), ⟨n, G, ρ, t, Sub.refl _, st, sr, h⟩, fun m σ H ⟨G1, ρ, t, sb, st, sr, h⟩ => ?_⟩
    cases m with
    | zero => exact h.elim
    | succ m =>
      refine goT ok.toCOk sr (ok.xo st) h fun b H' G' h s sr' _ => ?_
      have st' := st.trans s
      have sb' := sb.trans s.gext
      cases b
      · exact h σ G' H' sb' st' sr'
      · refine ⟨fun σ' H' => ∃ G' ρ t, Sub G G' ∧ Step c.W c.G0 c.H0 G' H' ∧ SR c.W c.H0 G' H' σ' ρ t ∧ whlN (fun ρ t k => ev c.g c.Φ c.x et ρ t fun t1 _ d => trD d (k t1)) (fun ρ t e => exs c.g c.Φ c.x eb ρ t e) m ρ t (enS c G D), fun σ' H' h => ⟨m, Nat.lt_succ_self m, h⟩, G', ρ, _, st', sr', ?_⟩
        refine exs_mono ok.mono _ _ ?_ h
        exact ⟨fun t' ρ' h σ' G2 H2 sb2 st2 sr2 => ⟨G2, ρ', t', sb'.trans sb2, st2, sr2, h⟩, fun _ _ _ h => h, fun t' ρ' h σ' G2 H2 sb2 st2 sr2 => h σ' G2 H2 (sb'.trans sb2) st2 sr2, fun t' ρ' h σ' G2 H2 sb2 st2 sr2 => ⟨G2, ρ', t', sb'.trans sb2, st2, sr2, h⟩⟩
theorem s_for {tg iter : Expr} {b : List Stmt} {tt : Tg} {ei : E} {eb : S} {pos : Pos} (hi : PI X tg iter (tI c ei)) (hg : PG X tg (gT X.K tt)) (hb : PSs X b (tS c eb)) (hs : ∀ x, foldedSetIterable iter X.env x = pure x) : PS X (.For tg iter b [] pos) (tS c (.for tt ei eb)) :=
  (ps_for ok.po ok.calm hi hg hb hs).imp fun D σ H ⟨G, ρ, t, st, sr, h⟩ => by
    refine ⟨G, ρ, t, sr, ok.xo st, evi_mono ok.mono _ _ (fun t1 items h J H1 G1 s1 tl1 y => ?_) h⟩
    have st1 := st.trans s1
    have sr1 := sr.step s1 tl1
    refine ⟨fun i m σ H => i ≤ items.length ∧ m = items.length - i ∧ ∃ G' ρ t, Sub G1 G' ∧ Step c.W c.G0 c.H0 G' H ∧ SR c.W c.H0 G' H σ ρ t ∧ forL (fun ρ t e => exs c.g c.Φ c.x eb ρ t e) tt (items.drop i) ρ t (enS c G D),
      ⟨_, Nat.zero_le _, rfl, G1, ρ, t1, Sub.refl _, st1, sr1, h⟩, fun i m σ H ⟨hi, hm, G2, ρ, t, sb, st, sr, h⟩ => ?_⟩
    by_cases hi' : items.length = i
    · refine .inl ⟨y.stop i G2 H sb sr.gd hi', ?_⟩
      rw [List.drop_eq_nil_of_le (by omega)] at h
      exact h σ G2 H (s1.gext.trans sb) st sr
    · have hlt : i < items.length := by omega
      rw [List.drop_eq_getElem_cons hlt] at h
      simp only [forL] at h
      obtain ⟨y1, y2⟩ := y.go i items[i] G2 H sb sr.gd (List.getElem?_eq_getElem hlt)
      refine .inr ⟨y1, fun σ' H' => ∃ m', m' < m ∧ (i + 1 ≤ items.length ∧ m' = items.length - (i + 1) ∧ ∃ G' ρ t, Sub G1 G' ∧ Step c.W c.G0 c.H0 G' H' ∧ SR c.W c.H0 G' H' σ' ρ t ∧ forL (fun ρ t e => exs c.g c.Φ c.x eb ρ t e) tt (items.drop (i + 1)) ρ t (enS c G D)), fun σ' H' h => h, fun x H' hy => ?_⟩
      obtain ⟨G3, s3, pu3, r3⟩ := y2 x H' hy
      refine gT_of ok.K (sr.step s3 (pu3 _ sr.tl)) r3 h fun σ2 ρ2 h2 sr2 _ => ?_
      have sb3 := sb.trans s3.gext
      have st3 := st.trans s3
      refine ⟨G3, ρ2, t, st3, sr2, ?_⟩
      refine exs_mono ok.mono _ _ ?_ h2
      exact ⟨fun t' ρ' h σ' G4 H4 sb4 st4 sr4 => ⟨_, by omega, hlt, rfl, G4, ρ', t', sb3.trans sb4, st4, sr4, h⟩, fun _ _ _ h => h, fun t' ρ' h σ' G4 H4 sb4 st4 sr4 => h σ' G4 H4 (s1.gext.trans (sb3.trans sb4)) st4 sr4, fun t' ρ' h σ' G4 H4 sb4 st4 sr4 => ⟨_, by omega, hlt, rfl, G4, ρ', t', sb3.trans sb4, st4, sr4, h⟩⟩
/-! ### tuples of targets -/
theorem s_unp {es : List Expr} {k : Nat} {e : Expr} {is : List Nat} {ea : E} {pos pos' : Pos} (he : PE X e (tD c ea)) (hg : PGs X es (gNs is)) (hs : swapsWithSole [.Tuple es k pos'] e pos.line X.env = pure false) (hw : swappedStores [.Tuple es k pos'] e X.env = pure none) (hn : (assignEach es X.env).length = is.length) (hst : (assignEach es X.env).findIdx? (·.1) = none) :
    PS X (.Assign [.Tuple es k pos'] e pos) (tS c (.unp is ea)) :=
  (ps_asg he (pg_tup ok.calm hg hn hst) hs hw).imp fun D σ H ⟨G, ρ, t, st, sr, h⟩ =>
    goSF ok st sr h fun d v H' G' k s st' r sr' => by
      refine gT_of (W := c.W) (K := X.K) (tg := .many is) ok.K sr' r k fun σ' ρ' h sr2 _ => h σ' G' H' s.gext st' sr2
theorem par_in {ts : List (Nat × Bool)} {es : E} {D : Ends} (h : tS c (.par ts es) D σ H) : tN c es σ H fun vs H1 => D.nx (setL ts vs σ) H1 := by
  obtain ⟨G, ρ, t, st, sr, h⟩ := h
  refine ⟨G, ρ, t, sr, ok.xo st, evs_mono ok.mono _ _ (fun t1 as h vs H' G' s tl1 rn => ?_) h⟩
  cases q : bindN ts as ρ with
  | none => simp [q] at h
  | some ρ' =>
    simp only [q] at h
    have sr' := sr.step s tl1
    obtain ⟨G2, s2, sb2, sr2⟩ := bindN_go (W := c.W) (H0 := c.H0) (G0 := c.G0) (H := H') (Hs := H) (fun p hp => st.back hp) (fun p hp => sr.gd.wi.notSt hp) (st.trans s) sr' rn (fun j w e h1 h2 k e' h3 => by
      obtain ⟨p, rfl, hp, _⟩ := rn.get h1 h2
      exact sr.ap_fresh (G1 := G) (H1 := H) hp k e' h3) q
    exact h _ G2 H' (s.gext.trans sb2) s2 sr2
end
end Lk
set_option autoImplicit false
set_option linter.all false
namespace Lk
open PySem PySem.Spec PyProof.Rows L2
section
variable {X : Cx} {c : Ct} (ok : SOk X c) {σ : L2.St} {H G : Hp} {ρ : Rho} {t : Nat}
include ok
theorem s_par2 {i j : Nat} {oi oj : Bool} {x y : Str} {a b : Expr} {ea : E} {px py pt pos : Pos} {kt k2 : Nat} {pt2 : Pos} (hi : X.N[i]? = some x) (hj : X.N[j]? = some y) (hij : i ≠ j) (hx : X.env.scope.names.lookup x = some .local) (hy : X.env.scope.names.lookup y = some .local)
    (ha : PA X [a, b] (tN c ea)) (hl : lenE ea = 2) (hw : swappedStores [.Tuple [.Name x px, .Name y py] kt pt] (.Tuple [a, b] k2 pt2) X.env = pure (some [x, y])) (hs : swapsWithSole [.Tuple [.Name x px, .Name y py] kt pt] (.Tuple [a, b] k2 pt2) pos.line X.env = pure false) :
    PS X (.Assign [.Tuple [.Name x px, .Name y py] kt pt] (.Tuple [a, b] k2 pt2) pos) (tS c (.par [(i, oi), (j, oj)] ea)) :=
  (ps_par ok.calm ok.nd hi hj hij hx hy ha hw hs).imp fun D σ H h => by
    obtain ⟨G, ρ, t, sr, xo, h⟩ := par_in ok h
    refine ⟨G, ρ, t, sr, xo, evs_mono ok.mono _ _ (fun _ as h vs H' G' s tl rn => ?_) (evs_len ok.mono _ _ h)⟩
    obtain ⟨hlen, h⟩ := h
    rw [hl] at hlen
    have q := h vs H' G' s tl rn
    cases rn with
    | nil => simp at hlen
    | cons _ _ r =>
      cases r with
      | nil => simp at hlen
      | cons _ _ r =>
        cases r with
        | nil => exact ⟨_, _, rfl, q⟩
        | cons _ _ r => simp at hlen
theorem s_par3 {i j l : Nat} {oi oj ol : Bool} {x y z : Str} {a b d : Expr} {ea : E} {px py pz pt pos : Pos} {kt k2 : Nat} {pt2 : Pos} (hi : X.N[i]? = some x) (hj : X.N[j]? = some y) (hl' : X.N[l]? = some z) (hij : i ≠ j) (hil : i ≠ l) (hjl : j ≠ l) (hx : X.env.scope.names.lookup x = some .local) (hy : X.env.scope.names.lookup y = some .local) (hz : X.env.scope.names.lookup z = some .local)
    (ha : PA X [a, b, d] (tN c ea)) (hl : lenE ea = 3) (hw : swappedStores [.Tuple [.Name x px, .Name y py, .Name z pz] kt pt] (.Tuple [a, b, d] k2 pt2) X.env = pure (some [x, y, z])) (hs : swapsWithSole [.Tuple [.Name x px, .Name y py, .Name z pz] kt pt] (.Tuple [a, b, d] k2 pt2) pos.line X.env = pure false) :
    PS X (.Assign [.Tuple [.Name x px, .Name y py, .Name z pz] kt pt] (.Tuple [a, b, d] k2 pt2) pos) (tS c (.par [(i, oi), (j, oj), (l, ol)] ea)) :=
  (ps_par3 ok.calm ok.nd hi hj hl' hij hil hjl hx hy hz ha hw hs).imp fun D σ H h => by
    obtain ⟨G, ρ, t, sr, xo, h⟩ := par_in ok h
    refine ⟨G, ρ, t, sr, xo, evs_mono ok.mono _ _ (fun _ as h vs H' G' s tl rn => ?_) (evs_len ok.mono _ _ h)⟩
    obtain ⟨hlen, h⟩ := h
    rw [hl] at hlen
    have q := h vs H' G' s tl rn
    cases rn with
    | nil => simp at hlen
    | cons _ _ r =>
      cases r with
      | nil => simp at hlen
      | cons _ _ r =>
        cases r with
        | nil => simp at hlen
        | cons _ _ r =>
          cases r with
          | nil => exact ⟨_, _, _, rfl, q⟩
          | cons _ _ r => simp at hlen
/-! ### a list's methods, stores -/
theorem getO_sr {i : Nat} {k : D → Prop} (sr : SR c.W c.H0 G H σ ρ t) (h : getO ρ i k) : ∃ d p, ρ[i]? = some (.own d) ∧ σ[i]? = some (some (.ref p)) ∧ c.H0 p = none ∧ ¬ stA c.W p ∧ G p = none ∧ OwnC c.W G H p d ∧ k d := by
  unfold getO at h
  split at h
  · rename_i d e
    obtain ⟨p, h1, h2, h3, h4, h5⟩ := sr.own _ _ e
    exact ⟨d, p, e, h1, h2, h3, h4, h5, h⟩
  · exact h.elim
theorem s_app {i : Nat} {x : Str} {e : Expr} {ea : E} {p1 apos cpos pos : Pos} (hN : X.N[i]? = some x) (hv : Vis X.env.scope x) (hd : (x == ("__debug__" : Str)) = false) (hcd : (x == ("__classdict__" : Str)) = false) (he : PE X e (tD c ea))
    (hfew : ((backTo cpos (starEach [e] X.env)).all (fun x => !x.1) && (backToKw cpos (keywordEach [] X.env)).all (fun x => x.1.isSome) && decide (([e] : List Expr).length + ([] : List Keyword).length + (if ([] : List Keyword).isEmpty then 0 else 1) < 30)) = true)
    (hline : (apos.endLine == cpos.line) = true) (hs : starEach [e] X.env = (false, eval e X.env) :: starEach [] X.env) (hsw : swapsWith (.Call (.Attribute (.Name x p1) "append" apos) [e] [] cpos) none pos.line X.env = pure false) :
    PS X (.Expr (.Call (.Attribute (.Name x p1) "append" apos) [e] [] cpos) pos) (tS c (.app i ea)) :=
  (ps_expr (pe_bm F.plainAttrs_list F.slot_list_append F.type_list_append mt_append (pe_var hN hv hd hcd) (pa_cons he pa_nil hs) rfl hfew hline hs rfl) hsw).imp fun D σ H ⟨G, ρ, t, st, sr, h⟩ => by
    simp only [exs] at h
    obtain ⟨o, p, e1, e2, h0, ns, hg, oc, hl, h⟩ := getO_sr ok sr h
    refine ⟨.ref p, e2, ?_, ?_⟩
    · cases o <;> first | cases hl | skip
      obtain ⟨xs, hp, _⟩ := oc
      exact .inl ⟨rfl, xs, SqL.of hp⟩
    · refine goSF ok st sr h fun d v H' G' k s st' r sr' => ?_
      obtain ⟨p', k1, _, _, _, oc'⟩ := sr'.own i o e1
      rw [e2] at k1; cases k1
      cases o <;> first | cases hl | skip
      obtain ⟨hz, k⟩ := k
      obtain ⟨xs, hp, rl⟩ := oc'
      obtain ⟨st2, sr2⟩ := sr'.turn (G0 := c.G0) (o := .lst (xs ++ [v])) ok.gd0.wi st' e1 e2 (d' := .lst _) ⟨_, upd_same, rl.append (.cons r .nil)⟩
      exact ⟨p, xs, v, rfl, rfl, hp, by rw [rl.length]; exact hz, k σ G' _ s.gext st2 sr2⟩
theorem s_ext {i : Nat} {x : Str} {e : Expr} {ea : E} {p1 apos cpos pos : Pos} (hN : X.N[i]? = some x) (hv : Vis X.env.scope x) (hd : (x == ("__debug__" : Str)) = false) (hcd : (x == ("__classdict__" : Str)) = false) (he : PE X e (tD c ea))
    (hfew : ((backTo cpos (starEach [e] X.env)).all (fun x => !x.1) && (backToKw cpos (keywordEach [] X.env)).all (fun x => x.1.isSome) && decide (([e] : List Expr).length + ([] : List Keyword).length + (if ([] : List Keyword).isEmpty then 0 else 1) < 30)) = true)
    (hline : (apos.endLine == cpos.line) = true) (hs : starEach [e] X.env = (false, eval e X.env) :: starEach [] X.env) (hsw : swapsWith (.Call (.Attribute (.Name x p1) "extend" apos) [e] [] cpos) none pos.line X.env = pure false) :
    PS X (.Expr (.Call (.Attribute (.Name x p1) "extend" apos) [e] [] cpos) pos) (tS c (.ext i ea)) :=
  (ps_expr (pe_bm F.plainAttrs_list F.slot_list_extend F.type_list_extend mt_extA (pe_var hN hv hd hcd) (pa_cons he pa_nil hs) rfl hfew hline hs rfl) hsw).imp fun D σ H ⟨G, ρ, t, st, sr, h⟩ => by
    simp only [exs] at h
    obtain ⟨o, p, e1, e2, h0, ns, hg, oc, hl, h⟩ := getO_sr ok sr h
    refine ⟨.ref p, e2, ?_, ?_⟩
    · cases o <;> first | cases hl | skip
      obtain ⟨xs, hp, _⟩ := oc
      exact .inl ⟨rfl, xs, SqL.of hp⟩
    · refine goSF ok st sr h fun d v H' G' k s st' r sr' => ?_
      obtain ⟨p', k1, _, _, _, oc'⟩ := sr'.own i o e1
      rw [e2] at k1; cases k1
      cases o <;> first | cases hl | skip
      obtain ⟨xs, hp, rl⟩ := oc'
      cases d with
      | lst ds =>
        obtain ⟨hz, k⟩ := k
        obtain ⟨q, ys, rfl, hq, ry⟩ := r.lstE
        obtain ⟨st2, sr2⟩ := sr'.turn (G0 := c.G0) (o := .lst (xs ++ ys)) ok.gd0.wi st' e1 e2 (d' := .lst _) ⟨_, upd_same, rl.append ry⟩
        exact ⟨p, q, xs, ys, rfl, rfl, hp, .inl (sr'.gd.sub _ _ hq), by rw [rl.length, ry.length]; exact hz, k σ G' _ s.gext st2 sr2⟩
      | tup ds =>
        obtain ⟨hz, k⟩ := k
        obtain ⟨q, ys, rfl, hq, ry⟩ := r.tupE
        obtain ⟨st2, sr2⟩ := sr'.turn (G0 := c.G0) (o := .lst (xs ++ ys)) ok.gd0.wi st' e1 e2 (d' := .lst _) ⟨_, upd_same, rl.append ry⟩
        exact ⟨p, q, xs, ys, rfl, rfl, hp, .inr (by rw [ok.K]; exact sr'.gd.sub.sqt hq), by rw [rl.length, ry.length]; exact hz, k σ G' _ s.gext st2 sr2⟩
      | _ => exact k.elim
theorem s_pop {i j : Nat} {x y : Str} {p1 apos cpos pos pos' : Pos} (hN : X.N[i]? = some x) (hv : Vis X.env.scope x) (hd : (x == ("__debug__" : Str)) = false) (hcd : (x == ("__classdict__" : Str)) = false) (hj : X.N[j]? = some y) (hy : Loc X.env.scope y) (hline : (apos.endLine == cpos.line) = true)
    (hsw : swapsWith (.Call (.Attribute (.Name x p1) "pop" apos) [] [] cpos) (some (.Name y pos')) pos.line X.env = pure false) (hf : X.fn y = true ∨ X.env.scope.names.lookup y = some .local) :
    PS X (.Assign [.Name y pos'] (.Call (.Attribute (.Name x p1) "pop" apos) [] [] cpos) pos) (tS c (.pop j i)) :=
  (ps_set ok.nd hj hy (pe_bm0 F.plainAttrs_list F.slot_list_pop F.type_list_pop mt_pop (pe_var hN hv hd hcd) rfl hline) hsw hf).imp fun D σ H ⟨G, ρ, t, st, sr, h⟩ => by
    simp only [exs] at h
    obtain ⟨o, p, e1, e2, h0, ns, hg, oc, h⟩ := getO_sr ok sr h
    cases o <;> first | exact h.elim | skip
    obtain ⟨d, hd, hij, k⟩ := h
    obtain ⟨xs, hp, rl⟩ := oc
    refine ⟨.ref p, e2, .inl ⟨rfl, xs, SqL.of hp⟩, ?_⟩
    rw [List.getLast?_eq_getElem?] at hd
    obtain ⟨v, hv, rv⟩ := rl.get hd
    obtain ⟨st2, sr2⟩ := sr.turn (G0 := c.G0) (o := .lst xs.dropLast) ok.gd0.wi st e1 e2 (d' := .lst _) ⟨_, upd_same, rl.dropLast⟩
    exact ⟨p, xs, v, rfl, rfl, hp, by rw [rl.length]; exact hv, k _ G _ (Sub.refl _) st2 (sr2.set rv)⟩
theorem s_sset {i : Nat} {x : Str} {ke e : Expr} {ek ea : E} {p1 p2 pos : Pos} (hN : X.N[i]? = some x) (hv : Vis X.env.scope x) (hd : (x == ("__debug__" : Str)) = false) (hcd : (x == ("__classdict__" : Str)) = false) (hk : PE X ke (tD c ek)) (he : PE X e (tD c ea))
    (ha : ∀ v, assign (.Subscript (.Name x p1) ke p2) X.env v = (do let ov ← holding [v] (eval (.Name x p1) X.env); let iv ← holding [v, ov] (eval ke X.env); standAt p2; holding [v, ov, iv] (setItem ov iv v); release [v, ov, iv] []))
    (hs : swapsWithSole [.Subscript (.Name x p1) ke p2] e pos.line X.env = pure false) (hw : swappedStores [.Subscript (.Name x p1) ke p2] e X.env = pure none) :
    PS X (.Assign [.Subscript (.Name x p1) ke p2] e pos) (tS c (.sset i ek ea)) :=
  (ps_asg he (pg_sub (pe_var hN hv hd hcd) hk (pset_D ok.toXW (by have := ok.hu; omega)) ha) hs hw).imp fun D σ H ⟨G, ρ, t, st, sr, h⟩ => by
    simp only [exs] at h
    refine goSF ok st sr h fun d v H1 G1 h s1 st1 r sr1 => ?_
    obtain ⟨o, p, e1, e2, h0, ns, hg, oc, h⟩ := getO_sr ok sr1 h
    refine ⟨.ref p, e2, ?_⟩
    refine goSF ok st1 sr1 h fun dk vk H2 G2 k s2 st2 rk sr2 => ?_
    obtain ⟨p', k1, _, _, _, oc'⟩ := sr2.own i o e1
    rw [e2] at k1; cases k1
    refine ⟨G2, o, dk, d, p, rfl, sr2.gd, oc', rk, r.mono s2.gext, ssetD_mono (fun d' k ob oc2 => ?_) k⟩
    obtain ⟨st3, sr3⟩ := sr2.turn (G0 := c.G0) (o := ob) ok.gd0.wi st2 e1 e2 oc2
    exact k σ G2 _ (s1.gext.trans s2.gext) st3 sr3
theorem s_aug {i : Nat} {x : Str} {e : Expr} {ea : E} {pos pos' : Pos} (hi : X.N[i]? = some x) (hx : Loc X.env.scope x) (he : PE X e (tD c ea)) (hf : X.fn x = true ∨ X.env.scope.names.lookup x = some .local) : PS X (.AugAssign (.Name x pos') .Add e pos) (tS c (.aug i ea)) :=
  (ps_aug ok.nd hi hx he ip_add hf).imp fun D σ H ⟨G, ρ, t, st, sr, h⟩ => by
    simp only [exs, getV] at h
    split at h
    · rename_i d1 e1
      obtain ⟨v, h1, h2⟩ := sr.val _ _ e1
      refine ⟨v, h1, goS ok st sr h.2 fun fl d2 w H' G' ⟨hf, k⟩ s st' rv sr' => ?_⟩
      unfold augD at k
      split at k
      · obtain rfl := h2.intE
        obtain ⟨G2, s2, r2, sb2⟩ := rv.freeze sr.gd.wi s hf
        obtain rfl := r2.intE
        exact ⟨_, _, rfl, rfl, k _ G' H' s.gext st' (sr'.set (.int _))⟩
      · exact k.elim
    · exact absurd rfl h.1
    · exact h.elim
/-! ### frozen, locked -/
theorem s_frz {st : Stmt} {i : Nat} {s : S} (hs : PS X st (tS c s)) : PS X st (tS c (.seq (.frz i) s)) := hs.imp fun D σ H ⟨G, ρ, t, st, sr, h⟩ => by
  simp only [exs, frzD] at h
  split at h
  · rename_i d e
    obtain ⟨p, h1, h2, h3, h4, h5⟩ := sr.own _ _ e
    obtain ⟨o, ho, nt⟩ := h5.there
    obtain ⟨st', sr', sb⟩ := sr.freeze (G0 := c.G0) (o := o) (d' := d) ok.gd0.wi st e h1 nt ((h5.stay (Sub.new h4) rfl).frozen (by rw [upd_same, ho]))
    rw [upd_id ho] at st' sr'
    exact ⟨_, _, _, st', sr', exs_mono ok.mono _ _ (enS_le sb) h⟩
  · exact ⟨G, ρ, t, st, sr, h⟩
theorem s_lck {st : Stmt} {i : Nat} {s : S} (hs : PS X st (tS c s)) : PS X st (tS c (.seq (.lck i) s)) := by
  refine ⟨fun pins sh σ H D I ⟨G, ρ, t, st, sr, h⟩ => ?_⟩
  simp only [exs, lckD] at h
  split at h
  · rename_i l e
    obtain ⟨p, h1, h2, h3, h4, h5⟩ := sr.own _ _ e
    obtain ⟨u, hu, mu, fr⟩ : ∃ u, H p = some u ∧ Mut (some u) ∧ ∀ od, R c.W (upd G p (.frz od u)) (.ref p) (.dcl l) := by
      rcases h5 with ⟨kv, hp, rk⟩ | ⟨xs, hp, rx⟩
      · exact ⟨_, hp, trivial, fun od => .dl upd_same (rk.mono (Sub.new h4))⟩
      · exact ⟨_, hp, trivial, fun od => .dlx upd_same (rx.mono (Sub.new h4))⟩
    obtain ⟨od, I'⟩ := I.lock hu mu
    obtain ⟨st', sr', sb⟩ := sr.freeze (G0 := c.G0) (o := .frz od u) (d' := .dcl l) ok.gd0.wi st e h1 (fun ps z => by cases z) (fr od)
    exact hs.run pins sh σ _ D I' ⟨_, _, _, st', sr', exs_mono ok.mono _ _ (enS_le sb) h⟩
  · exact hs.run pins sh σ _ D I ⟨G, ρ, t, st, sr, h⟩
end
end Lk
set_option autoImplicit false
set_option linter.all false
namespace Lk
open PySem PySem.Spec PyProof.Rows L2
/-! ### attributes of an object of one's own -/
theorem RF.put {W : Wd} {G : Hp} {f : Str} {v : V} {d : D} (r : R W G v d) : ∀ {fs ds}, RF W G fs ds → RF W G (putF f v fs) (putFD f d ds)
  | _, _, .nil => .cons r .nil
  | _, _, .cons (x := x) h t => by
    unfold putF putFD
    by_cases e : x = f
    · rw [if_pos e, if_pos e]; exact .cons r t
    · rw [if_neg e, if_neg e]; exact .cons h (RF.put r t)
theorem RF.length {W : Wd} {G : Hp} : ∀ {fs ds}, RF W G fs ds → fs.length = ds.length
  | _, _, .nil => rfl
  | _, _, .cons _ t => by rw [List.length_cons, List.length_cons, RF.length t]
section
variable {X : Cx} {c : Ct} (ok : SOk X c) {σ : L2.St} {H G : Hp} {ρ : Rho} {t : Nat}
include ok
theorem s_fset {i : Nat} {x f : Str} {e : Expr} {ea : E} {p1 pos pos' : Pos} (hN : X.N[i]? = some x) (hv : Vis X.env.scope x) (hd : (x == ("__debug__" : Str)) = false) (hcd : (x == ("__classdict__" : Str)) = false) (he : PE X e (tD c ea)) (hf : f ∈ c.W.fd)
    (hs : swapsWith e (some (.Attribute (.Name x p1) f pos')) pos.line X.env = pure false) : PS X (.Assign [.Attribute (.Name x p1) f pos'] e pos) (tS c (.fset i f ea)) :=
  (ps_fld (pe_var hN hv hd hcd) he hs).imp fun D σ H ⟨G, ρ, t, st, sr, h⟩ => by
    simp only [exs] at h
    refine goSF ok st sr h fun d v H1 G1 h s1 st1 r sr1 => ?_
    obtain ⟨o, p, e1, e2, h0, ns, hg, oc, h⟩ := getO_sr ok sr1 h
    cases o <;> first | exact h.elim | skip
    obtain ⟨hl, k⟩ := h
    obtain ⟨e0, C, dx, fs, hp, ob, na, rf⟩ := oc
    have na' : ∀ q ∈ putF f v fs, NoAttr c.W.K C q.1 := fun q hq => by
      have : ∀ {fs : List (Str × V)}, (∀ p ∈ fs, NoAttr c.W.K C p.1) → ∀ q ∈ putF f v fs, NoAttr c.W.K C q.1 := fun {fs} h => by
        induction fs with
        | nil => intro q hq; simp [putF] at hq; subst hq; exact ob.na f hf
        | cons p r ih =>
          obtain ⟨g, y⟩ := p
          intro q hq
          unfold putF at hq
          split at hq
          · rcases List.mem_cons.mp hq with rfl | hq
            · exact h (g, y) List.mem_cons_self
            · exact h q (List.mem_cons_of_mem _ hq)
          · rcases List.mem_cons.mp hq with rfl | hq
            · exact h _ List.mem_cons_self
            · exact ih (fun p hp => h p (List.mem_cons_of_mem _ hp)) q hq
      exact this na q hq
    obtain ⟨st2, sr2⟩ := sr1.turn (G0 := c.G0) (o := .ins C dx (putF f v fs)) ok.gd0.wi st1 e1 e2 (d' := .slf _ _ _) ⟨e0, C, dx, _, upd_same, ob, na', rf.put r⟩
    refine ⟨.ref p, e2, p, C, dx, fs, rfl, hp, by rw [ok.K]; exact ob.cls, by rw [ok.K]; exact ob.na f hf, by rw [rf.length]; exact hl, k σ G1 _ s1.gext st2 sr2⟩
end
/-! ### borrowed arguments -/
section
variable {W : Wd} {G H : Hp}
structure Lent (W : Wd) (G H Gx : Hp) : Prop where
  gd : Gd W Gx H
  sub : Sub G Gx
  back : ∀ Gx' H', Step W Gx H Gx' H' → ∃ G', Step W G H G' H' ∧ ∀ v d, d.flat = true → R W Gx' v d → R W G' v d
theorem flat_any {G' : Hp} {v : V} {d : D} (hf : d.flat = true) (r : R W G v d) : R W G' v d := by
  cases r <;> first | (simp [D.flat] at hf; done) | constructor
theorem Lent.refl (g : Gd W G H) : Lent W G H G := ⟨g, Sub.refl _, fun G' H' s => ⟨G', s, fun _ _ _ r => r⟩⟩
theorem Lent.one {p : Addr} {d : D} (g : Gd W G H) (ns : ¬ stA W p) (hg : G p = none) (oc : OwnC W G H p d) : ∃ Gx, Lent W G H Gx ∧ R W Gx (.ref p) d ∧ ∃ o, H p = some o ∧ Gx = upd G p o := by
  obtain ⟨o, ho, nt⟩ := oc.there
  have gd : Gd W (upd G p o) H := by
    refine ⟨fun b u e => ?_, fun b u e => ?_, g.wi⟩
    · by_cases hb : b = p
      · rw [hb, upd_same] at e; rw [hb, ho]; exact e
      · rw [upd_ne hb] at e; exact g.sub b u e
    · by_cases hb : b = p
      · rw [hb, upd_same] at e; cases e
        rintro (z | ⟨ps, z⟩)
        · exact ns (hb ▸ z)
        · exact nt ps z
      · rw [upd_ne hb] at e; exact g.no b u e
  refine ⟨upd G p o, ⟨gd, Sub.new hg, fun Gx' H' s => ⟨fun b => if b = p then none else Gx' b, ?_, fun v d hf r => flat_any hf r⟩⟩, (oc.stay (Sub.new hg) rfl).frozen (by rw [upd_same, ho]), o, ho, rfl⟩
  refine ⟨s.keep, s.live, fun b u e => ?_, fun b u e => ?_, fun b e => ?_, fun b u e => ?_, s.wi⟩
  · have hb : b ≠ p := ne_of_none e hg
    show (if b = p then none else Gx' b) = some u
    rw [if_neg hb]
    exact s.gext b u (by rw [upd_ne hb]; exact e)
  · change (if b = p then none else Gx' b) = some u at e
    split at e
    · cases e
    · exact s.gsub b u e
  · show (if b = p then none else Gx' b) = G b
    by_cases hb : b = p
    · rw [if_pos hb, hb, hg]
    · rw [if_neg hb, s.gnew b e, upd_ne hb]
  · change (if b = p then none else Gx' b) = some u at e
    split at e
    · cases e
    · exact s.gno b u e
theorem Lent.trans {Gx Gy : Hp} (a : Lent W G H Gx) (b : Lent W Gx H Gy) : Lent W G H Gy := ⟨b.gd, a.sub.trans b.sub, fun G' H' s => by
  obtain ⟨G1, s1, r1⟩ := b.back G' H' s
  obtain ⟨G2, s2, r2⟩ := a.back G1 H' s1
  exact ⟨G2, s2, fun v d hf r => r2 v d hf (r1 v d hf r)⟩⟩
theorem RB.lent {p : Addr} {o : HO} {v : V} {d : D} (hg : G p = none) (h : RB W G H v d) : RB W (upd G p o) H v d := by
  rcases h with r | ⟨q, e, n, oc⟩
  · exact .inl (r.mono (Sub.new hg))
  · exact .inr ⟨q, e, n, oc.stay (Sub.new hg) rfl⟩
theorem lend : ∀ {vs : List V} {ds : List D} {G : Hp}, Gd W G H → RBL W G H vs ds → ∃ Gx, Lent W G H Gx ∧ RL W Gx vs ds
  | _, _, G, g, .nil => ⟨G, .refl g, .nil⟩
  | _, _, G, g, .cons (vs := vs) (ds := ds) h t => by
    rcases h with r | ⟨p, rfl, ns, oc⟩
    · obtain ⟨Gx, l, rl⟩ := lend g t
      exact ⟨Gx, l, .cons (r.mono l.sub) rl⟩
    · by_cases hg : G p = none
      · obtain ⟨G1, l1, r1, o, ho, rfl⟩ := Lent.one g ns hg oc
        have t' : RBL W (upd G p o) H vs ds := by
          clear oc
          induction t with
          | nil => exact .nil
          | cons h t ih => exact .cons (h.lent hg) ih
        obtain ⟨Gx, l, rl⟩ := lend l1.gd t'
        exact ⟨Gx, l1.trans l, .cons (r1.mono l.sub) rl⟩
      · obtain ⟨u, hu⟩ := Option.ne_none_iff_exists'.mp hg
        have r : R W G (.ref p) _ := oc.frozen (by rw [hu, g.sub _ _ hu])
        obtain ⟨Gx, l, rl⟩ := lend g t
        exact ⟨Gx, l, .cons (r.mono l.sub) rl⟩
end
end Lk
set_option autoImplicit false
set_option linter.all false
namespace Lk
open PySem L2
/-! ### displays of dicts -/
def flatV : List (V × V) → List V
  | [] => []
  | (a, b) :: r => a :: b :: flatV r
section
variable {X : Cx} {c : Ct} (ok : COk X c)
include ok
/-- .. its pairs' readings -/
inductive KVs (X : Cx) (c : Ct) : List (Option Expr) → List Expr → E → Prop
  | nil : KVs X c [] [] .nil
  | cons {k v ks vs a b r} : PE X k (tD c a) → PE X v (tD c b) → KVs X c ks vs r → KVs X c (some k :: ks) (v :: vs) (.cons a (.cons b r))
/-- one of them, then what is made of it -/
theorem goRA {e : E} {σ : L2.St} {H G : Hp} {ρ : Rho} {t : Nat} {k : Kt} {P : VK} (sr : SR c.W c.H0 G H σ ρ t) (xo : XOk c.W G H σ c.x c.wx) (h : ev c.g c.Φ c.x e ρ t k)
    (hk : ∀ {t'} fl d v H' G', k t' fl d → Step c.W G H G' H' → SR c.W c.H0 G' H' σ ρ t' → XOk c.W G' H' σ c.x c.wx → (∀ vs as G2 H2, Step c.W G' H' G2 H2 → RAs c.W G2 H2 vs as → RAs c.W G2 H2 (v :: vs) ((fl, d) :: as)) → P v H') : tD c e σ H P :=
  go ok sr xo h fun f d v H1 G1 h s rv sr1 xo1 => by
    by_cases hf : f = .b
    · subst hf
      obtain ⟨p, e, n, hp, oc⟩ := rv
      refine hk _ _ _ _ _ h s sr1 xo1 fun vs as G2 H2 s2 ra => ?_
      obtain ⟨o, ho, nt⟩ := oc.there
      refine .cons (fun z => absurd rfl z) (fun _ => ⟨p, e, n, ?_, oc.stay s2.gext ?_⟩) ra
      · rw [s2.gnew p (by rw [ho]; simp)]; exact hp
      · rw [ho]; exact s2.keep p o ho fun z => z.elim n fun ⟨ps, z⟩ => nt ps z
    · obtain ⟨G2, s2, r, _⟩ := rv.freeze sr.gd.wi s hf
      exact hk _ _ _ _ _ h s2 (sr.step s2 sr1.tl) (xo.step s2) fun vs as G3 H3 s3 ra => .cons (fun _ => r.mono s3.gext) (fun z => absurd z hf) ra
theorem kv_go {ks : List (Option Expr)} {vs : List Expr} {e : E} (h : KVs X c ks vs e) : ∃ trs, (∀ pos, PPs X pos ks vs trs) ∧ ∀ (σ : L2.St) (H G : Hp) (ρ : Rho) (t : Nat) (k : Argk) (P : List (V × V) → Hp → Prop), SR c.W c.H0 G H σ ρ t → XOk c.W G H σ c.x c.wx → evs c.g c.Φ c.x e ρ t k →
    (∀ t' as ps H' G', k t' as → Step c.W G H G' H' → TL c.W H' t' → RAs c.W G' H' (flatV ps) as → P ps H') → tPairs trs σ H P := by
  induction h with
  | nil => exact ⟨[], fun pos => pps_nil, fun σ H G ρ t k P sr xo h hk => hk t [] [] H G (by simpa only [evs] using h) sr.gd.step sr.tl .nil⟩
  | @cons ke ve ks vs a b r hk hv _ ih =>
    obtain ⟨trs, h1, h2⟩ := ih
    refine ⟨(tD c a, tD c b) :: trs, fun pos => pps_cons hk hv (h1 pos), fun σ H G ρ t k P sr xo h hP => ?_⟩
    simp only [evs] at h
    refine goRA ok sr xo h fun f1 d1 v1 H1 G1 h s1 sr1 xo1 r1 => ?_
    refine goRA ok sr1 xo1 h fun f2 d2 v2 H2 G2 h s2 sr2 xo2 r2 => ?_
    refine h2 σ H2 G2 ρ _ _ _ sr2 xo2 h fun t3 as ps H3 G3 hk3 s3 tl3 ra => ?_
    exact hP _ _ ((v1, v2) :: ps) H3 G3 hk3 ((s1.trans s2).trans s3) tl3 (r1 _ _ _ _ (s2.trans s3) (r2 _ _ _ _ s3 ra))
omit ok in
theorem pair_rk {W : Wd} {G : Hp} : ∀ {ps : List (V × V)} {ds : List D} {dps : List (D × D)}, RL W G (flatV ps) ds → pairUp ds = some dps → dps.all (fun p => p.1.isKey) = true → ∃ kvs : List (L2.Key × V), ps = kvs.map (fun kv => (kV kv.1, kv.2)) ∧ RK W G kvs dps
  | [], _, dps, .nil, e, _ => by
    simp only [pairUp, Option.some.injEq] at e; subst e
    exact ⟨[], rfl, .nil⟩
  | (a, b) :: r, _, dps, .cons (d := d1) h1 (.cons (d := d2) h2 t), e, hk => by
    simp only [pairUp, Option.map_eq_some_iff] at e
    obtain ⟨dps', e, rfl⟩ := e
    rw [List.all_cons, Bool.and_eq_true] at hk
    obtain ⟨kvs, e1, e2⟩ := pair_rk t e hk.2
    obtain ⟨k, rfl, q⟩ := isKey_kV h1 hk.1
    exact ⟨(k, b) :: kvs, by simp [e1], .cons q h2 e2⟩
omit ok in
theorem merge_rk {W : Wd} {G : Hp} : ∀ {kvs : List (L2.Key × V)} {dps : List (D × D)} {acc : List (L2.Key × V)} {dacc : List (D × D)}, RK W G kvs dps → RK W G acc dacc → RK W G (mergeK acc kvs) (dps.foldl (fun acc p => putK acc p.1 p.2) dacc)
  | [], _, acc, dacc, .nil, h => h
  | _ :: kvs, _ :: dps, acc, dacc, .cons h1 h2 t, h => by
    have q := merge_rk (kvs := kvs) (dps := dps) t (RK.put h1 h2 h)
    exact q
theorem d_disp {ks : List (Option Expr)} {vs : List Expr} {e : E} {pos : Pos} (h : KVs X c ks vs e) (hl : ks.length ≤ 15) (h0 : ks ≠ []) : PE X (.Dict ks vs pos) (tD c (.dct e)) := by
  obtain ⟨trs, h1, h2⟩ := kv_go ok h
  have hall : ks.all (·.isSome) = true ∧ ks.length = vs.length := by
    clear h1 h2 h0 hl
    induction h with
    | nil => exact ⟨rfl, rfl⟩
    | cons _ _ _ ih => exact ⟨by simpa using ih.1, by simp [ih.2]⟩
  refine (pe_disp (h1 pos) hall.1 hall.2 h0 hl).imp fun σ H Q ⟨G, ρ, t, sr, xo, h⟩ => ?_
  simp only [ev] at h
  intro p hp
  have s0 : Step c.W G H G (upd H p (.dK [])) := sr.gd.newOwn hp
  refine h2 σ _ G ρ t _ _ (sr.step s0 (Pu.new sr.gd.wi hp _ sr.tl)) (xo.step s0) h fun t2 as ps H2 G2 ⟨nb, dps, e1, e2, e3, q⟩ s2 tl2 ra => ?_
  have hns := sr.gd.wi.notSt hp
  have hH2 : H2 p = some (.dK []) := s2.keep p _ upd_same fun z => z.elim hns fun ⟨ps, z⟩ => by cases z
  have hG2 : G2 p = none := by rw [s2.gnew p (by rw [upd_same]; simp)]; exact sr.gd.none hp
  obtain ⟨kvs, rfl, rk⟩ := pair_rk (ra.noB nb) e1 e2
  refine ⟨hH2, kvs, rfl, ?_, ?_⟩
  · have := rk.length; omega
  · refine q _ _ _ ((s0.trans s2).put sr.gd.wi hp hG2) (Pu.off hns _ tl2) ⟨p, rfl, hp, hG2, .inl ⟨_, upd_same, merge_rk rk .nil⟩⟩
end
end Lk
set_option autoImplicit false
set_option linter.all false
set_option maxRecDepth 10000
namespace Lk
open PySem PySem.Spec PyProof.Rows L2
section
variable {X : Cx}
/-- ints != [] -/
theorem op_neI : OpR X (compareOp .NotEq) (fun x y H Q => ∃ (a b : Addr) (ns : List Int), x = .ref a ∧ y = .ref b ∧ H a = some (.lst (ns.map V.int)) ∧ H b = some (.lst []) ∧ X.A.units + 200 < cLine ∧ Q (.bl !ns.isEmpty) H) := by
  intro pins s σ H x y v u Q I rx ry ⟨a, b, ns, e1, e2, ha, hb, hu, h⟩
  subst e1
  subst e2
  let W : Wd := ⟨X.prog, X.w, X.K, X.mg, none, [], []⟩
  have rl : ∀ ns : List Int, RL W H (ns.map V.int) (ns.map D.int) := fun ns => by
    induction ns with
    | nil => exact .nil
    | cons n r ih => exact .cons (.int n) ih
  have r1 : R W H (.ref a) (.lst (ns.map D.int)) := .lst ha (rl ns)
  have r2 : R W H (.ref b) (.lst []) := .lst hb .nil
  have pl : ∀ ns : List Int, isPyL (ns.map D.int) = true ∧ PyData.plainAll (pyL (ns.map D.int)) = true := fun ns => by
    induction ns with
    | nil => exact ⟨rfl, rfl⟩
    | cons n r ih => exact ⟨by simp [isPyL, D.isPy, ih.1], by simp [pyL, PyData.plainAll, D.py, PyData.plain, ih.2]⟩
  have p1 : (D.lst (ns.map D.int)).pure = true := by simp [D.pure, D.isPy, D.py, PyData.plain, pl ns]
  have p2 : (D.lst []).pure = true := rfl
  obtain ⟨as, d1⟩ := r1.reads I rfl (Sub.refl _) p1 rx
  obtain ⟨bs, d2⟩ := r2.reads I rfl (Sub.refl _) p2 ry
  refine SeqAt.ne_plain d1 d2 (D.pure_plain p1) (D.pure_plain p2) (by simp [D.py, pyL, PyData.depth, PyData.depthAll]; omega) ⟨V.bl _, H, I, rfl, ?_⟩
  have : PyData.eqv (D.lst (ns.map D.int)).py (D.lst []).py = ns.isEmpty := by
    cases ns <;> simp [D.py, pyL, PyData.eqv, PyData.eqvAll]
  rw [this]
  exact h
end
/-! ### stores to the state -/
section
variable {W : Wd} {H0 G0 G H : Hp} {σ : L2.St} {ρ : Rho} {p : Addr} {o : HO}
/-- one of the state's own things turns -/
theorem Step.loose (st : Step W G0 H0 G H) (hp : stA W p) (w : WI W (upd H p o)) (hn : H p ≠ none) : Step W G0 H0 G (upd H p o) where
  keep := fun b u e n => by
    have hb : b ≠ p := fun z => n (.inl (z ▸ hp))
    rw [upd_ne hb]; exact st.keep b u e n
  live := fun b e => by
    by_cases hb : b = p
    · rw [hb, upd_same]; simp
    · rw [upd_ne hb]; exact st.live b e
  gext := st.gext
  gsub := fun b u e => by
    have hb : b ≠ p := fun z => st.gno b u e (.inl (z ▸ hp))
    rw [upd_ne hb]; exact st.gsub b u e
  gnew := st.gnew
  gno := st.gno
  wi := w
theorem SR.loose {t t' : Nat} (sr : SR W H0 G H σ ρ t) (hp : stA W p) (g : Gd W G (upd H p o)) (tl : TL W (upd H p o) t') : SR W H0 G (upd H p o) σ ρ t' where
  gd := g
  tl := tl
  len := sr.len
  val := sr.val
  own := fun i d e => by
    obtain ⟨q, h1, h2, h3, h4, h5⟩ := sr.own i d e
    exact ⟨q, h1, h2, h3, h4, h5.put fun z => h3 (z ▸ hp)⟩
  dis := sr.dis
theorem WI.put {a gr c : Addr} (w : WI W H) (hst : W.st = some (a, gr, c)) {l t : Int} (hl : 0 ≤ l) (ht : 0 ≤ t) (hd : ∃ l' t', H a = some (.dK (stK gr c l' t'))) : WI W (upd H a (.dK (stK gr c l t))) := fun a' gr' c' e => by
  rw [hst] at e
  cases e
  obtain ⟨gs, cs, l0, t0, k1, k2, k3, k4, k5, k6, k7⟩ := stK_eq (w a gr c hst)
  have n1 : gr ≠ a := fun z => by rw [z, k1] at k2; cases k2
  have n2 : c ≠ a := fun z => by rw [z, k1] at k3; cases k3
  exact ⟨⟨gs, cs, l, t, upd_same, by rw [upd_ne n1]; exact k2, by rw [upd_ne n2]; exact k3, hl, ht, k6, k7⟩, (w a gr c hst).ne⟩
theorem WI.pop {a gr c : Addr} {g : Int} {gs : List Int} (w : WI W H) (hst : W.st = some (a, gr, c)) (hg : H gr = some (.lst ((g :: gs).map V.int))) : WI W (upd H gr (.lst (gs.map V.int))) := fun a' gr' c' e => by
  rw [hst] at e
  cases e
  obtain ⟨gs', cs, l0, t0, k1, k2, k3, k4, k5, k6, k7⟩ := stK_eq (w a gr c hst)
  have ne := (w a gr c hst).ne
  have n1 : a ≠ gr := fun z => by rw [z, hg] at k1; cases k1
  refine ⟨⟨gs, cs, l0, t0, by rw [upd_ne n1]; exact k1, upd_same, by rw [upd_ne (Ne.symm ne)]; exact k3, k4, k5, fun x hx => ?_, k7⟩, ne⟩
  have hinj : ∀ {l l' : List Int}, l.map V.int = l'.map V.int → l = l' := fun {l l'} => by
    induction l generalizing l' with
    | nil => intro h; cases l' with | nil => rfl | cons _ _ => simp at h
    | cons x r ih =>
      intro h
      cases l' with
      | nil => simp at h
      | cons y r' =>
        simp only [List.map_cons, List.cons.injEq, V.int.injEq] at h
        rw [h.1, ih h.2]
  rw [hg] at k2
  have q := hinj (HO.lst.inj (Option.some.inj k2))
  exact k6 x (by rw [← q]; exact List.mem_cons_of_mem _ hx)
end
section
variable {X : Cx} {c : Ct} (ok : SOk X c) {σ : L2.St} {H G : Hp} {ρ : Rho} {tb : Nat}
include ok
/-- the state's slot -/
theorem stt_slot {i : Nat} {k : D → Prop} (sr : SR c.W c.H0 G H σ ρ tb) (h : getV ρ i fun _ s => isStt s = true ∧ k s) : ∃ a gr cc, σ[i]? = some (some (.ref a)) ∧ c.W.st = some (a, gr, cc) ∧ k .stt := by
  unfold getV at h
  split at h
  · rename_i d e
    obtain ⟨v, h1, h2⟩ := sr.val _ _ e
    cases d <;> first | (cases h.1; done) | skip
    cases h2 with
    | @stt a gr cc cs hst _ _ => exact ⟨a, gr, cc, h1, hst, h.2⟩
  · rename_i d e
    obtain ⟨p, h1, h2, h3, h4, h5⟩ := sr.own _ _ e
    cases d <;> first | (cases h.1; done) | exact h5.elim
  · exact h.elim
/-- a number is stored -/
theorem sts_put {key : Str} {a gr cc : Addr} {n : Int} (hk : key = "left" ∨ key = "turn") (hst : c.W.st = some (a, gr, cc)) (hn : 0 ≤ n) (st : Step c.W c.G0 c.H0 G H) (sr : SR c.W c.H0 G H σ ρ tb) :
    ∃ H', DPut H a (.str key) (.int n) H' ∧ Step c.W c.G0 c.H0 G H' ∧ SR c.W c.H0 G H' σ ρ (if key = "turn" then n.toNat else tb) := by
  obtain ⟨gs, cs, l, t, k1, k2, k3, k4, k5, k6, k7⟩ := stK_eq (sr.gd.wi a gr cc hst)
  have ha : stA c.W a := ⟨a, gr, cc, hst, .inl rfl⟩
  have ht : t ≤ tb := by
    obtain ⟨l', n', e, hn'⟩ := sr.tl a gr cc hst
    rw [k1] at e
    have e := HO.dK.inj (Option.some.inj e)
    simp only [stK, List.cons.injEq, Prod.mk.injEq, V.int.injEq, true_and, and_true] at e
    omega
  have fin : ∀ (l' t' : Int) (tb' : Nat), 0 ≤ l' → 0 ≤ t' → t' ≤ (tb' : Int) → L2.putK (stK gr cc l t) (.inr key) (.int n) = stK gr cc l' t' → ∃ H', DPut H a (.str key) (.int n) H' ∧ Step c.W c.G0 c.H0 G H' ∧ SR c.W c.H0 G H' σ ρ tb' := fun l' t' tb' hl ht hb e => by
    have dp := DPut.k (k := .inr key) (v := .int n) k1 (by show 4 < sizeLine; decide)
    rw [e] at dp
    have w := sr.gd.wi.put hst (l := l') (t := t') hl ht ⟨_, _, k1⟩
    have st' := st.loose ha w (by rw [k1]; simp)
    refine ⟨_, dp, st', sr.loose ha st'.gd fun a' gr' cc' e' => ?_⟩
    rw [hst] at e'
    cases e'
    exact ⟨l', t', upd_same, hb⟩
  rcases hk with e | e
  · subst e
    rw [if_neg (by decide)]
    exact fin n t tb hn k5 ht pk_left
  · subst e
    rw [if_pos rfl]
    exact fin l n n.toNat k4 hn (by omega) pk_turn
def numD (d : D) (p : Int → Prop) : Prop := match d with | .int n => 0 ≤ n ∧ p n | _ => False
theorem s_sts {i : Nat} {x key : Str} {e : Expr} {ea : E} {j : Nat} {p1 p2 p3 pos : Pos} (hN : X.N[i]? = some x) (hv : Vis X.env.scope x) (hd : (x == ("__debug__" : Str)) = false) (hcd : (x == ("__classdict__" : Str)) = false) (he : PE X e (tD c ea))
    (hs : swapsWith e (some (.Subscript (.Name x p1) (.Constant (.str key) j p2) p3)) pos.line X.env = pure false) :
    PS X (.Assign [.Subscript (.Name x p1) (.Constant (.str key) j p2) p3] e pos) (tS c (.sts i key ea)) :=
  (ps_dput (by have := ok.hu; omega) (pe_var hN hv hd hcd) pe_str he hs).imp fun D σ H ⟨G, ρ, t, st, sr, h⟩ => by
    simp only [exs] at h
    refine goSF ok st sr h fun {t1} d v H1 G1 ⟨hk, h⟩ s1 st1 r sr1 => ?_
    have h' : getV ρ i fun _ s => isStt s = true ∧ numD d (fun n => (enS c G D).nx (if key = "turn" then n.toNat else t1) ρ) := getV_mono (fun _ s h => by
      unfold stsD at h
      split at h
      · exact ⟨rfl, h⟩
      · exact h.elim) h
    obtain ⟨a, gr, cc, e2, hst, k⟩ := stt_slot ok (k := fun _ => numD d (fun n => (enS c G D).nx (if key = "turn" then n.toNat else t1) ρ)) sr1 h'
    refine ⟨_, e2, ?_⟩
    unfold numD at k
    split at k
    · obtain rfl := r.intE
      obtain ⟨H', dp, st2, sr2⟩ := sts_put ok hk hst k.1 st1 sr1
      exact ⟨a, H', rfl, dp, k.2 σ G1 H' s1.gext st2 sr2⟩
    · exact k.elim
theorem s_stp {i : Nat} {x : Str} {b : Expr} {eb : E} {j1 j2 j3 j4 : Nat} {p1 p2 p3 p4 p5 p6 p7 p8 p9 p10 p11 p12 p13 apos cpos pos : Pos} (hN : X.N[i]? = some x) (hv : Vis X.env.scope x) (hd : (x == ("__debug__" : Str)) = false) (hcd : (x == ("__classdict__" : Str)) = false) (hb : PE X b (tD c eb)) (hl : (apos.endLine == cpos.line) = true) :
    PS X (.Assign [.Subscript (.Name x p1) (.Constant (.str "left") j1 p2) p3] (.IfExp (.Compare (.Subscript (.Name x p4) (.Constant (.str "great") j2 p5) p6) [.NotEq] [.List [] p7] p8) (.Call (.Attribute (.Subscript (.Name x p9) (.Constant (.str "great") j3 p10) p11) "pop" apos) [.Constant (.int 0) j4 p12] [] cpos) b p13) pos) (tS c (.stp i eb)) := by
  have hu1 : X.A.units + 1 < cLine := by have := ok.hu; omega
  have pv : ∀ p, PE X (.Name x p) (tVar i) := fun p => pe_var hN hv hd hcd
  refine (ps_dput hu1 (pv _) pe_str (pe_ifExp (pt_cmpR op_neI (pe_dget hu1 (pv _) pe_str (fun _ _ => rfl)) (pe_lst pa_nil) rfl)
    (pe_bm F.plainAttrs_list F.slot_list_pop F.type_list_pop mt_popAt (pe_dget hu1 (pv _) pe_str (fun _ _ => rfl)) (pa_cons pe_int pa_nil) rfl rfl hl rfl rfl) hb) rfl).imp fun D σ H ⟨G, ρ, t, st, sr, h⟩ => ?_
  simp only [exs] at h
  obtain ⟨a, gr, cc, e2, hst, h1, h2⟩ := stt_slot ok (k := fun _ => (enS c G D).nx t ρ ∧ ev c.g c.Φ c.x eb ρ t fun t1 f d => f ≠ .b ∧ stsD "left" .stt d t1 fun t2 => (enS c G D).nx t2 ρ) sr h
  obtain ⟨gs, cs, l, tt, k1, k2, k3, k4, k5, k6, k7⟩ := stK_eq (sr.gd.wi a gr cc hst)
  have ha : stA c.W gr := ⟨a, gr, cc, hst, .inr rfl⟩
  have dg := DGet.k (k := .inr ("great" : Str)) k1
  rw [vk_great] at dg
  refine ⟨_, e2, a, _, rfl, dg, ?_⟩
  refine ⟨Nat.zero_le _, fun p hp => ?_⟩
  have npg : p ≠ gr := fun z => by rw [z, k2] at hp; cases hp
  have npa : p ≠ a := fun z => by rw [z, k1] at hp; cases hp
  have nag : a ≠ gr := fun z => by rw [z, k2] at k1; cases k1
  refine ⟨gr, p, gs, rfl, rfl, by rw [upd_ne (Ne.symm npg)]; exact k2, upd_same, ok.hu, _, rfl, ?_⟩
  have s1 : Step c.W G H G (upd H p (.lst [])) := sr.gd.newOwn hp
  have st1 := st.trans s1
  have sr1 := sr.step s1 ((Pu.new sr.gd.wi hp) _ sr.tl)
  cases gs with
  | nil =>
    simp only [List.isEmpty_nil, Bool.not_true, Bool.false_eq_true, if_false]
    refine goSF ok st1 sr1 h2 fun d v H1 G1 k s2 st2 r sr2 => ?_
    refine ⟨_, e2, ?_⟩
    unfold stsD at k
    split at k
    · obtain rfl := r.intE
      obtain ⟨H', dp, st3, sr3⟩ := sts_put ok (.inl rfl) hst k.1 st2 sr2
      exact ⟨a, H', rfl, dp, k.2 σ G1 H' s2.gext st3 sr3⟩
    · exact k.elim
  | cons g gs =>
    simp only [List.isEmpty_cons, Bool.not_false, if_true]
    have k1' : upd H p (.lst []) a = some (.dK (stK gr cc l tt)) := by rw [upd_ne (Ne.symm npa)]; exact k1
    have k2' : upd H p (.lst []) gr = some (.lst ((g :: gs).map V.int)) := by rw [upd_ne (Ne.symm npg)]; exact k2
    have dg' := DGet.k (k := .inr ("great" : Str)) k1'
    rw [vk_great] at dg'
    refine ⟨_, e2, a, _, rfl, dg', .inl ⟨rfl, _, SqL.of k2'⟩, ?_⟩
    refine ⟨gr, _, 0, 0, .int g, rfl, rfl, k2', by decide, by decide, ?_, rfl, _, e2, ?_⟩
    · simp [seqIndex?]
    · have w := sr1.gd.wi.pop hst k2'
      have st2 := st1.loose ha w (by rw [k2']; simp)
      have tl2 : TL c.W (upd (upd H p (.lst [])) gr (.lst (gs.map V.int))) t := fun a' gr' c' e => by
        rw [hst] at e
        cases e
        obtain ⟨l', n', e, hn'⟩ := sr1.tl a gr cc hst
        exact ⟨l', n', by rw [upd_ne nag]; exact e, hn'⟩
      have sr2 := sr1.loose ha st2.gd tl2
      obtain ⟨H', dp, st3, sr3⟩ := sts_put ok (.inl rfl) hst (k6 g List.mem_cons_self) st2 sr2
      exact ⟨a, H', rfl, dp, h1 σ G H' (Sub.refl _) st3 sr3⟩
end
end Lk
set_option autoImplicit false
set_option linter.all false
namespace Lk
open PySem PySem.Spec PyProof.Rows L2
/-! ### promises -/
def XE1 (W : Wd) (G H : Hp) (x : XP) (E : XK) : Prop := ∀ t cn fs, x t (.exc cn fs) → ∀ cls dd H' G', Step W G H G' H' → TL W H' t → RE W G' H' cls dd cn fs → E cls dd H'
def spN (W : Wd) (P : Pg) (n : Nat) (f : Str) : Sp := fun vs H Q E => ∃ G ds t x, Gd W G H ∧ RL W G vs ds ∧ TL W H t ∧ callN P n (.fn f) ds [] t (KQt W G H Q) x ∧ XE1 W G H x E
def spI (W : Wd) (P : Pg) (n : Nat) (f : Str) : Sp := fun vs H2 Q E => ∃ G H ds t x p dx C vs', vs = .ref p :: vs' ∧ H2 = upd (upd H dx (.own p)) p (.ins C dx []) ∧ H p = none ∧ H dx = none ∧ dx ≠ p ∧ W.mg f = some (.ref C) ∧ Gd W G H ∧ RL W G vs' ds ∧ TL W H t ∧
  callN P n (.fn f) ds [] t (fun t' fl d => ∀ H' G', Step W G H G' H' → TL W H' t' → RV W fl H G' H' (.ref p) d → Q .non H') x ∧ XE1 W G H x E
/-- a def keeps its promise where no repr is under way -/
structure FnG (P : Program) (w : World) (K : PySem.W.Frag) (mg : Str → Option Value) (base : Heap) (k : Nat) (f : Addr) (fd : FuncData) (ps : List Str) (sp : Sp) : Prop where
  len : ∀ vs H Q E, sp vs H Q E → vs.length = ps.length
  run : ∀ (A : Around) (outer : List Env) (s : Shared) (H : Hp) (args : Args) (us : List Value) (vs : List V) (Q : VK) (E : XK), A.guards = some [] → Room k A → Env0 P w K mg base A outer s H → BindsTo s fd args (ps.zip us) → Vals vs us → sp vs H Q E → codeAny (model P w) A (.call (.ref f) args) (CR (L2.CX P w) outer P w H s Q E) s
theorem fnG_of {P : Program} {w : World} {K : PySem.W.Frag} {mg : Str → Option Value} {base : Heap} {k : Nat} {f : Addr} {name qual : Str} {params : Arguments} {body : List Stmt} {scope : Scope} {dV kV doc pm cdv ct oc : Value} {an od : Option Addr} {osl : Array (Option Value)} {N ps : List Str} {sp : Sp}
    (lk : K.lookup f = some ⟨oc, od, .func (PySem.W.fnOf name qual params body scope dV kV doc pm an cdv ct), osl⟩) (hcd : PySem.W.codeIn K cdv qual = true) (S : FnScope N ps scope) (len : ∀ vs H Q E, sp vs H Q E → vs.length = ps.length)
    (hb : ∀ (A : Around) (outer : List Env) (s : Shared) (H : Hp) (vs : List V) (Q : VK) (E : XK), A.guards = some [] → Room k (A.deeper (envOfC qual scope s.heap.objs.size f cdv)) → sp vs H Q E →
      ∃ t, PSs (cxOf (L2.CX P w) P w K mg base N qual scope f cdv A outer s H E) body t ∧ t { nx := fun _ H' => Q .non H', rt := Q } (L2.start N vs) H) :
    FnG P w K mg base (k + 1) f (PySem.W.fnOf name qual params body scope dV kV doc pm an cdv ct) ps sp where
  len := len
  run := fun A outer s H args us vs Q E hg hr e0 hbd r hsp => LamX.run_ofS lk hcd S hr e0 hbd r (len _ _ _ _ hsp) fun hr' => hb A outer s H vs Q E hg hr' hsp
structure GOk (W : Wd) (base : Heap) (P : Pg) (n : Nat) : Prop where
  fn : ∀ f ps, P.sig f = some ps → ∃ F fdat, W.mg f = some (.ref F) ∧ PySem.W.keepIn W.K (.ref F) = true ∧ Binds W.K fdat ps [] ∧
    (∀ ks, (f, ks) ∈ P.kws → ks ≠ [] ∧ ∀ (s : Shared) (ws bs : List Value), bindA ps ws ks = some bs → BindsTo s fdat ⟨[], ks.zip ws⟩ (ps.zip bs)) ∧ FnG W.P W.w W.K W.mg base (n + 1) F fdat ps (spN W P n f)
  cl : ∀ f fd, P.fns f = some fd → fd.isI = true → ∃ C F fdat, W.mg f = some (.ref C) ∧ Mk W.K C F ∧ Binds W.K fdat ("self" :: fd.ps) [] ∧ FnG W.P W.w W.K W.mg base n F fdat ("self" :: fd.ps) (spI W P n f)
/-! ### the binding of keywords -/
theorem lookup_zip {α β : Type} {F : α → β → Prop} {p : Str} : ∀ {ks : List Str} {as : List α} {bs : List β} {a : α}, Paired F as bs → (ks.zip as).lookup p = some a → ∃ b, (ks.zip bs).lookup p = some b ∧ F a b
  | [], _, _, _, _, e => by simp at e
  | _ :: _, _, _, _, .nil, e => by simp at e
  | k :: ks, _, _, a, .cons h t, e => by
    simp only [List.zip_cons_cons, List.lookup_cons] at e ⊢
    cases q : p == k with
    | true => rw [q] at e; simp only [Option.some.injEq] at e ⊢; subst e; exact ⟨_, rfl, h⟩
    | false => rw [q] at e; simp only at e ⊢; exact lookup_zip t e
theorem mapM_rel {α β : Type} {F : α → β → Prop} {f : Str → Option α} {g : Str → Option β} (h : ∀ p a, f p = some a → ∃ b, g p = some b ∧ F a b) : ∀ {ps : List Str} {as : List α}, ps.mapM f = some as → ∃ bs, ps.mapM g = some bs ∧ Paired F as bs
  | [], as, e => by simp at e; subst e; exact ⟨[], by simp, .nil⟩
  | p :: ps, as, e => by
    rw [List.mapM_cons] at e
    simp only [Option.bind_eq_bind, Option.bind_eq_some_iff, Option.pure_def, Option.some.injEq] at e
    obtain ⟨a, ha, as', has, rfl⟩ := e
    obtain ⟨b, hb, r⟩ := h p a ha
    obtain ⟨bs, hbs, rs⟩ := mapM_rel h has
    exact ⟨b :: bs, by rw [List.mapM_cons, hb, hbs]; rfl, .cons r rs⟩
theorem Paired.len {α β : Type} {F : α → β → Prop} : ∀ {as : List α} {bs : List β}, Paired F as bs → as.length = bs.length
  | _, _, .nil => rfl
  | _, _, .cons _ t => by rw [List.length_cons, List.length_cons, Paired.len t]
theorem bindA_rel {α β : Type} {F : α → β → Prop} {ps ks : List Str} {as as' : List α} {bs : List β} (r : Paired F as bs) (h : bindA ps as ks = some as') : ∃ bs', bindA ps bs ks = some bs' ∧ Paired F as' bs' := by
  unfold bindA at h ⊢
  rw [← Paired.len r]
  split
  · rename_i e
    rw [if_pos e] at h
    split at h
    · rename_i e2
      rw [if_pos e2]
      cases h
      exact ⟨bs, rfl, r⟩
    · cases h
  · rename_i e
    rw [if_neg e] at h
    split at h
    · rename_i e2
      rw [if_pos e2]
      exact mapM_rel (fun p a ha => lookup_zip r ha) h
    · cases h
theorem mapM_len {α : Type} {f : Str → Option α} : ∀ {ps : List Str} {as : List α}, ps.mapM f = some as → as.length = ps.length
  | [], as, e => by simp at e; subst e; rfl
  | p :: ps, as, e => by
    rw [List.mapM_cons] at e
    simp only [Option.bind_eq_bind, Option.bind_eq_some_iff, Option.pure_def, Option.some.injEq] at e
    obtain ⟨a, ha, as', has, rfl⟩ := e
    rw [List.length_cons, List.length_cons, mapM_len has]
theorem bindA_len {α : Type} {ps ks : List Str} {as as' : List α} (h : bindA ps as ks = some as') : as'.length = ps.length := by
  unfold bindA at h
  split at h
  · split at h
    · cases h; assumption
    · cases h
  · split at h
    · exact mapM_len h
    · cases h
theorem bindA_pos {α : Type} {ps ks : List Str} {as as' : List α} (h : bindA ps as ks = some as') : bindA ps as' [] = some as' := by
  unfold bindA
  rw [if_pos rfl, if_pos (bindA_len h)]
theorem RL.paired {W : Wd} {G : Hp} : ∀ {vs ds}, RL W G vs ds → Paired (fun d v => R W G v d) ds vs
  | _, _, .nil => .nil
  | _, _, .cons h t => .cons h (RL.paired t)
theorem RL.ofPaired {W : Wd} {G : Hp} : ∀ {vs ds}, Paired (fun d v => R W G v d) ds vs → RL W G vs ds
  | _, _, .nil => .nil
  | _, _, .cons h t => .cons h (RL.ofPaired t)
/-! ### calls -/
section
variable {X : Cx} {k : Nat} {f C : Addr} {fd : FuncData} {ps ks : List Str} {sp : Sp} {dvs : List V} {ds : List Value} {E : L2.St → XK} {x : Str} {p pos : Pos} {e : Expr} {es : List Expr} {kws : List Keyword} {t tk : TA}
def tCallKD (sp : Sp) (ps ks : List Str) (E : L2.St → XK) (tk : TA) : TE := fun σ H Q => tk σ H fun zs H1 => ∃ bs, bindA ps zs ks = some bs ∧ sp bs H1 Q (E σ)
theorem pe_callKD (F : FnG X.prog X.w X.K X.mg X.base k f fd ps sp) (gg : X.A.guards = some []) (hr : Room k X.A) (hg : Gl X x) (hm : X.mg x = some (.ref f)) (hk : PySem.W.keepIn X.K (.ref f) = true) (hx : ∀ σ, PassesAt (L2.CX X.prog X.w) X σ (E σ)) (hkw : PK X kws tk)
    (hb : ∀ (s : Shared) (ws bs : List Value), bindA ps ws ks = some bs → BindsTo s fd ⟨[], ks.zip ws⟩ (ps.zip bs))
    (hall : (backToKw pos (keywordEach kws X.env)).all (·.1.isSome) = true) (hks : (backToKw pos (keywordEach kws X.env)).filterMap (·.1) = ks) (hdb : (x == ("__debug__" : Str)) = false)
    (hpl : ((backTo pos (starEach [] X.env)).any (·.1) || (backToKw pos (keywordEach kws X.env)).any (·.1.isNone)) = false) :
    PE X (.Call (.Name x p) [] kws pos) (tCallKD sp ps ks E tk) := by
  refine ⟨fun pins s σ H Q I h => ?_⟩
  refine wpAny_Call_Name_kw (ld_glob I hg hm ?_ hdb)
  refine PySem.W.callWith_KW0 (h₀ := X.base) I.ok.mod.kin hk hall ?_ hpl
  refine thn (hkw.run pos pins s σ H _ I h) fun ws s2 ⟨zs, H2, I2, rz, bs, eb, q2⟩ => ⟨I2.kIn, ?_⟩
  rw [hks]
  obtain ⟨us, eu, ru⟩ := bindA_rel rz eb
  refine wpAny_call (codeAny_mono (F.run X.A X.stack s2 H2 ⟨[], ks.zip ws⟩ us bs Q (E σ) gg hr I2.env0 (hb s2 ws us eu) ru q2) fun r s' hq => ?_)
  cases r with
  | error e => exact hx σ pins H2 s2 e s' I2 hq
  | ok fl =>
    cases fl with
    | ret u => exact I2.after hq
    | next => exact False.elim hq
    | brk => exact False.elim hq
    | cont => exact False.elim hq
theorem make_guards {A : Around} {C : Addr} {us : List Value} {kw : List (Str × Value)} : (A.under (.builtin "type.__call__" ⟨.ref C :: us, kw⟩)).guards = A.guards := by
  first | rfl | simp [Around.under, Code.weight, Code.isCreation, Code.isGuard, Code.isCaller, Code.frames, Code.isFrame, guardIds]
/-- a plain call of what is at f -/
theorem run_callG {pins : List (Addr × Obj)} {σ : L2.St} {H : Hp} {s : Shared} {Q : VK} {us : List Value} {vs : List V} (F : FnG X.prog X.w X.K X.mg X.base k f fd ps sp) (gg : X.A.guards = some []) (hr : Room k X.A) (hb : Binds X.K fd ps []) (hx : PassesAt (L2.CX X.prog X.w) X σ (E σ)) (I : Inv X pins σ H s) (rv : Vals vs us) (q : sp vs H Q (E σ)) :
    wpAny (model X.prog X.w) X.A (call (.ref f) us) (EP X pins σ Q) X.xe s := by
  have el : us.length = ps.length := rv.length.symm.trans (F.len _ _ _ _ q)
  have bd := hb s us I.kIn (by rw [List.append_nil]; exact el)
  rw [List.append_nil] at bd
  refine wpAny_call (codeAny_mono (F.run X.A X.stack s H ⟨us, []⟩ us vs Q (E σ) gg hr I.env0 bd rv q) fun r s' hq => ?_)
  match r, hq with
  | .error e, hq => exact hx pins H s e s' I hq
  | .ok (.ret u), hq => exact I.after hq
  | .ok .next, hq => exact hq.elim
  | .ok .brk, hq => exact hq.elim
  | .ok .cont, hq => exact hq.elim
def tCallG (sp : Sp) (E : L2.St → XK) (t : TA) : TE := fun σ H Q => t σ H fun vs H1 => sp vs H1 Q (E σ)
theorem pe_callG (F : FnG X.prog X.w X.K X.mg X.base k f fd ps sp) (gg : X.A.guards = some []) (hr : Room k X.A) (hg : Gl X x) (hm : X.mg x = some (.ref f)) (hk : PySem.W.keepIn X.K (.ref f) = true) (hb : Binds X.K fd ps []) (hx : ∀ σ, PassesAt (L2.CX X.prog X.w) X σ (E σ)) (ha : PA X (e :: es) t)
    (hdb : (x == ("__debug__" : Str)) = false) (he : starEach (e :: es) X.env = (false, eval e X.env) :: starEach es X.env) (hpl : (backTo pos (starEach es X.env)).any (·.1) = false) : PE X (.Call (.Name x p) (e :: es) [] pos) (tCallG sp E t) :=
  ⟨fun pins s σ H Q I q => wpAny_Call_Name_kw (ld_glob I hg hm (PySem.W.callWith_K (h₀ := X.base) I.ok.mod.kin hk (thn (ha.run pos pins s σ H _ I q) fun us s1 ⟨vs, H1, I1, r, q1⟩ => ⟨I1.kIn, run_callG F gg hr hb (hx σ) I1 r q1⟩) he hpl) hdb)⟩
def tMakeSD (C : Addr) (sp : Sp) (E : L2.St → XK) (t : TA) : TE := fun σ H Q => t σ H fun vs H1 => ∀ x dx, H1 x = none → H1 dx = none → dx ≠ x →
  sp (.ref x :: vs) (upd (upd H1 dx (.own x)) x (.ins C dx [])) (fun v H2 => v = .non ∧ Q (.ref x) H2) (E σ)
theorem pe_makeSD (M : Mk X.K C f) (F : FnG X.prog X.w X.K X.mg X.base k f fd ps sp) (gg : X.A.guards = some []) (hr : Room (k + 1) X.A) (hg : Gl X x) (hm : X.mg x = some (.ref C)) (hb : Binds X.K fd ps []) (hx : ∀ σ, PassesAt (L2.CX X.prog X.w) X σ (E σ))
    (ha : PA X (e :: es) t) (hdb : (x == ("__debug__" : Str)) = false) (he : starEach (e :: es) X.env = (false, eval e X.env) :: starEach es X.env) (hpl : (backTo pos (starEach es X.env)).any (·.1) = false) :
    PE X (.Call (.Name x p) (e :: es) [] pos) (tMakeSD C sp E t) := by
  refine ⟨fun pins s σ H Q I h => ?_⟩
  refine wpAny_Call_Name_kw (ld_glob I hg hm ?_ hdb)
  refine PySem.W.callWith_K (h₀ := X.base) I.ok.mod.kin M.kp (thn (ha.run pos pins s σ H _ I h) fun us s1 ⟨vs, H1, I1, r, q⟩ => ⟨I1.kIn, ?_⟩) he hpl
  have hq := q (s1.heap.objs.size + 1) s1.heap.objs.size (I1.hok.fresh (Nat.le_succ _)) (I1.hok.fresh (Nat.le_refl _)) (Nat.ne_of_lt (Nat.lt_succ_self _))
  have I2 := Inv.made (C := C) I1
  have r2 : Vals (V.ref (s1.heap.objs.size + 1) :: vs) (Value.ref (s1.heap.objs.size + 1) :: us) := .cons rfl r
  have hl : (Value.ref (s1.heap.objs.size + 1) :: us).length = ps.length := by
    have e := r2.length
    rw [F.len _ _ _ _ hq] at e
    exact e.symm
  have hb' := hb { s1 with heap := (s1.heap.push PySem.W.emptyDict).push (PySem.W.instObj C s1.heap.objs.size) } (Value.ref (s1.heap.objs.size + 1) :: us) I2.kIn (by rw [List.append_nil]; exact hl)
  rw [List.append_nil] at hb'
  refine wpAny_call (make_map (f := f) I1.kIn M.makes M.init (beq_iff_eq.mp M.fn) (codeAny_mono (F.run _ X.stack _ _ ⟨Value.ref (s1.heap.objs.size + 1) :: us, []⟩ (Value.ref (s1.heap.objs.size + 1) :: us) _ _ (E σ) (make_guards.trans gg) (hr.make C us [])
    (I2.env0.make C us []) hb' r2 hq) fun r s' hq' => ?_))
  cases r with
  | error e => exact hx σ pins _ _ e s' I2 hq'
  | ok fl =>
    cases fl with
    | ret u =>
      obtain ⟨v, H', I3, rv, ev, q3⟩ := I2.after hq'
      subst ev
      exact ⟨rv, ⟨V.ref (s1.heap.objs.size + 1), H', I3, rfl, q3⟩⟩
    | next => exact False.elim hq'
    | brk => exact False.elim hq'
    | cont => exact False.elim hq'
end
section
variable {X : Cx} {c : Ct} {P : Pg} {n : Nat}
theorem OwnC.notFlat {W : Wd} {G H : Hp} {p : Addr} {d : D} (h : OwnC W G H p d) (hf : d.flat = true) : False := by
  cases d <;> first | exact h.elim | (simp [D.flat] at hf)
/-- the promise asked for, from the reading -/
theorem sp_in {f : Str} {G H H' G' : Hp} {t : Nat} {Q : VK} {σ : L2.St} {as : List (Fl × D)} {bs : List D} {vs : List V} {Φ : Cal} (hΦ : Φ = callN P n) (s : Step c.W G H G' H') (tl : TL c.W H' t) (rb : RBL c.W G' H' vs bs) (nbr : noB as → RL c.W G' vs bs) (xo : XOk c.W G' H' σ c.x c.wx)
    (h : Φ (.fn f) bs [] t (fun t' fl d => ((∃ p ∈ as, p.1 = .b) → d.flat = true) ∧ KQt c.W G H Q t' fl d) c.x) : spN c.W P n f vs H' Q (WE c.wx σ) := by
  subst hΦ
  by_cases nb : noB as
  · exact ⟨G', bs, t, c.x, s.gd, nbr nb, tl, callN_mono P n _ _ _ _ _ _ _ (fun t' fl d h => h.2.step s) h, fun t' cn fs hx cls dd H2 G2 s2 tl2 re => xo t' cn fs hx cls dd H2 G2 s2 tl2 re⟩
  · have hb : ∃ p ∈ as, p.1 = .b := by
      apply Classical.byContradiction
      intro z
      exact nb fun p hp e => z ⟨p, hp, e⟩
    obtain ⟨Gx, l, rl⟩ := lend s.gd rb
    refine ⟨Gx, bs, t, c.x, l.gd, rl, tl, callN_mono P n _ _ _ _ _ _ _ (fun t' fl d h v H2 G2 s2 tl2 rv => ?_) h, fun t' cn fs hx cls dd H2 G2 s2 tl2 re => ?_⟩
    · have hf := h.1 hb
      obtain ⟨G3, s3, r3⟩ := l.back G2 H2 s2
      cases fl with
      | f => exact h.2 v H2 G3 (s.trans s3) tl2 (r3 v d hf rv)
      | n => obtain ⟨p, _, _, _, oc⟩ := rv; exact (oc.notFlat hf).elim
      | b => obtain ⟨p, _, _, _, oc⟩ := rv; exact (oc.notFlat hf).elim
    · obtain ⟨G3, s3, r3⟩ := l.back G2 H2 s2
      refine xo t' cn fs hx cls dd H2 G3 s3 tl2 ?_
      obtain ⟨C, h1, h2, h3⟩ := re
      refine ⟨C, h1, h2, ?_⟩
      rcases h3 with h3 | ⟨f, d, p, v, e1, e2, e3, e4, e5⟩
      · exact .inl h3
      · exact .inr ⟨f, d, p, v, e1, e2, e3, r3 v d e5 e4, e5⟩
theorem RBL.paired {W : Wd} {G H : Hp} : ∀ {vs ds}, RBL W G H vs ds → Paired (fun d v => RB W G H v d) ds vs
  | _, _, .nil => .nil
  | _, _, .cons h t => .cons h (RBL.paired t)
theorem RBL.ofPaired {W : Wd} {G H : Hp} : ∀ {vs ds}, Paired (fun d v => RB W G H v d) ds vs → RBL W G H vs ds
  | _, _, .nil => .nil
  | _, _, .cons h t => .cons h (RBL.ofPaired t)
theorem callN_bind {f : Str} {as : List D} {ks : List Str} {t : Nat} {k : Kt} {x : XP} {ps : List Str} (hs : P.sig f = some ps) (h : callN P n (.fn f) as ks t k x) : ∃ bs, bindA ps as ks = some bs ∧ callN P n (.fn f) bs [] t k x := by
  cases n with
  | zero => exact h.elim
  | succ n =>
    unfold Pg.sig at hs
    unfold callN at h
    simp only at h
    split at h
    · rename_i fd hf
      rw [hf] at hs
      simp only at hs
      split at hs
      · cases hs
      · cases hs
        split at h
        · rename_i bs hb
          refine ⟨bs, hb, ?_⟩
          unfold callN
          simp only
          rw [hf]
          simp only
          rw [bindA_pos hb]
          exact h
        · exact h.elim
    · exact h.elim
variable (ok : COk X c) (hΦ : c.Φ = callN P n) (go' : GOk c.W X.base P n) (gg : X.A.guards = some []) (hr : Room (n + 1) X.A)
include ok hΦ go' gg hr
theorem d_call {f : Str} {ps : List Str} {e : Expr} {es : List Expr} {ea : E} {p pos : Pos} (hs : P.sig f = some ps) (hg : Gl X f) (ha : PA X (e :: es) (tA c ea)) (hdb : (f == ("__debug__" : Str)) = false)
    (he : starEach (e :: es) X.env = (false, eval e X.env) :: starEach es X.env) (hpl : (backTo pos (starEach es X.env)).any (·.1) = false) : PE X (.Call (.Name f p) (e :: es) [] pos) (tD c (.call f ea [])) := by
  obtain ⟨F, fdat, h1, h2, h3, _, h4⟩ := go'.fn f ps hs
  rw [← ok.K] at h2 h3
  rw [← ok.mg] at h1
  rw [← ok.P, ← ok.w, ← ok.K, ← ok.mg] at h4
  refine (pe_callG (E := WE c.wx) h4 gg hr hg h1 h2 h3 (passAt ok.takes) ha hdb he hpl).imp fun σ H Q ⟨G, ρ, t, sr, xo, h⟩ => ?_
  simp only [ev] at h
  refine goA ok sr xo h fun as vs H' G' h s ra sr' xo' => ?_
  exact sp_in hΦ s sr'.tl ra.rbl ra.noB xo' h
theorem d_call0 {f : Str} {ps : List Str} {p pos : Pos} (hs : P.sig f = some ps) (hg : Gl X f) (hdb : (f == ("__debug__" : Str)) = false) : PE X (.Call (.Name f p) [] [] pos) (tD c (.call f .nil [])) := by
  obtain ⟨F, fdat, h1, h2, h3, _, h4⟩ := go'.fn f ps hs
  rw [← ok.K] at h2 h3
  rw [← ok.mg] at h1
  rw [← ok.P, ← ok.w, ← ok.K, ← ok.mg] at h4
  refine ⟨fun pins s σ H Q I ⟨G, ρ, t, sr, xo, h⟩ => ?_⟩
  simp only [ev, evs] at h
  refine wpAny_Call_Name_kw (ld_glob I hg h1 ?_ hdb)
  refine PySem.W.callWith_K0 I.kIn h2 (run_callG (us := []) (vs := []) (E := WE c.wx) h4 gg hr h3 (passAt ok.takes σ) I .nil ?_)
  exact sp_in (as := []) hΦ sr.gd.step sr.tl .nil (fun _ => .nil) xo h
theorem d_callK {f : Str} {ps ks : List Str} {kws : List Keyword} {ea : E} {p pos : Pos} (hs : P.sig f = some ps) (hk : (f, ks) ∈ P.kws) (hg : Gl X f) (hkw : PK X kws (tA c ea))
    (hall : (backToKw pos (keywordEach kws X.env)).all (·.1.isSome) = true) (hks : (backToKw pos (keywordEach kws X.env)).filterMap (·.1) = ks) (hdb : (f == ("__debug__" : Str)) = false)
    (hpl : ((backTo pos (starEach [] X.env)).any (·.1) || (backToKw pos (keywordEach kws X.env)).any (·.1.isNone)) = false) :
    PE X (.Call (.Name f p) [] kws pos) (tD c (.call f ea ks)) := by
  obtain ⟨F, fdat, h1, h2, h3, hkb, h4⟩ := go'.fn f ps hs
  rw [← ok.K] at h2 h3
  rw [← ok.mg] at h1
  rw [← ok.P, ← ok.w, ← ok.K, ← ok.mg] at h4
  refine (pe_callKD (E := WE c.wx) h4 gg hr hg h1 h2 (passAt ok.takes) hkw (hkb ks hk).2 hall hks hdb hpl).imp fun σ H Q ⟨G, ρ, t, sr, xo, h⟩ => ?_
  simp only [ev] at h
  refine goA ok sr xo h fun as vs H' G' h s ra sr' xo' => ?_
  rw [hΦ] at h
  obtain ⟨bs, hb, h⟩ := callN_bind hs h
  obtain ⟨vs', hb', r⟩ := bindA_rel (RBL.paired ra.rbl) hb
  refine ⟨vs', hb', sp_in (as := as) (Φ := callN P n) rfl s sr'.tl (.ofPaired r) (fun nb => ?_) xo' h⟩
  obtain ⟨vs2, hb2, r2⟩ := bindA_rel (ra.noB nb).paired hb
  rw [hb'] at hb2
  cases hb2
  exact .ofPaired r2
theorem d_new {f : Str} {fd : Fd} {e : Expr} {es : List Expr} {ea : E} {p pos : Pos} (hs : P.fns f = some fd) (hI : fd.isI = true) (hg : Gl X f) (ha : PA X (e :: es) (tA c ea)) (hdb : (f == ("__debug__" : Str)) = false)
    (he : starEach (e :: es) X.env = (false, eval e X.env) :: starEach es X.env) (hpl : (backTo pos (starEach es X.env)).any (·.1) = false) : PE X (.Call (.Name f p) (e :: es) [] pos) (tD c (.call f ea [])) := by
  obtain ⟨C, F, fdat, h1, M, h3, h4⟩ := go'.cl f fd hs hI
  have h1' := h1
  rw [← ok.K] at M h3
  rw [← ok.mg] at h1
  rw [← ok.P, ← ok.w, ← ok.K, ← ok.mg] at h4
  refine (pe_makeSD (E := WE c.wx) M h4 gg hr hg h1 h3 (passAt ok.takes) ha hdb he hpl).imp fun σ H Q ⟨G, ρ, t, sr, xo, h⟩ => ?_
  simp only [ev] at h
  refine goA ok sr xo h fun as vs H' G' h s ra sr' xo' => ?_
  intro x dx hx hdx hne
  rw [hΦ] at h
  by_cases nb : noB as
  · refine ⟨G', H', _, _, c.x, x, dx, C, vs, rfl, rfl, hx, hdx, hne, h1', sr'.gd, ra.noB nb, sr'.tl, callN_mono P n _ _ _ _ _ _ _ (fun t' fl d h H2 G2 s2 tl2 rv => ⟨rfl, h.2 _ H2 G2 (s.trans s2) tl2 (rv.from s)⟩) h, fun t' cn fs hx cls dd H2 G2 s2 tl2 re => xo' t' cn fs hx cls dd H2 G2 s2 tl2 re⟩
  · have hb : ∃ p ∈ as, p.1 = .b := by
      apply Classical.byContradiction
      intro z
      exact nb fun p hp e => z ⟨p, hp, e⟩
    obtain ⟨Gx, l, rl⟩ := lend sr'.gd ra.rbl
    refine ⟨Gx, H', _, _, c.x, x, dx, C, vs, rfl, rfl, hx, hdx, hne, h1', l.gd, rl, sr'.tl, callN_mono P n _ _ _ _ _ _ _ (fun t' fl d h H2 G2 s2 tl2 rv => ?_) h, fun t' cn fs hx cls dd H2 G2 s2 tl2 re => ?_⟩
    · have hf := h.1 hb
      exfalso
      cases fl with
      | f =>
        have r : R c.W G2 (.ref x) d := rv
        cases r <;> simp [D.flat] at hf
      | n => obtain ⟨p, _, _, _, oc⟩ := rv; exact oc.notFlat hf
      | b => obtain ⟨p, _, _, _, oc⟩ := rv; exact oc.notFlat hf
    · obtain ⟨G3, s3, r3⟩ := l.back G2 H2 s2
      refine xo' t' cn fs hx cls dd H2 G3 s3 tl2 ?_
      obtain ⟨C, h1, h2, h3⟩ := re
      refine ⟨C, h1, h2, ?_⟩
      rcases h3 with h3 | ⟨f, d, p, v, e1, e2, e3, e4, e5⟩
      · exact .inl h3
      · exact .inr ⟨f, d, p, v, e1, e2, e3, r3 v d e5 e4, e5⟩
end
section
variable {X : Cx} {c : Ct} (ok : COk X c)
include ok
theorem k_nil : PK X [] (tA c .nil) := ⟨fun pos pins s σ H Q I ⟨G, ρ, t, sr, xo, h⟩ => by
  simp only [evs] at h
  exact pk_nil.run pos pins s σ H Q I (h _ _ _ sr.gd.step sr.tl .nil)⟩
theorem k_cons {a : Expr} {r : List Keyword} {ea er : E} {nm : Option Str} {kp : Pos} (ha : PE X a (tD c ea)) (hr : PK X r (tA c er)) (hc : ∀ {te : TE} {t : TA}, PE X a te → PK X r t → PK X (⟨nm, a, kp⟩ :: r) (tCons te t)) : PK X (⟨nm, a, kp⟩ :: r) (tA c (.cons ea er)) :=
  ⟨fun pos pins s σ H Q I ⟨G, ρ, t, sr, xo, h⟩ => by
    refine (hc ha hr).run pos pins s σ H Q I ?_
    simp only [evs] at h
    refine go ok sr xo h fun f d v H1 G1 h s rv sr1 xo1 => ?_
    by_cases hf : f = .b
    · subst hf
      obtain ⟨p, e, n, hp, oc⟩ := rv
      refine ⟨G1, ρ, _, sr1, xo1, evs_mono ok.mono _ _ (fun _ as h vs H2 G2 s2 tl2 ra => ?_) h⟩
      obtain ⟨o, ho, nt⟩ := oc.there
      refine h _ _ _ (s.trans s2) tl2 (.cons (fun z => absurd rfl z) (fun _ => ⟨p, e, n, ?_, oc.stay s2.gext ?_⟩) ra)
      · rw [s2.gnew p (by rw [ho]; simp)]; exact hp
      · rw [ho]; exact s2.keep p o ho fun z => z.elim n fun ⟨ps, z⟩ => nt ps z
    · obtain ⟨G2, s2, r, _⟩ := rv.freeze sr.gd.wi s hf
      refine ⟨G2, ρ, _, sr.step s2 sr1.tl, xo.step s2, evs_mono ok.mono _ _ (fun _ as h vs H3 G3 s3 tl3 ra => ?_) h⟩
      exact h _ _ _ (s2.trans s3) tl3 (.cons (fun _ => r.mono s3.gext) (fun z => absurd z hf) ra)⟩
end
end Lk
set_option autoImplicit false
set_option linter.all false
namespace Lk
open PySem
/-! ### from code to erased code -/
structure Cc where
  N : List Str
  sc : Scope
  fnN : List Str
  P : Pg
  own : List Nat
  dic : List Nat
  /-- classes, attributes, exceptions -/
  cn : List Str
  fd : List Str
  ex : List Str
def noStar : Expr → Bool | .Starred _ _ => false | _ => true
def noSlice : Expr → Bool | .Slice _ _ _ _ => false | _ => true
def baseOk : Expr → Bool | .Call (.Name _ _) [] [] _ => false | _ => true
def noTup : Expr → Bool | .Tuple _ _ _ => false | _ => true
def noSet : Expr → Bool | .Set _ _ _ => false | _ => true
def noComp : Expr → Bool | .ListComp _ _ _ _ => false | .SetComp _ _ _ _ => false | .DictComp _ _ _ _ _ => false | _ => true
def isVis : Option NameKind → Bool | some .local => true | some .cell => true | some .free => true | _ => false
def isGl : Option NameKind → Bool | some .globalImplicit => true | _ => false
def nmOk (x : Str) : Bool := (x == ("__debug__" : Str)) == false && (x == ("__classdict__" : Str)) == false
/-- a name's slot -/
def slotOf (C : Cc) (x : Str) : Option Nat := if isVis (C.sc.names.lookup x) = true then let i := C.N.idxOf x; (if C.N[i]? = some x ∧ nmOk x = true then some i else none) else none
def glob (C : Cc) (x : Str) : Bool := isGl (C.sc.names.lookup x) && nmOk x
/-- .. that may be stored to -/
def tgtOf (C : Cc) (x : Str) : Option Nat := match C.sc.names.lookup x with
  | some .local => slotOf C x
  | some .cell => if x ∈ C.fnN then slotOf C x else none
  | _ => none
def biList : List (Str × Bi × Bool × String) :=
  [("len", .len, false, "len"), ("min", .min, false, "min"), ("max", .max, false, "max"), ("tuple", .tuple, true, "tuple"), ("list", .list, true, "list"), ("sum", .sum, false, "sum"), ("abs", .abs, false, "abs"), ("int", .int, true, "int"), ("all", .all, false, "all"), ("any", .any, false, "any"), ("str", .str, true, "str")]
def tnOf (C : Cc) (t : Str) : Option Tn := match (sixT.map fun n => (Str.ofString n, n)).lookup t with
  | some n => some (.b n)
  | none => if t ∈ C.cn then some (.o t) else none
def cL (r : Expr → Option E) : List Expr → Option E
  | [] => some .nil
  | e :: es => if noStar e = true then (match r e, cL r es with | some a, some b => some (.cons a b) | _, _ => none) else none
def cB (r : Expr → Option E) (op : BoolOp) : List Expr → Option E
  | [] => none
  | [x] => r x
  | x :: y :: xs => match r x, cB r op (y :: xs) with
    | some a, some b => some (match op with | .And => .and a b | .Or => .or a b)
    | _, _ => none
def cO (r : Expr → Option E) : Option Expr → Option E
  | none => some .nil
  | some e => (r e).map (E.cons · .nil)
def cK (r : Expr → Option E) : List Keyword → Option (E × List Str)
  | [] => some (.nil, [])
  | ⟨some nm, e, _⟩ :: ks => match r e, cK r ks with | some a, some (b, l) => some (.cons a b, nm :: l) | _, _ => none
  | _ => none
/-- a display's pairs -/
def cD (r : Expr → Option E) : List (Option Expr) → List Expr → Option E
  | [], [] => some .nil
  | some k :: ks, v :: vs => match r k, r v, cD r ks vs with | some a, some b, some c => some (.cons a (.cons b c)) | _, _, _ => none
  | _, _ => none
/-- a target of names -/
def cTs (C : Cc) : List Expr → Option (List Nat)
  | [] => some []
  | .Name x _ :: r => match tgtOf C x, cTs C r with | some i, some is => some (i :: is) | _, _ => none
  | _ => none
def cT (C : Cc) : Expr → Option Tg
  | .Name x _ => (tgtOf C x).map .one
  | .Tuple es _ _ => (cTs C es).map .many
  | _ => none
/-- what is iterated -/
def cI (C : Cc) (r : Expr → Option E) (tg e : Expr) : Option E := match e with
  | .Call (.Name f p) args [] pos =>
    if f = "range" then (if glob C f = true then (match args with
      | [_] => (cL r args).map .rng
      | [_, _] => (cL r args).map .rng
      | _ => none) else none)
    else if f = "enumerate" then (if glob C f = true then (match tg, args with
      | .Tuple _ _ _, [a] => if noStar a = true then (r a).map .enu else none
      | _, _ => none) else none)
    else if f = "zip" then (if glob C f = true then (match tg, args with
      | .Tuple _ _ _, [a, b] => if (noStar a && noStar b) = true then (match r a, r b with | some x, some y => some (.zip x y) | _, _ => none) else none
      | _, _ => none) else none)
    else (r e).map (E.cons · .nil)
  | e => if noSet e = true then (r e).map (E.cons · .nil) else none
def cIf (r : Expr → Option E) : List Expr → Option E
  | [] => some .nil
  | [e] => (r e).map (E.cons · .nil)
  | _ => none
def relC (scope sc : Scope) : Scope := L2.relS scope sc
/-- a comprehension's own names with their slots -/
def ownOf (C : Cc) (scope : Scope) : List (Str × Nat) := scope.names.filterMap fun (n, k) => match k with
  | .local => some (n, C.N.idxOf n)
  | .cell => some (n, C.N.idxOf n)
  | _ => none
def Cc.blk (C : Cc) (scope : Scope) : Cc := { C with sc := relC scope C.sc, fnN := (scope.names.filter fun y => scope.names.lookup y.1 == some .cell).map (·.1) }
def isConst : Expr → Bool | .Constant _ _ _ => true | _ => false
def cCmp (r : Expr → Option E) (a : Expr) (ops : List CmpOp) (bs : List Expr) : Option E := match ops, bs with
    | [.Is], [.Constant .none _ _] => (r a).map .isn
    | [.IsNot], [.Constant .none _ _] => (r a).map .nsn
    | [op], [b] => if behindInMarks op b = false then (match r a, r b with | some x, some y => some (.cmp op x y) | _, _ => none) else none
    | [op, op'], [b, d] => if lastMarks [op, op'] [b, d] = false then (match r a, r b, r d with | some x, some y, some z => some (.chn op op' x y z) | _, _, _ => none) else none
    | _, _ => none
def cSub (r : Expr → Option E) (a s : Expr) : Option E := match s with
    | .Slice none none (some (.UnaryOp .USub (.Constant (.int 1) _ _) _)) _ => (r a).map .rev
    | .Slice lo hi none _ => match r a, cO r lo, cO r hi with | some x, some y, some z => some (.sl x y z) | _, _, _ => none
    | s => if noSlice s = true then (match r a, r s with | some x, some y => some (.ix x y) | _, _ => none) else none
def cLC (r : Cc → Expr → Option E) (C : Cc) (elt : Expr) (gens : List Comprehension) (scope : Scope) : Option E :=
    if L2.blkC C.N C.sc scope (ownOf C scope) = true then (
      let own := (ownOf C scope).map (·.2)
      let C' := C.blk scope
      match gens with
      | [⟨tg, it, ifs, 0⟩] => match cT C' tg, cI C (r C) tg it, cIf (r C') ifs, r C' elt with
        | some t, some i, some cs, some x => if t.ix.all (· ∈ own) = true then some (.lc x (.gcons own t i cs .nil)) else none
        | _, _, _, _ => none
      | [⟨tg, it, ifs, 0⟩, ⟨tg1, it1, ifs1, 0⟩] => match cT C' tg, cI C (r C) tg it, cIf (r C') ifs, r C' elt with
        | some t, some i, some cs, some x => match cT C' tg1, cI C' (r C') tg1 it1, cIf (r C') ifs1 with
          | some t1, some i1, some cs1 => if (t.ix.all (· ∈ own) && t1.ix.all (· ∈ own)) = true then some (.lc x (.gcons own t i cs (.gcons t1.ix t1 i1 cs1 .nil))) else none
          | _, _, _ => none
        | _, _, _, _ => none
      | _ => none) else none
def cIsi (r : Expr → Option E) (C : Cc) (args : List Expr) : Option E := match args with
  | [a, .Name t _] => if noStar a = true ∧ glob C t = true then (match r a, tnOf C t with
    | some x, some tn => some (.isi x [tn])
    | _, _ => none) else none
  | _ => none
def cRep (r : Expr → Option E) (C : Cc) (args : List Expr) : Option E := match args with
  | [a] => if noStar a = true then (r a).map fun x => .blt .repr (.cons x .nil) else none
  | _ => none
def cSet (r : Expr → Option E) (C : Cc) (args : List Expr) : Option E := match args with
  | [.Call (.Name g _) [a] [] _] => if g = "set" ∧ glob C g = true ∧ noStar a = true then (r a).map fun x => .blt .lset (.cons x .nil) else none
  | _ => none
def cBb (r : Expr → Option E) (b : Bi) (args : List Expr) : Option E := match args with
  | [] => none
  | args => (cL r args).map (.blt b)
def cBlt (r : Expr → Option E) (C : Cc) (f : Str) (args : List Expr) : Option E :=
  if f = "isinstance" then cIsi r C args
  else if f = "repr" then cRep r C args
  else match biList.lookup f with
    | some (b, _) => if b = .len then (match cSet r C args with | some x => some x | none => cBb r b args) else cBb r b args
    | none => none
def cPos (r : Expr → Option E) (C : Cc) (f : Str) (args : List Expr) : Option E :=
  if glob C f = false then none else
  match C.P.sig f with
  | some _ => (cL r args).map fun a => .call f a []
  | none => match C.P.fns f with
    | some fd => match args with
      | [] => none
      | args => if fd.isI = true then (cL r args).map fun a => .call f a [] else none
    | none => cBlt r C f args
def cKw (r : Expr → Option E) (C : Cc) (f : Str) (kws : List Keyword) : Option E :=
  if glob C f = true then (match C.P.sig f, cK r kws with
    | some _, some (a, ks) => if (f, ks) ∈ C.P.kws then some (.call f a ks) else none
    | _, _ => none) else none
def cGet (r : Expr → Option E) (o : Expr) (m : Str) (apos : Pos) (args : List Expr) (pos : Pos) : Option E := match args with
  | [a, b] => if m = "get" ∧ baseOk o = true ∧ noStar a = true ∧ noStar b = true ∧ (apos.endLine == pos.line) = true then (match r o, r a, r b with | some x, some y, some z => some (.mth x .get (.cons y (.cons z .nil))) | _, _, _ => none) else none
  | _ => none
def cCall (r : Expr → Option E) (C : Cc) (f : Expr) (args : List Expr) (kws : List Keyword) (pos : Pos) : Option E := match f with
  | .Name f _ => match kws with
    | [] => cPos r C f args
    | kws => match args with
      | [] => cKw r C f kws
      | _ => none
  | .Attribute o m apos => match kws with
    | [] => cGet r o m apos args pos
    | _ => none
  | _ => none
def cE1 (r : Cc → Expr → Option E) (C : Cc) (e : Expr) : Option E := match e with
  | .Constant c _ _ => match c with
    | .none => some .cn | .bool b => some (.cb b) | .int i => some (.ci i) | .str s => some (.cs s)
    | _ => none
  | .Name x _ => match slotOf C x with
    | some i => some (.v i)
    | none => if glob C x = true then some (.g x) else none
  | .BinOp a op b _ => match r C a, r C b with | some x, some y => some (.bin op x y) | _, _ => none
  | .UnaryOp op a _ => match op with
    | .USub => (r C a).map .neg
    | .Not => (r C a).map .not
    | _ => none
  | .BoolOp op xs _ => cB (r C) op xs
  | .IfExp t a b _ => match r C t, r C a, r C b with | some x, some y, some z => some (.ife x y z) | _, _, _ => none
  | .Compare a ops bs _ => cCmp (r C) a ops bs
  | .Tuple es _ _ => (cL (r C) es).map .tup
  | .List es _ => (cL (r C) es).map .lst
  | .Dict ks vs _ => if ks = [] ∧ vs = [] then some (.dct .nil) else if ks.length ≤ 15 then (cD (r C) ks vs).map .dct else none
  | .Attribute o f _ => if baseOk o = true then (r C o).map (.fld · f) else none
  | .Subscript a s _ => cSub (r C) a s
  | .ListComp elt gens scope _ => cLC r C elt gens scope
  | .Call f args kws pos => cCall (r C) C f args kws pos
  | _ => none
def cE : Nat → Cc → Expr → Option E
  | 0, _, _ => none
  | n + 1, C, e => cE1 (cE n) C e
/-! ### statements -/
mutual
/-- the slots that are used as values that stay -/
def gU : E → List Nat
  | .v i => [i]
  | .bin _ a b => gU a ++ gU b
  | .neg a => nU a | .not a => nU a
  | .and a b => nU a ++ nU b | .or a b => nU a ++ nU b
  | .ife c a b => nU c ++ gU a ++ gU b
  | .cmp _ a b => nU a ++ nU b
  | .isn a => nU a | .nsn a => nU a
  | .chn _ _ a b c => gU a ++ gU b ++ nU c
  | .tup es => gU es | .lst es => gU es
  | .ix a i => nU a ++ gU i
  | .sl a _ _ => nU a | .rev a => nU a | .fld a _ => nU a
  | .call _ es _ => nUs es | .blt _ es => nUs es
  | .isi a _ => nU a
  | .mth o _ es => nU o ++ gU es
  | .lc elt gs => gU elt ++ gU gs
  | .rng es => gU es | .enu a => gU a | .zip a b => gU a ++ gU b
  | .cons a r => gU a ++ gU r
  | .gcons _ _ it cs r => gU it ++ nUs cs ++ gU r
  | _ => []
def nU : E → List Nat
  | .v _ => []
  | .bin _ a b => gU a ++ gU b
  | .neg a => nU a | .not a => nU a
  | .and a b => nU a ++ nU b | .or a b => nU a ++ nU b
  | .ife c a b => nU c ++ nU a ++ nU b
  | .cmp _ a b => nU a ++ nU b
  | .isn a => nU a | .nsn a => nU a
  | .chn _ _ a b c => gU a ++ gU b ++ nU c
  | .tup es => gU es | .lst es => gU es
  | .ix a i => nU a ++ gU i
  | .sl a _ _ => nU a | .rev a => nU a | .fld a _ => nU a
  | .call _ es _ => nUs es | .blt _ es => nUs es
  | .isi a _ => nU a
  | .mth o _ es => nU o ++ gU es
  | .lc elt gs => gU elt ++ gU gs
  | _ => []
def nUs : E → List Nat
  | .cons a r => nU a ++ nUs r
  | _ => []
end
def frzs (C : Cc) : List Nat → S → S
  | [], s => s
  | u :: us, s => if u ∈ C.own ∧ u ∉ us then (if u ∈ C.dic then .seq (.lck u) (frzs C us s) else .seq (.frz u) (frzs C us s)) else frzs C us s
def linesEq (l : Nat) : List Expr → Bool
  | [] => true
  | .Name _ p :: r => p.line == l && linesEq l r
  | _ => false
def locAll (C : Cc) : List Expr → Bool
  | [] => true
  | .Name x _ :: r => (match C.sc.names.lookup x with | some .local => true | _ => false) && locAll C r
  | _ => false
/-- a, b = x, y is stored from the right -/
def parOk (C : Cc) (ts vs : List Expr) : Bool := match ts with
  | .Name _ p :: _ => linesEq p.line ts && locAll C ts && vs.all noStar && !(vs.all (foldedForSure 8)) && !(vs.all (constantsAlone 8)) && (ts.length == vs.length)
  | _ => false
def slots (C : Cc) : List Expr → Option (List Nat)
  | [] => some []
  | .Name x _ :: r => match slotOf C x, slots C r with | some i, some is => if i ∈ is then none else some (i :: is) | _, _ => none
  | _ => none
def cSs (r : Stmt → Option S) : List Stmt → Option S
  | [] => some .skip
  | s :: ss => match r s, cSs r ss with | some a, some b => some (.seq a b) | _, _ => none
/-- what names = [..] on one line does -/
def lcSwap (C : Cc) (x : Str) (px : Pos) (scope : Scope) (pos : Pos) : Bool := (match C.sc.names.lookup x with | some .local => true | _ => false) && px.line == pos.line && !(scope.names.any fun (n, k) => n == x && (k == .local || k == .cell))
def asgN (C : Cc) (i : Nat) (e : E) : S := frzs C (gU e) (if i ∈ C.own then .own i e else .set i e)
/-- state['great'].pop(0) if state['great'] != [] else e -/
def popPat (x : Str) : Expr → Option Expr
  | .IfExp (.Compare (.Subscript (.Name a _) (.Constant (.str g) _ _) _) [.NotEq] [.List [] _] _) (.Call (.Attribute (.Subscript (.Name b _) (.Constant (.str h) _ _) _) m apos) [.Constant (.int z) _ _] [] cpos) e _ =>
    if a = x ∧ b = x ∧ g = "great" ∧ h = "great" ∧ m = "pop" ∧ z = 0 ∧ (apos.endLine == cpos.line) = true then some e else none
  | _ => none
/-- state['left'] = .., state['turn'] = .. -/
def cStt (r : Cc → Expr → Option E) (C : Cc) (x : Str) (i : Nat) (ke v : Expr) : Option S := match ke with
  | .Constant (.str key) _ _ => match popPat x v with
    | some b => if key = "left" then (r C b).map (.stp i) else none
    | none => if noComp v = true then (r C v).map (.sts i key) else none
  | _ => none
def cS1 (r : Cc → Expr → Option E) (rs : Stmt → Option S) (C : Cc) (s : Stmt) : Option S := match s with
  | .Pass _ => some .skip
  | .Break _ => some .brk
  | .Continue _ => some .cnt
  | .Expr e pos => match e with
    | .Constant (.str _) _ _ => some .skip
    | .Call (.Attribute (.Name x p1) m apos) [a] [] cpos =>
      if m = "append" then (match slotOf C x with
        | some i => if i ∈ C.own ∧ noStar a = true ∧ (apos.endLine == cpos.line) = true then (r C a).map fun y => frzs C (gU y) (.app i y) else none
        | none => none)
      else if m = "extend" then (match slotOf C x with
        | some i => if i ∈ C.own ∧ noStar a = true ∧ (apos.endLine == cpos.line) = true then (r C a).map fun y => frzs C (gU y) (.ext i y) else none
        | none => none)
      else none
    | e => if noComp e = true then (r C e).map fun y => frzs C (nU y) (.ex y) else none
  | .Assign ts v pos => match ts with
    | [.Name x px] => match tgtOf C x with
      | none => none
      | some j => match v with
        | .Call (.Attribute (.Name y p1) m apos) [] [] cpos => if m = "pop" then (match slotOf C y with
          | some i => if i ∈ C.own ∧ j ∉ C.own ∧ (apos.endLine == cpos.line) = true then some (.pop j i) else none
          | none => none) else none
        | .ListComp elt gens scope lp => (r C v).map (asgN C j)
        | v => if noComp v = true then (r C v).map (asgN C j) else none
    | [.Tuple es k tp] => match v with
      | .Tuple vs k2 tp2 =>
        if parOk C es vs = true ∧ (es.length = 2 ∨ es.length = 3) then (match slots C es, cL (r C) vs with
          | some is, some y => some (.par (is.map fun i => (i, decide (i ∈ C.own))) y)
          | _, _ => none)
        else if (es.length ≠ 2 ∧ es.length ≠ 3) ∨ (vs.all (foldedForSure 8) = true ∧ vs.all noStar = true) then (match cTs C es, r C v with
          | some is, some y => if is.all (· ∉ C.own) = true then some (frzs C (gU y) (.unp is y)) else none
          | _, _ => none)
        else none
      | v => match cTs C es, r C v with
        | some is, some y => if is.all (· ∉ C.own) = true ∧ noComp v = true then some (frzs C (gU y) (.unp is y)) else none
        | _, _ => none
    | [.Subscript (.Name x p1) ke p2] => match slotOf C x with
      | none => none
      | some i => if i ∈ C.own then (match r C ke, r C v with
        | some kk, some y => if noSlice ke = true ∧ noComp v = true then some (frzs C (gU y ++ gU kk) (.sset i kk y)) else none
        | _, _ => none) else cStt r C x i ke v
    | [.Attribute (.Name x p1) f p2] => match slotOf C x, r C v with
      | some i, some y => if i ∈ C.own ∧ f ∈ C.fd ∧ noComp v = true then some (frzs C (gU y) (.fset i f y)) else none
      | _, _ => none
    | _ => none
  | .AugAssign (.Name x _) .Add e _ => match tgtOf C x, r C e with
    | some i, some y => if i ∉ C.own then some (.aug i y) else none
    | _, _ => none
  | .If t a b _ => match r C t, cSs rs a, cSs rs b with
    | some x, some y, some z => some (frzs C (nU x) (.ife x y z))
    | _, _, _ => none
  | .While t b [] _ => match r C t, cSs rs b with
    | some x, some y => some (frzs C (nU x) (.whl x y))
    | _, _ => none
  | .For tg it b [] _ => match cT C tg, cI C (r C) tg it, cSs rs b with
    | some t, some x, some y => if t.ix.all (· ∉ C.own) = true then some (frzs C (gU x) (.for t x y)) else none
    | _, _, _ => none
  | .Return none _ => some .ret0
  | .Return (some e) _ => match e with
    | .Name x _ => match slotOf C x with
      | some i => some (.rtv i)
      | none => (r C e).map .ret
    | e => (r C e).map fun y => frzs C (gU y) (.ret y)
  | .Raise (some (.Call (.Name c _) [.Constant (.str _) _ _] [] _)) none _ => if glob C c = true ∧ c ∈ C.ex then some (.rse c none .nil) else none
  | _ => none
def cS : Nat → Cc → Stmt → Option S
  | 0, _, _ => none
  | n + 1, C, s => cS1 (cE 40) (cS n C) C s
end Lk
set_option autoImplicit false
set_option linter.all false
set_option maxRecDepth 10000
namespace Lk
open PySem PySem.Spec PyProof.Rows L2
/-- built-in names that are used -/
def bnList : List Str := ["range", "enumerate", "zip", "set", "isinstance", "repr", "len", "min", "max", "tuple", "list", "sum", "abs", "int", "all", "any", "str", "bool", "dict"]
/-- an exception class without __init__ of its own -/
def ExOk (W : Wd) (c : Str) : Prop := ∃ C, W.mg c = some (.ref C) ∧ PySem.W.excIn W.K C [.type "ValueError", .type "Exception", .type "BaseException", .type "object"] "ValueError.__new__" = true ∧ PySem.W.keepIn W.K (.ref C) = true ∧
  PySem.W.subIn W.K (.ref C) (.type "BaseException") = some true ∧ PySem.W.typeIn W.K (.ref C) = some (.type "type")
structure XC (X : Cx) (c : Ct) (C : Cc) (n : Nat) : Prop extends COk X c where
  N : X.N = C.N
  sc : X.env.scope = C.sc
  sk : C.sc.kind = .function
  hΦ : c.Φ = callN C.P n
  gok : GOk c.W X.base C.P n
  room : Room (n + 1) X.A
  fnl : ∀ x ∈ C.fnN, X.fn x = true
  bn : ∀ x ∈ bnList, X.mg x = none
  cn : ∀ k ∈ C.cn, k ∈ c.W.cn ∧ ∃ Cl, c.W.mg k = some (.ref Cl)
  ex : ∀ k ∈ C.ex, ExOk c.W k
  fd : ∀ f ∈ C.fd, f ∈ c.W.fd
  rp : X.A.guards = some []
theorem XC.blk {X : Cx} {c : Ct} {C : Cc} {n : Nat} (h : XC X c C n) (scope : Scope) (hk : scope.kind = .function) (s : Shared) (H : Hp) (Cl : Addr) (cl : List (Str × Addr)) (fp : List Addr) :
    XC (X.blk s H scope (compEnvC scope cl Cl X.env) fp) c.blk (C.blk scope) n where
  toCOk := h.toCOk.blk s H scope _ fp
  N := h.N
  sc := by
    show relabel scope X.env = relS scope C.sc
    rw [← h.sc]; rfl
  sk := hk
  hΦ := h.hΦ
  gok := h.gok
  room := h.room
  fnl := fun x hx => by
    obtain ⟨y, hy, rfl⟩ := List.mem_map.mp hx
    exact (List.mem_filter.mp hy).2
  bn := h.bn
  cn := h.cn
  ex := h.ex
  fd := h.fd
  rp := h.rp
section
variable {X : Cx} {c : Ct} {C : Cc} {n : Nat} (h : XC X c C n)
include h
theorem XC.glo {x : Str} (hg : glob C x = true) : Gl X x ∧ (x == ("__debug__" : Str)) = false := by
  unfold glob at hg
  rw [Bool.and_eq_true] at hg
  unfold nmOk at hg
  rw [Bool.and_eq_true] at hg
  obtain ⟨h1, h2, h3⟩ := hg
  refine ⟨?_, by simpa using h2⟩
  show X.env.scope.names.lookup x = some .globalImplicit
  rw [h.sc]
  unfold isGl at h1
  split at h1
  · assumption
  · cases h1
theorem XC.slot {x : Str} {i : Nat} (hs : slotOf C x = some i) : X.N[i]? = some x ∧ Vis X.env.scope x ∧ (x == ("__debug__" : Str)) = false ∧ (x == ("__classdict__" : Str)) = false := by
  unfold slotOf at hs
  split at hs
  · rename_i hv
    simp only at hs
    split at hs
    · rename_i hn
      cases hs
      obtain ⟨h1, h2⟩ := hn
      unfold nmOk at h2
      rw [Bool.and_eq_true] at h2
      refine ⟨by rw [h.N]; exact h1, ?_, by simpa using h2.1, by simpa using h2.2⟩
      unfold Vis
      rw [h.sc]
      unfold isVis at hv
      split at hv
      · rename_i e; exact .inl e
      · rename_i e; exact .inr (.inl e)
      · rename_i e; exact .inr (.inr e)
      · cases hv
    · cases hs
  · cases hs
theorem XC.tgt {x : Str} {i : Nat} (hs : tgtOf C x = some i) : X.N[i]? = some x ∧ Loc X.env.scope x ∧ (X.fn x = true ∨ X.env.scope.names.lookup x = some .local) := by
  unfold tgtOf at hs
  split at hs
  · rename_i e
    exact ⟨(h.slot hs).1, .inl (by rw [h.sc]; exact e), .inr (by rw [h.sc]; exact e)⟩
  · rename_i e
    split at hs
    · rename_i hf
      exact ⟨(h.slot hs).1, .inr (by rw [h.sc]; exact e), .inl (h.fnl _ hf)⟩
    · cases hs
  · cases hs
end
/-! ### small facts about code -/
theorem star_cons {e : Expr} {es : List Expr} {env : Env} (h : noStar e = true) : starEach (e :: es) env = (false, eval e env) :: starEach es env := by
  cases e <;> first | rfl | cases h
def plainT : Expr → Bool | .UnaryOp .Not _ _ => false | .BoolOp _ _ _ => false | .IfExp _ _ _ _ => false | .Compare _ _ _ _ => false | _ => true
theorem isTrue_of {e : Expr} {env : Env} (h : plainT e = true) (whole : Sem Value) : isTrue e env whole = (do let v ← whole; standAt e.pos; holding [v] (truthy v)) := by
  cases e <;> first | rfl | (simp [plainT] at h; done) | skip
  rename_i op a p
  cases op <;> first | rfl | (simp [plainT] at h; done)
theorem star_plain {env : Env} {pos : Pos} : ∀ {es : List Expr}, es.all noStar = true → (backTo pos (starEach es env)).any (·.1) = false
  | [], _ => rfl
  | e :: es, h => by
    rw [List.all_cons, Bool.and_eq_true] at h
    rw [star_cons h.1]
    show (false || (backTo pos (starEach es env)).any (·.1)) = false
    rw [star_plain h.2]; rfl
theorem cL_star {r : Expr → Option E} : ∀ {es : List Expr} {a : E}, cL r es = some a → es.all noStar = true
  | [], _, _ => rfl
  | e :: es, a, h => by
    unfold cL at h
    split at h
    · rename_i hn
      split at h
      · rename_i x y _ hy
        rw [List.all_cons, hn, cL_star hy]; rfl
      · cases h
    · cases h
theorem cL_len {r : Expr → Option E} : ∀ {es : List Expr} {a : E}, cL r es = some a → lenE a = es.length
  | [], _, h => by cases h; rfl
  | e :: es, a, h => by
    unfold cL at h
    split at h
    · split at h
      · rename_i x y _ hy
        cases h
        simp [lenE, cL_len hy]
      · cases h
    · cases h
/-! ### what is shown of a smaller fuel -/
def Good (r : Cc → Expr → Option E) : Prop := ∀ C e E, r C e = some E → ∀ X c n, XC X c C n → PE X e (tD c E) ∧ PT X e (tT c E)
section
variable {r : Cc → Expr → Option E} (hr : Good r) {X : Cx} {c : Ct} {C : Cc} {n : Nat} (h : XC X c C n)
include hr h
theorem cL_ok : ∀ {es : List Expr} {a : E}, cL (r C) es = some a → PA X es (tA c a) ∧ PA X es (tN c a)
  | [], _, e => by cases e; exact ⟨a_nil h.toCOk, n_nil h.toCOk⟩
  | x :: es, a, e => by
    unfold cL at e
    split at e
    · rename_i hn
      split at e
      · rename_i y z hy hz
        cases e
        have q := (hr C x y hy X c n h).1
        obtain ⟨q1, q2⟩ := cL_ok hz
        exact ⟨a_cons h.toCOk q q1 (star_cons hn), n_cons h.toCOk q q2 (star_cons hn)⟩
      · cases e
    · cases e
theorem cD_ok : ∀ {ks : List (Option Expr)} {vs : List Expr} {a : E}, cD (r C) ks vs = some a → KVs X c ks vs a
  | [], [], _, e => by cases e; exact .nil
  | some k :: ks, v :: vs, a, e => by
    unfold cD at e
    split at e
    · rename_i x y z hx hy hz
      cases e
      exact .cons (hr C k x hx X c n h).1 (hr C v y hy X c n h).1 (cD_ok hz)
    · cases e
  | none :: _, _, _, e => by simp [cD] at e
  | [], _ :: _, _, e => by simp [cD] at e
  | some _ :: _, [], _, e => by simp [cD] at e
theorem cO_ok {o : Option Expr} {a : E} (e : cO (r C) o = some a) : PO X o (tO c a) := by
  cases o with
  | none => cases e; exact o_none h.toCOk
  | some x =>
    simp only [cO, Option.map_eq_some_iff] at e
    obtain ⟨y, hy, rfl⟩ := e
    exact o_some h.toCOk (hr C x y hy X c n h).1
theorem cK_ok : ∀ {kws : List Keyword} {a : E} {ks : List Str}, cK (r C) kws = some (a, ks) → PK X kws (tA c a) ∧ ∀ pos, (backToKw pos (keywordEach kws X.env)).all (·.1.isSome) = true ∧ (backToKw pos (keywordEach kws X.env)).filterMap (·.1) = ks ∧ (backToKw pos (keywordEach kws X.env)).any (·.1.isNone) = false
  | [], _, _, e => by cases e; exact ⟨k_nil h.toCOk, fun pos => ⟨rfl, rfl, rfl⟩⟩
  | ⟨none, _, _⟩ :: _, _, _, e => by simp [cK] at e
  | ⟨some nm, x, p⟩ :: kws, a, ks, e => by
    simp only [cK] at e
    split at e
    · rename_i y z l hy hz
      cases e
      obtain ⟨q1, q2⟩ := cK_ok hz
      refine ⟨k_cons h.toCOk (hr C x y hy X c n h).1 q1 fun h1 h2 => pk_cons h1 h2, fun pos => ?_⟩
      obtain ⟨z1, z2, z3⟩ := q2 pos
      refine ⟨?_, ?_, ?_⟩
      · show (true && (backToKw pos (keywordEach kws X.env)).all (·.1.isSome)) = true
        rw [z1]; rfl
      · show nm :: (backToKw pos (keywordEach kws X.env)).filterMap (·.1) = nm :: l
        rw [z2]
      · show (false || (backToKw pos (keywordEach kws X.env)).any (·.1.isNone)) = false
        rw [z3]; rfl
    · cases e
theorem cB_ok {op : BoolOp} {pos : Pos} : ∀ {xs : List Expr} {a : E}, cB (r C) op xs = some a → PE X (.BoolOp op xs pos) (tD c a) ∧ PW X (.BoolOp op xs pos) (tT c a)
  | [], _, e => by simp [cB] at e
  | [x], a, e => by
    simp only [cB] at e
    obtain ⟨q1, q2⟩ := hr C x a e X c n h
    refine ⟨d_one q1, ?_⟩
    cases op
    · exact w_and1 q2
    · exact w_or1 q2
  | x :: y :: xs, a, e => by
    simp only [cB] at e
    split at e
    · rename_i u v hu hv
      cases e
      obtain ⟨q1, q2⟩ := hr C x u hu X c n h
      obtain ⟨q3, q4⟩ := cB_ok hv
      cases op
      · exact ⟨d_and h.toCOk q1 q3, w_and h.toCOk q2 q4⟩
      · exact ⟨d_or h.toCOk q1 q3, w_or h.toCOk q2 q4⟩
    · cases e
theorem cIf_ok {ifs : List Expr} {a : E} (e : cIf (r C) ifs = some a) : PTs X ifs (tC c a) := by
  unfold cIf at e
  split at e
  · cases e; exact c_nil h.toCOk
  · rename_i x
    simp only [Option.map_eq_some_iff] at e
    obtain ⟨y, hy, rfl⟩ := e
    exact c_one h.toCOk (hr C x y hy X c n h).2
  · cases e
omit hr in
theorem cTs_ok : ∀ {es : List Expr} {is : List Nat}, cTs C es = some is → PGs X es (gNs is) ∧ (assignEach es X.env).length = is.length ∧ (assignEach es X.env).findIdx? (·.1) = none
  | [], _, e => by cases e; exact ⟨pgs_nil, rfl, rfl⟩
  | .Name x p :: es, is, e => by
    simp only [cTs] at e
    split at e
    · rename_i i is' hi his
      cases e
      obtain ⟨q1, q2, q3⟩ := cTs_ok his
      obtain ⟨t1, t2, t3⟩ := h.tgt hi
      refine ⟨pgs_cons (pg_name h.nd t1 t2 t3) q1 rfl, ?_, ?_⟩
      · show (assignEach es X.env).length + 1 = _; rw [q2]; rfl
      · show ((false, assign (.Name x p) X.env) :: assignEach es X.env).findIdx? (·.1) = none
        rw [List.findIdx?_cons]
        simp [q3]
    · cases e
  | .BoolOp .. :: _, _, e | .NamedExpr .. :: _, _, e | .BinOp .. :: _, _, e | .UnaryOp .. :: _, _, e | .Lambda .. :: _, _, e | .IfExp .. :: _, _, e | .Dict .. :: _, _, e | .Set .. :: _, _, e | .ListComp .. :: _, _, e | .SetComp .. :: _, _, e
  | .DictComp .. :: _, _, e | .GeneratorExp .. :: _, _, e | .Await .. :: _, _, e | .Yield .. :: _, _, e | .YieldFrom .. :: _, _, e | .Compare .. :: _, _, e | .Call .. :: _, _, e | .FormattedValue .. :: _, _, e | .JoinedStr .. :: _, _, e | .Constant .. :: _, _, e
  | .Attribute .. :: _, _, e | .Subscript .. :: _, _, e | .Starred .. :: _, _, e | .List .. :: _, _, e | .Tuple .. :: _, _, e | .Slice .. :: _, _, e => by simp [cTs] at e
omit hr in
theorem cT_ok {tg : Expr} {t : Tg} (e : cT C tg = some t) : PG X tg (gT X.K t) := by
  unfold cT at e
  split at e
  · simp only [Option.map_eq_some_iff] at e
    obtain ⟨i, hi, rfl⟩ := e
    obtain ⟨t1, t2, t3⟩ := h.tgt hi
    exact pg_name h.nd t1 t2 t3
  · simp only [Option.map_eq_some_iff] at e
    obtain ⟨is, his, rfl⟩ := e
    obtain ⟨q1, q2, q3⟩ := cTs_ok h his
    exact pg_tup h.calm q1 q2 q3
  · cases e
end
end Lk
set_option autoImplicit false
set_option linter.all false
set_option maxRecDepth 10000
namespace Lk
open PySem PySem.Spec PyProof.Rows L2
theorem fold_ok {e : Expr} (h : noSet e = true) : ∀ env x, foldedSetIterable e env x = pure x := by
  cases e <;> first | (intro _ _; rfl) | cases h
theorem mem_of_lk {α : Type} {l : List (Str × α)} {f : Str} {a : α} (h : l.lookup f = some a) : (f, a) ∈ l := PySem.mem_of_lookup h
theorem bn_of {X : Cx} {c : Ct} {C : Cc} {n : Nat} (h : XC X c C n) {f : Str} (hf : f ∈ bnList) : X.mg f = none := h.bn f hf
theorem bi_ok {X : Cx} {c : Ct} (ok : COk X c) {f : Str} {b : Bi} {ty : Bool} {id : String} (h : biList.lookup f = some (b, ty, id)) :
    (ty = false → CallR X (.builtin id) (rBl c.W b) ∧ bootBuiltins f = some (.builtin id)) ∧ (ty = true → CallR X (.type id) (rBl c.W b) ∧ bootBuiltins f = some (.type id)) ∧ f ≠ "__name__" ∧ (f == ("__debug__" : Str)) = false ∧ f ∈ bnList := by
  have hm := mem_of_lk h
  simp only [biList, List.mem_cons, Prod.mk.injEq, List.not_mem_nil, or_false] at hm
  rcases hm with ⟨rfl, rfl, rfl, rfl⟩ | ⟨rfl, rfl, rfl, rfl⟩ | ⟨rfl, rfl, rfl, rfl⟩ | ⟨rfl, rfl, rfl, rfl⟩ | ⟨rfl, rfl, rfl, rfl⟩ | ⟨rfl, rfl, rfl, rfl⟩ | ⟨rfl, rfl, rfl, rfl⟩ | ⟨rfl, rfl, rfl, rfl⟩ | ⟨rfl, rfl, rfl, rfl⟩ | ⟨rfl, rfl, rfl, rfl⟩ | ⟨rfl, rfl, rfl, rfl⟩
  · exact ⟨fun _ => ⟨b_len ok, by decide +kernel⟩, fun e => (by cases e), by decide +kernel, by decide +kernel, by decide +kernel⟩
  · exact ⟨fun _ => ⟨b_min ok, by decide +kernel⟩, fun e => (by cases e), by decide +kernel, by decide +kernel, by decide +kernel⟩
  · exact ⟨fun _ => ⟨b_max ok, by decide +kernel⟩, fun e => (by cases e), by decide +kernel, by decide +kernel, by decide +kernel⟩
  · exact ⟨fun e => (by cases e), fun _ => ⟨b_tuple ok, by decide +kernel⟩, by decide +kernel, by decide +kernel, by decide +kernel⟩
  · exact ⟨fun e => (by cases e), fun _ => ⟨b_list ok, by decide +kernel⟩, by decide +kernel, by decide +kernel, by decide +kernel⟩
  · exact ⟨fun _ => ⟨b_sum ok, by decide +kernel⟩, fun e => (by cases e), by decide +kernel, by decide +kernel, by decide +kernel⟩
  · exact ⟨fun _ => ⟨b_abs ok, by decide +kernel⟩, fun e => (by cases e), by decide +kernel, by decide +kernel, by decide +kernel⟩
  · exact ⟨fun e => (by cases e), fun _ => ⟨b_int ok, by decide +kernel⟩, by decide +kernel, by decide +kernel, by decide +kernel⟩
  · exact ⟨fun _ => ⟨b_all ok, by decide +kernel⟩, fun e => (by cases e), by decide +kernel, by decide +kernel, by decide +kernel⟩
  · exact ⟨fun _ => ⟨b_any ok, by decide +kernel⟩, fun e => (by cases e), by decide +kernel, by decide +kernel, by decide +kernel⟩
  · exact ⟨fun e => (by cases e), fun _ => ⟨b_str ok, by decide +kernel⟩, by decide +kernel, by decide +kernel, by decide +kernel⟩
theorem cL_cons {r : Expr → Option E} {y : Expr} {ys : List Expr} {z : E} (h : cL r (y :: ys) = some z) : noStar y = true ∧ ∃ u v, r y = some u ∧ cL r ys = some v ∧ z = .cons u v := by
  unfold cL at h
  split at h
  · rename_i hn
    split at h
    · rename_i u v hu hv
      cases h
      exact ⟨hn, u, v, hu, hv, rfl⟩
    · cases h
  · cases h
theorem cI_fold {C : Cc} {r : Expr → Option E} {tg x : Expr} {a : E} (e : cI C r tg x = some a) : ∀ env v, foldedSetIterable x env v = pure v := by
  unfold cI at e
  split at e
  · exact fold_ok rfl
  · split at e
    · rename_i hs; exact fold_ok hs
    · cases e
section
variable {r : Cc → Expr → Option E} (hr : Good r) {X : Cx} {c : Ct} {C : Cc} {n : Nat} (h : XC X c C n)
include hr h
theorem cI_ok {tg x : Expr} {a : E} (e : cI C (r C) tg x = some a) : PI X tg x (tI c a) ∧ ∀ env v, foldedSetIterable x env v = pure v := by
  unfold cI at e
  split at e
  · rename_i f p args pos
    refine ⟨?_, fold_ok rfl⟩
    split at e
    · rename_i hf
      subst hf
      split at e
      · rename_i hg
        obtain ⟨g1, g2⟩ := h.glo hg
        split at e
        · rename_i y
          simp only [Option.map_eq_some_iff] at e
          obtain ⟨z, hz, rfl⟩ := e
          have ha := (cL_ok hr h hz).1
          obtain ⟨hn, u, v, hu, hv, rfl⟩ := cL_cons hz
          cases hv
          exact i_rng1 h.toCOk g1 (h.bn _ (by decide +kernel)) ha (star_cons hn)
        · rename_i y z
          simp only [Option.map_eq_some_iff] at e
          obtain ⟨w, hz, rfl⟩ := e
          have ha := (cL_ok hr h hz).1
          obtain ⟨hn, u, v, hu, hv, rfl⟩ := cL_cons hz
          obtain ⟨hn2, u2, v2, hu2, hv2, rfl⟩ := cL_cons hv
          cases hv2
          exact i_rng2 h.toCOk g1 (h.bn _ (by decide +kernel)) ha (by rw [star_cons hn, star_cons hn2]; rfl) (star_cons hn2)
        · cases e
      · cases e
    · split at e
      · rename_i hf
        subst hf
        split at e
        · rename_i hg
          obtain ⟨g1, g2⟩ := h.glo hg
          split at e
          · rename_i y
            split at e
            · rename_i hn
              simp only [Option.map_eq_some_iff] at e
              obtain ⟨z, hz, rfl⟩ := e
              have ha : PA X [y] (tA c (.cons z .nil)) := a_cons h.toCOk (hr C y z hz X c n h).1 (a_nil h.toCOk) (star_cons hn)
              exact i_enu h.toCOk g1 (h.bn _ (by decide +kernel)) ha (star_cons hn)
            · cases e
          · cases e
        · cases e
      · split at e
        · rename_i hf
          subst hf
          split at e
          · rename_i hg
            obtain ⟨g1, g2⟩ := h.glo hg
            split at e
            · rename_i y z
              split at e
              · rename_i hn
                rw [Bool.and_eq_true] at hn
                split at e
                · rename_i u v hu hv
                  cases e
                  have ha : PA X [y, z] (tA c (.cons u (.cons v .nil))) := a_cons h.toCOk (hr C y u hu X c n h).1 (a_cons h.toCOk (hr C z v hv X c n h).1 (a_nil h.toCOk) (star_cons hn.2)) (star_cons hn.1)
                  exact i_zip h.toCOk g1 (h.bn _ (by decide +kernel)) ha (star_cons hn.1) (star_plain (by simp [hn.2]))
                · cases e
              · cases e
            · cases e
          · cases e
        · simp only [Option.map_eq_some_iff] at e
          obtain ⟨z, hz, rfl⟩ := e
          exact i_any h.toCOk (hr C _ z hz X c n h).1
  · split at e
    · rename_i hs
      simp only [Option.map_eq_some_iff] at e
      obtain ⟨z, hz, rfl⟩ := e
      exact ⟨i_any h.toCOk (hr C _ z hz X c n h).1, fold_ok hs⟩
    · cases e
/-- a plain one: as a test by its truth -/
theorem both {e : Expr} {a : E} (he : PE X e (tD c a)) (hp : plainT e = true) : PE X e (tD c a) ∧ PT X e (tT c a) :=
  ⟨he, t_truth h.toCOk he (isTrue_of hp)⟩
theorem lc_ok {elt : Expr} {gens : List Comprehension} {scope : Scope} {pos : Pos} {a : E} (e : cLC r C elt gens scope = some a) : PE X (.ListComp elt gens scope pos) (tD c a) := by
  unfold cLC at e
  split at e
  · rename_i hb
    have bo := blkOk_by hb
    rw [← h.N, ← h.sc] at bo
    have hk := bo.kind
    simp only at e
    split at e
    · rename_i tg it ifs
      split at e
      · rename_i t i cs x ht hi hc hx
        split at e
        · rename_i hs
          cases e
          obtain ⟨q1, q2⟩ := cI_ok hr h hi
          refine d_lc h.toCOk (fun j hj => by simpa using List.all_eq_true.mp hs j hj) q1 bo (fun s H Cl cl fp => cT_ok (h.blk scope hk s H Cl cl fp) ht) (fun s H Cl cl fp => cIf_ok hr (h.blk scope hk s H Cl cl fp) hc)
            (fun s H Cl cl fp => (hr _ _ _ hx _ _ _ (h.blk scope hk s H Cl cl fp)).1) (q2 _)
        · cases e
      · cases e
    · rename_i tg it ifs tg1 it1 ifs1
      split at e
      · rename_i t i cs x ht hi hc hx
        split at e
        · rename_i t1 i1 cs1 ht1 hi1 hc1
          split at e
          · rename_i hs
            rw [Bool.and_eq_true] at hs
            cases e
            obtain ⟨q1, q2⟩ := cI_ok hr h hi
            have q3 : ∀ env v, foldedSetIterable it1 env v = pure v := cI_fold hi1
            refine d_lc2 h.toCOk (fun j hj => by simpa using List.all_eq_true.mp hs.1 j hj) (fun j hj => hj) q1 bo (fun j hj => by simpa using List.all_eq_true.mp hs.2 j hj) (fun s H Cl cl fp => cT_ok (h.blk scope hk s H Cl cl fp) ht) (fun s H Cl cl fp => cIf_ok hr (h.blk scope hk s H Cl cl fp) hc)
              (fun s H Cl cl fp => (cI_ok hr (h.blk scope hk s H Cl cl fp) hi1).1) (fun s H Cl cl fp => cT_ok (h.blk scope hk s H Cl cl fp) ht1) (fun s H Cl cl fp => cIf_ok hr (h.blk scope hk s H Cl cl fp) hc1)
              (fun s H Cl cl fp => (hr _ _ _ hx _ _ _ (h.blk scope hk s H Cl cl fp)).1) (q2 _) q3
          · cases e
        · cases e
      · cases e
    · cases e
  · cases e
theorem cmp_ok {x : Expr} {ops : List CmpOp} {bs : List Expr} {pos : Pos} {a : E} (e : cCmp (r C) x ops bs = some a) : PE X (.Compare x ops bs pos) (tD c a) ∧ PT X (.Compare x ops bs pos) (tT c a) := by
  unfold cCmp at e
  split at e
  · simp only [Option.map_eq_some_iff] at e
    obtain ⟨y, hy, rfl⟩ := e
    have q := (hr C x y hy X c n h).1
    exact ⟨d_isn h.toCOk q, t_isn h.toCOk q⟩
  · simp only [Option.map_eq_some_iff] at e
    obtain ⟨y, hy, rfl⟩ := e
    have q := (hr C x y hy X c n h).1
    exact ⟨d_nsn h.toCOk q, t_nsn h.toCOk q⟩
  · split at e
    · rename_i hm
      split at e
      · rename_i u v hu hv
        cases e
        have q := (hr C x u hu X c n h).1
        have q2 := (hr C _ v hv X c n h).1
        exact ⟨d_cmp h.toCOk q q2 hm, t_cmp h.toCOk q q2 hm⟩
      · cases e
    · cases e
  · split at e
    · rename_i hm
      split at e
      · rename_i u v w hu hv hw
        cases e
        have q := (hr C x u hu X c n h).1
        have q2 := (hr C _ v hv X c n h).1
        have q3 := (hr C _ w hw X c n h).1
        exact ⟨d_chn h.toCOk q q2 q3 hm, t_chn h.toCOk q q2 q3 hm⟩
      · cases e
    · cases e
  · cases e
theorem sub_ok {x s : Expr} {pos : Pos} {a : E} (e : cSub (r C) x s = some a) : PE X (.Subscript x s pos) (tD c a) := by
  unfold cSub at e
  split at e
  · simp only [Option.map_eq_some_iff] at e
    obtain ⟨y, hy, rfl⟩ := e
    exact d_rev h.toCOk (hr C x y hy X c n h).1
  · split at e
    · rename_i u v w hu hv hw
      cases e
      exact d_sl h.toCOk (hr C x u hu X c n h).1 (cO_ok hr h hv) (cO_ok hr h hw)
    · cases e
  · split at e
    · rename_i hs
      split at e
      · rename_i u v hu hv
        cases e
        refine d_ix h.toCOk (hr C x u hu X c n h).1 (hr C _ v hv X c n h).1 (plainIx_of ?_)
        cases s <;> first | rfl | cases hs
      · cases e
    · cases e
theorem isi_ok {args : List Expr} {p pos : Pos} {a : E} (hg : glob C "isinstance" = true) (e : cIsi (r C) C args = some a) : PE X (.Call (.Name "isinstance" p) args [] pos) (tD c a) := by
  unfold cIsi at e
  split at e
  · rename_i y t pt
    split at e
    · rename_i hn
      split at e
      · rename_i u tn hu ht
        cases e
        have q := (hr C y u hu X c n h).1
        obtain ⟨g1, g2⟩ := h.glo hn.2
        obtain ⟨g3, g4⟩ := h.glo hg
        have key : ∃ cv, PE X (.Name t pt) (fun _ H Q => Q cv H) ∧ ClsT c.W cv tn := by
          unfold tnOf at ht
          split at ht
          · rename_i nn hl
            cases ht
            have hm := mem_of_lk hl
            obtain ⟨n', hn', e⟩ := List.mem_map.mp hm
            simp only [Prod.mk.injEq] at e
            obtain ⟨e1, e2⟩ := e
            subst e1
            subst e2
            have hb : Str.ofString n' ∈ bnList := by
              have : ∀ n ∈ sixT, Str.ofString n ∈ bnList := by decide +kernel
              exact this n' hn'
            exact ⟨_, e_clsB h.toCOk hn' g1 (h.bn _ hb), hn', rfl⟩
          · split at ht
            · rename_i hc
              cases ht
              obtain ⟨k1, Cl, k2⟩ := h.cn t hc
              exact ⟨_, e_clsO h.toCOk g1 (by rw [h.mg]; exact k2) g2, k1, Cl, k2, rfl⟩
            · cases ht
        obtain ⟨cv, k1, k2⟩ := key
        exact d_isi h.toCOk q k1 k2 g3 (h.bn _ (by decide +kernel)) (star_cons hn.1) (star_cons rfl) rfl
      · cases e
    · cases e
  · cases e
theorem rep_ok {args : List Expr} {p pos : Pos} {a : E} (hg : glob C "repr" = true) (e : cRep (r C) C args = some a) : PE X (.Call (.Name "repr" p) args [] pos) (tD c a) := by
  unfold cRep at e
  split at e
  · rename_i y
    split at e
    · rename_i hn
      simp only [Option.map_eq_some_iff] at e
      obtain ⟨u, hu, rfl⟩ := e
      obtain ⟨g1, g2⟩ := h.glo hg
      have ha : PA X [y] (tA c (.cons u .nil)) := a_cons h.toCOk (hr C y u hu X c n h).1 (a_nil h.toCOk) (star_cons hn)
      exact d_bltB h.toCOk (b_repr h.toCOk h.rp) g1 (h.bn _ (by decide +kernel)) (by decide +kernel) ha (by decide +kernel) g2 (star_cons hn) rfl
    · cases e
  · cases e
theorem bb_ok {f : Str} {b : Bi} {ty : Bool} {id : String} {args : List Expr} {p pos : Pos} {a : E} (hg : glob C f = true) (hl : biList.lookup f = some (b, ty, id)) (e : cBb (r C) b args = some a) : PE X (.Call (.Name f p) args [] pos) (tD c a) := by
  unfold cBb at e
  split at e
  · cases e
  · simp only [Option.map_eq_some_iff] at e
    obtain ⟨u, hu, rfl⟩ := e
    obtain ⟨k1, k2, k3, k4, k5⟩ := bi_ok h.toCOk hl
    obtain ⟨g1, g2⟩ := h.glo hg
    have ha := (cL_ok hr h hu).1
    have st := cL_star hu
    cases args with
    | nil => rename_i z; exact absurd rfl z
    | cons y ys =>
      rw [List.all_cons, Bool.and_eq_true] at st
      cases ty
      · obtain ⟨q1, q2⟩ := k1 rfl
        exact d_bltB h.toCOk q1 g1 (h.bn _ k5) q2 ha k3 k4 (star_cons st.1) (star_plain st.2)
      · obtain ⟨q1, q2⟩ := k2 rfl
        exact d_bltT h.toCOk q1 g1 (h.bn _ k5) q2 ha k3 k4 (star_cons st.1) (star_plain st.2)
theorem set_ok {args : List Expr} {p pos : Pos} {a : E} (hg : glob C "len" = true) (e : cSet (r C) C args = some a) : PE X (.Call (.Name "len" p) args [] pos) (tD c a) := by
  unfold cSet at e
  split at e
  · rename_i g p2 y q
    split at e
    · rename_i hn
      simp only [Option.map_eq_some_iff] at e
      obtain ⟨u, hu, rfl⟩ := e
      obtain ⟨rfl, hg2, hs⟩ := hn
      exact d_lset h.toCOk (h.glo hg).1 (h.bn _ (by decide +kernel)) (h.glo hg2).1 (h.bn _ (by decide +kernel)) (hr C y u hu X c n h).1 (star_cons hs)
    · cases e
  · cases e
theorem blt_ok {f : Str} {args : List Expr} {p pos : Pos} {a : E} (hg : glob C f = true) (e : cBlt (r C) C f args = some a) : PE X (.Call (.Name f p) args [] pos) (tD c a) := by
  unfold cBlt at e
  split at e
  · rename_i hf; subst hf; exact isi_ok hr h hg e
  · split at e
    · rename_i hf; subst hf; exact rep_ok hr h hg e
    · split at e
      · rename_i b rest hl
        obtain ⟨ty, id⟩ := rest
        split at e
        · rename_i hb
          split at e
          · rename_i x hx
            cases e
            have : f = "len" := by
              have hm := mem_of_lk hl
              subst hb
              simp only [biList, List.mem_cons, Prod.mk.injEq, List.not_mem_nil, or_false, reduceCtorEq, false_and, and_false] at hm
              exact hm.1
            subst this
            exact set_ok hr h hg hx
          · exact bb_ok hr h hg hl e
        · exact bb_ok hr h hg hl e
      · cases e
theorem pos_ok {f : Str} {args : List Expr} {p pos : Pos} {a : E} (e : cPos (r C) C f args = some a) : PE X (.Call (.Name f p) args [] pos) (tD c a) := by
  unfold cPos at e
  split at e
  · cases e
  · rename_i hg
    have hg : glob C f = true := by simpa using hg
    obtain ⟨g1, g2⟩ := h.glo hg
    split at e
    · rename_i ps hs
      simp only [Option.map_eq_some_iff] at e
      obtain ⟨u, hu, rfl⟩ := e
      have ha := (cL_ok hr h hu).1
      have st := cL_star hu
      cases args with
      | nil =>
        cases hu
        exact d_call0 h.toCOk h.hΦ h.gok h.rp h.room hs g1 g2
      | cons y ys =>
        rw [List.all_cons, Bool.and_eq_true] at st
        exact d_call h.toCOk h.hΦ h.gok h.rp h.room hs g1 ha g2 (star_cons st.1) (star_plain st.2)
    · split at e
      · rename_i fd hf
        split at e
        · cases e
        · split at e
          · rename_i hI
            simp only [Option.map_eq_some_iff] at e
            obtain ⟨u, hu, rfl⟩ := e
            have ha := (cL_ok hr h hu).1
            have st := cL_star hu
            cases args with
            | nil => exact absurd rfl (by assumption)
            | cons y ys =>
              rw [List.all_cons, Bool.and_eq_true] at st
              exact d_new h.toCOk h.hΦ h.gok h.rp h.room hf hI g1 ha g2 (star_cons st.1) (star_plain st.2)
          · cases e
      · exact blt_ok hr h hg e
theorem kw_ok {f : Str} {kws : List Keyword} {p pos : Pos} {a : E} (e : cKw (r C) C f kws = some a) : PE X (.Call (.Name f p) [] kws pos) (tD c a) := by
  unfold cKw at e
  split at e
  · rename_i hg
    obtain ⟨g1, g2⟩ := h.glo hg
    split at e
    · rename_i ps u ks hs hu
      split at e
      · rename_i hk
        cases e
        obtain ⟨q1, q2⟩ := cK_ok hr h hu
        obtain ⟨z1, z2, z3⟩ := q2 pos
        exact d_callK h.toCOk h.hΦ h.gok h.rp h.room hs hk g1 q1 z1 z2 g2 (by rw [z3]; rfl)
      · cases e
    · cases e
  · cases e
theorem get_ok {o : Expr} {m : Str} {args : List Expr} {apos pos : Pos} {a : E} (e : cGet (r C) o m apos args pos = some a) : PE X (.Call (.Attribute o m apos) args [] pos) (tD c a) := by
  unfold cGet at e
  split at e
  · rename_i y z
    split at e
    · rename_i hn
      obtain ⟨rfl, hb, h1, h2, hl⟩ := hn
      split at e
      · rename_i u v w hu hv hw
        cases e
        have ha : PA X [y, z] (tA c (.cons v (.cons w .nil))) := a_cons h.toCOk (hr C y v hv X c n h).1 (a_cons h.toCOk (hr C z w hw X c n h).1 (a_nil h.toCOk) (star_cons h2)) (star_cons h1)
        have hst : starEach [y, z] X.env = (false, eval y X.env) :: (false, eval z X.env) :: starEach [] X.env := by rw [star_cons h1, star_cons h2]
        refine d_get h.toCOk (hr C o u hu X c n h).1 ha ⟨?_, ?_, hl, ?_⟩ hst
        · refine plainBase ?_
          cases o <;> first | rfl | skip
          rename_i f as ks p
          cases f <;> first | rfl | skip
          cases as <;> first | rfl | skip
          cases ks <;> first | rfl | cases hb
        · rw [hst]; rfl
        · rw [hst]; rfl
      · cases e
    · cases e
  · cases e
theorem call_ok {f : Expr} {args : List Expr} {kws : List Keyword} {pos : Pos} {a : E} (e : cCall (r C) C f args kws pos = some a) : PE X (.Call f args kws pos) (tD c a) := by
  unfold cCall at e
  split at e
  · split at e
    · exact pos_ok hr h e
    · split at e
      · exact kw_ok hr h e
      · cases e
  · split at e
    · exact get_ok hr h e
    · cases e
  · cases e
theorem cE1_ok {x : Expr} {a : E} (e : cE1 r C x = some a) : PE X x (tD c a) ∧ PT X x (tT c a) := by
  unfold cE1 at e
  split at e
  · refine both hr h ?_ rfl
    split at e
    · cases e; exact d_none h.toCOk
    · cases e; exact d_bool h.toCOk
    · cases e; exact d_int h.toCOk
    · cases e; exact d_str h.toCOk
    · cases e
  · refine both hr h ?_ rfl
    split at e
    · rename_i i hs
      cases e
      obtain ⟨q1, q2, q3, q4⟩ := h.slot hs
      exact d_var h.toCOk q1 q2 q3 q4
    · split at e
      · rename_i hg
        cases e
        obtain ⟨g1, g2⟩ := h.glo hg
        exact d_glob h.toCOk g1 g2
      · cases e
  · split at e
    · rename_i u v hu hv
      cases e
      exact both hr h (d_bin h.toCOk (hr C _ u hu X c n h).1 (hr C _ v hv X c n h).1) rfl
    · cases e
  · split at e
    · simp only [Option.map_eq_some_iff] at e
      obtain ⟨u, hu, rfl⟩ := e
      exact both hr h (d_neg h.toCOk (hr C _ u hu X c n h).1) rfl
    · simp only [Option.map_eq_some_iff] at e
      obtain ⟨u, hu, rfl⟩ := e
      obtain ⟨q1, q2⟩ := hr C _ u hu X c n h
      exact ⟨d_not h.toCOk q1, t_not h.toCOk q2⟩
    · cases e
  · obtain ⟨q1, q2⟩ := cB_ok hr h e
    exact ⟨q1, q2.pt⟩
  · split at e
    · rename_i u v w hu hv hw
      cases e
      obtain ⟨q1, q2⟩ := hr C _ u hu X c n h
      obtain ⟨q3, q4⟩ := hr C _ v hv X c n h
      obtain ⟨q5, q6⟩ := hr C _ w hw X c n h
      exact ⟨d_ife h.toCOk q2 q3 q5, t_ife h.toCOk q2 q4 q6⟩
    · cases e
  · exact cmp_ok hr h e
  · simp only [Option.map_eq_some_iff] at e
    obtain ⟨u, hu, rfl⟩ := e
    exact both hr h (d_tup h.toCOk (cL_ok hr h hu).1) rfl
  · simp only [Option.map_eq_some_iff] at e
    obtain ⟨u, hu, rfl⟩ := e
    exact both hr h (d_lst h.toCOk (cL_ok hr h hu).1) rfl
  · split at e
    · rename_i hc
      obtain ⟨rfl, rfl⟩ := hc
      cases e
      exact both hr h (d_dnew h.toCOk) rfl
    · rename_i ks vs _ hc
      split at e
      · rename_i hl
        simp only [Option.map_eq_some_iff] at e
        obtain ⟨u, hu, rfl⟩ := e
        have kv := cD_ok hr h hu
        refine both hr h (d_disp h.toCOk kv hl fun z => ?_) rfl
        subst z
        cases kv
        exact hc ⟨rfl, rfl⟩
      · cases e
  · split at e
    · rename_i hb
      simp only [Option.map_eq_some_iff] at e
      obtain ⟨u, hu, rfl⟩ := e
      refine both hr h (d_fld h.toCOk (hr C _ u hu X c n h).1 (plainBase ?_)) rfl
      rename_i o _ _
      cases o <;> first | rfl | skip
      rename_i f as ks p
      cases f <;> first | rfl | skip
      cases as <;> first | rfl | skip
      cases ks <;> first | rfl | cases hb
    · cases e
  · exact both hr h (sub_ok hr h e) rfl
  · exact both hr h (lc_ok hr h e) rfl
  · exact both hr h (call_ok hr h e) rfl
  · cases e
end
theorem cE_ok : ∀ k, Good (cE k)
  | 0 => fun C e E h => by cases h
  | k + 1 => fun C e E he X c n h => cE1_ok (cE_ok k) h he
end Lk
set_option autoImplicit false
set_option linter.all false
set_option maxRecDepth 10000
namespace Lk
open PySem PySem.Spec PyProof.Rows L2
theorem swf {e : Expr} (h : noComp e = true) (t : Option Expr) (l : Nat) (env : Env) : swapsWith e t l env = pure false := by
  cases e <;> first | rfl | cases h
section
variable {X : Cx} {c : Ct} {C : Cc} {n : Nat} (h : XC X c C n) (so : SOk X c)
theorem nofn (h : XC X c C n) : X.env.blockKind = .function := by
  unfold Env.blockKind
  rw [h.sc, h.sk]; rfl
theorem sw_lc (h : XC X c C n) {elt : Expr} {gens : List Comprehension} {scope : Scope} {lp px : Pos} {x : Str} (l : Nat) : swapsWith (.ListComp elt gens scope lp) (some (.Name x px)) l X.env = pure (lcSwap C x px scope lp) := by
  show pure (X.env.blockKind == .function && X.env.kindOf x == some .local && px.line == lp.line && !(scope.names.any fun (n, k) => n == x && (k == .local || k == .cell))) = _
  rw [nofn h]
  unfold lcSwap
  have : (X.env.kindOf x == some NameKind.local) = (match C.sc.names.lookup x with | some .local => true | _ => false) := by
    unfold Env.kindOf
    rw [h.sc]
    cases C.sc.names.lookup x with
    | none => rfl
    | some k => cases k <;> rfl
  rw [this]
  rfl
include h so
theorem frzs_ok {st : Stmt} {s : S} (hs : PS X st (tS c s)) : ∀ us, PS X st (tS c (frzs C us s))
  | [] => hs
  | u :: us => by
    unfold frzs
    split
    · split
      · exact s_lck so (frzs_ok hs us)
      · exact s_frz so (frzs_ok hs us)
    · exact frzs_ok hs us
theorem cSs_ok {rs : Stmt → Option S} (hrs : ∀ s S, rs s = some S → PS X s (tS c S)) : ∀ {ss : List Stmt} {S : S}, cSs rs ss = some S → PSs X ss (tS c S)
  | [], _, e => by cases e; exact s_skip so
  | s :: ss, _, e => by
    unfold cSs at e
    split at e
    · rename_i a b ha hb
      cases e
      exact ss_cons so (hrs s a ha) (cSs_ok hrs hb)
    · cases e
/-- name = [..], by the value's reading -/
theorem asg_lc {k : Nat} {elt : Expr} {gens : List Comprehension} {scope : Scope} {lp px pos : Pos} {x : Str} {i : Nat} {a : E} (hi : tgtOf C x = some i) (e : cE (k + 1) C (.ListComp elt gens scope lp) = some a) :
    PS X (.Assign [.Name x px] (.ListComp elt gens scope lp) pos) (tS c (.set i a)) ∧ PS X (.Assign [.Name x px] (.ListComp elt gens scope lp) pos) (tS c (.own i a)) := by
  obtain ⟨t1, t2, t3⟩ := h.tgt hi
  have hr := cE_ok k
  by_cases hsw : lcSwap C x px scope lp = true
  · have hsw2 : swapsWith (.ListComp elt gens scope lp) (some (.Name x px)) pos.line X.env = pure true := by rw [sw_lc h, hsw]
    have hloc : X.env.scope.names.lookup x = some .local := by
      unfold lcSwap at hsw
      rw [Bool.and_eq_true, Bool.and_eq_true] at hsw
      have := hsw.1.1
      split at this
      · rename_i q; rw [h.sc]; exact q
      · cases this
    have e : cLC (cE k) C elt gens scope = some a := e
    unfold cLC at e
    split at e
    · rename_i hb
      have bo := blkOk_by hb
      rw [← h.N, ← h.sc] at bo
      have hk := bo.kind
      simp only at e
      split at e
      · rename_i tg it ifs
        split at e
        · rename_i t ei cs ex ht hit hc hx
          split at e
          · rename_i hs
            cases e
            have sub : ∀ j ∈ t.ix, j ∈ (ownOf C scope).map (·.2) := fun j hj => by simpa using List.all_eq_true.mp hs j hj
            obtain ⟨q1, q2⟩ := cI_ok hr h hit
            have ps := ps_setLc (X := X) (g := gT X.K t) (i := i) (y := x) (py := px) (spos := pos) h.calm h.nd t1 hloc hsw2 q1 bo (fun s H Cl cl fp => cT_ok (h.blk scope hk s H Cl cl fp) ht) (fun s H Cl cl fp => cIf_ok hr (h.blk scope hk s H Cl cl fp) hc)
              (fun s H Cl cl fp => (hr _ _ _ hx _ _ _ (h.blk scope hk s H Cl cl fp)).1) (q2 _)
            exact ⟨ps.imp fun D σ H z => lc1 h.mono sub h.K (set_in so z), ps.imp fun D σ H z => lc1 h.mono sub h.K (own_in so z)⟩
          · cases e
        · cases e
      · rename_i tg it ifs tg1 it1 ifs1
        split at e
        · rename_i t ei cs ex ht hit hc hx
          split at e
          · rename_i t1' ei1 cs1 ht1 hit1 hc1
            split at e
            · rename_i hs
              rw [Bool.and_eq_true] at hs
              cases e
              have sub : ∀ j ∈ t.ix, j ∈ (ownOf C scope).map (·.2) := fun j hj => by simpa using List.all_eq_true.mp hs.1 j hj
              obtain ⟨q1, q2⟩ := cI_ok hr h hit
              have ps := ps_setLc2 (X := X) (g := gT X.K t) (g1 := gT X.K t1') (i := i) (y := x) (py := px) (spos := pos) (vs1 := t1'.ix) h.calm h.nd t1 hloc hsw2 q1 bo (fun j hj => by simpa using List.all_eq_true.mp hs.2 j hj) (fun s H Cl cl fp => cT_ok (h.blk scope hk s H Cl cl fp) ht) (fun s H Cl cl fp => cIf_ok hr (h.blk scope hk s H Cl cl fp) hc)
                (fun s H Cl cl fp => (cI_ok hr (h.blk scope hk s H Cl cl fp) hit1).1) (fun s H Cl cl fp => cT_ok (h.blk scope hk s H Cl cl fp) ht1) (fun s H Cl cl fp => cIf_ok hr (h.blk scope hk s H Cl cl fp) hc1)
                (fun s H Cl cl fp => (hr _ _ _ hx _ _ _ (h.blk scope hk s H Cl cl fp)).1) (q2 _) (cI_fold hit1)
              exact ⟨ps.imp fun D σ H z => lc2 h.mono sub (fun j hj => hj) h.K (set_in so z), ps.imp fun D σ H z => lc2 h.mono sub (fun j hj => hj) h.K (own_in so z)⟩
            · cases e
          · cases e
        · cases e
      · cases e
    · cases e
  · have hsw2 : swapsWith (.ListComp elt gens scope lp) (some (.Name x px)) pos.line X.env = pure false := by rw [sw_lc h]; simp at hsw; rw [hsw]
    have q := (cE_ok (k + 1) _ _ _ e X c n h).1
    exact ⟨s_set so t1 t2 q hsw2 t3, s_own so t1 t2 q hsw2 t3⟩
theorem asg_ok {v : Expr} {px pos : Pos} {x : Str} {i : Nat} {a : E} (hi : tgtOf C x = some i) (hv : PE X v (tD c a)) (hc : noComp v = true) : PS X (.Assign [.Name x px] v pos) (tS c (asgN C i a)) := by
  obtain ⟨t1, t2, t3⟩ := h.tgt hi
  unfold asgN
  refine frzs_ok h so ?_ _
  split
  · exact s_own so t1 t2 hv (swf hc _ _ _) t3
  · exact s_set so t1 t2 hv (swf hc _ _ _) t3
end
/-! ### swapped stores -/
theorem locAll_cons {C : Cc} {x : Str} {p : Pos} {r : List Expr} (h : locAll C (.Name x p :: r) = true) : C.sc.names.lookup x = some .local ∧ locAll C r = true := by
  unfold locAll at h
  rw [Bool.and_eq_true] at h
  refine ⟨?_, h.2⟩
  have := h.1
  split at this
  · assumption
  · cases this
theorem star_any {vs : List Expr} (h : vs.all noStar = true) : (vs.any fun | .Starred .. => true | _ => false) = false := by
  induction vs with
  | nil => rfl
  | cons e es ih =>
    rw [List.all_cons, Bool.and_eq_true] at h
    rw [List.any_cons, ih h.2]
    cases e <;> first | rfl | (have := h.1; cases this)
section
variable {X : Cx} {c : Ct} {C : Cc} {n : Nat} (h : XC X c C n)
include h
theorem sw2_ok {x y : Str} {px py pt pt2 : Pos} {kt k2 : Nat} {a b : Expr} (hp : parOk C [.Name x px, .Name y py] [a, b] = true) (hxy : x ≠ y) : swappedStores [.Tuple [.Name x px, .Name y py] kt pt] (.Tuple [a, b] k2 pt2) X.env = pure (some [x, y]) := by
  unfold parOk at hp
  simp only [Bool.and_eq_true, Bool.not_eq_true'] at hp
  obtain ⟨⟨⟨⟨⟨h1, h2⟩, h3⟩, h4⟩, h5⟩, h6⟩ := hp
  obtain ⟨l1, h2⟩ := locAll_cons h2
  obtain ⟨l2, _⟩ := locAll_cons h2
  rw [← h.sc] at l1 l2
  have e1 : py.line = px.line := by
    simp only [linesEq, Bool.and_true, Bool.and_eq_true, beq_iff_eq] at h1
    exact h1.2
  have k1 : X.env.kindOf x = some .local := l1
  have k2 : X.env.kindOf y = some .local := l2
  have hst := star_any h3
  unfold swappedStores
  simp [nofn h, hst, e1, k1, k2, h4, h5, Expr.pos, List.eraseDups_cons, hxy, Ne.symm hxy]
  simp only [List.all_cons, List.all_nil, Bool.and_true, Bool.and_eq_true] at h3
  intro z
  exfalso
  rcases z with z | z
  · cases a <;> first | (cases z; done) | (have q := h3.1; cases q; done)
  · cases b <;> first | (cases z; done) | (have q := h3.2; cases q; done)
theorem sw3_ok {x y w : Str} {px py pw pt pt2 : Pos} {kt k2 : Nat} {a b d : Expr} (hp : parOk C [.Name x px, .Name y py, .Name w pw] [a, b, d] = true) (hxy : x ≠ y) (hxw : x ≠ w) (hyw : y ≠ w) : swappedStores [.Tuple [.Name x px, .Name y py, .Name w pw] kt pt] (.Tuple [a, b, d] k2 pt2) X.env = pure (some [x, y, w]) := by
  unfold parOk at hp
  simp only [Bool.and_eq_true, Bool.not_eq_true'] at hp
  obtain ⟨⟨⟨⟨⟨h1, h2⟩, h3⟩, h4⟩, h5⟩, h6⟩ := hp
  obtain ⟨l1, h2⟩ := locAll_cons h2
  obtain ⟨l2, h2⟩ := locAll_cons h2
  obtain ⟨l3, _⟩ := locAll_cons h2
  rw [← h.sc] at l1 l2 l3
  have e12 : py.line = px.line ∧ pw.line = px.line := by
    simp only [linesEq, Bool.and_true, Bool.and_eq_true, beq_iff_eq] at h1
    exact ⟨h1.2.1, h1.2.2⟩
  obtain ⟨e1, e2⟩ := e12
  have k1 : X.env.kindOf x = some .local := l1
  have k2 : X.env.kindOf y = some .local := l2
  have k3 : X.env.kindOf w = some .local := l3
  unfold swappedStores
  simp [nofn h, e1, e2, k1, k2, k3, h4, h5, Expr.pos, List.eraseDups_cons, hxy, Ne.symm hxy, hxw, Ne.symm hxw, hyw, Ne.symm hyw]
  simp only [List.all_cons, List.all_nil, Bool.and_true, Bool.and_eq_true] at h3
  intro z
  exfalso
  rcases z with z | z | z
  · cases a <;> first | (cases z; done) | (have q := h3.1; cases q; done)
  · cases b <;> first | (cases z; done) | (have q := h3.2.1; cases q; done)
  · cases d <;> first | (cases z; done) | (have q := h3.2.2; cases q; done)
omit h in
theorem sw_none {es vs : List Expr} {kt k2 : Nat} {pt pt2 : Pos} {env : Env} (hc : (es.length ≠ 2 ∧ es.length ≠ 3) ∨ (vs.all (foldedForSure 8) = true ∧ vs.all noStar = true)) : swappedStores [.Tuple es kt pt] (.Tuple vs k2 pt2) env = pure none := by
  unfold swappedStores
  rcases hc with ⟨h1, h2⟩ | ⟨h1, h2⟩
  · simp [h1, h2]
  · have hst := star_any h2
    simp only [pure_bind, hst, h1]
    split
    · rfl
    · simp
      repeat (first | rfl | split)
omit h in
theorem sw_none2 {es : List Expr} {kt : Nat} {pt : Pos} {env : Env} {v : Expr} (hv : noTup v = true) : swappedStores [.Tuple es kt pt] v env = pure none := by
  cases v <;> first | rfl | cases hv
omit h in
theorem sw_none1 {t : Expr} {env : Env} {v : Expr} (ht : noTup t = true ∧ (match t with | .List _ _ => false | _ => true) = true) : swappedStores [t] v env = pure none := by
  cases t <;> first | rfl | (cases ht.1; done) | (cases ht.2; done) | skip
end
end Lk
set_option autoImplicit false
set_option linter.all false
set_option maxRecDepth 10000
namespace Lk
open PySem PySem.Spec PyProof.Rows L2
section
variable {X : Cx} {c : Ct} {C : Cc} {n : Nat} (h : XC X c C n) (so : SOk X c)
include h so
/-- raise C('..') -/
theorem s_rse {k : Str} {m : Str} {j : Nat} {p p2 pos' pos : Pos} (hg : glob C k = true) (hk : k ∈ C.ex) : PS X (.Raise (some (.Call (.Name k p) [.Constant (.str m) j p2] [] pos')) none pos) (tS c (.rse k none .nil)) := by
  obtain ⟨Cl, h1, h2, h3, h4, h5⟩ := h.ex k hk
  have h1' := h1
  obtain ⟨g1, g2⟩ := h.glo hg
  rw [← h.K] at h2 h3 h4 h5
  rw [← h.mg] at h1
  refine (ps_raise h.calm h.takes (pmk_own F.excBase_ValueError h2 h1 h3 (raises_own h4 h5) g1 g2)).imp fun D σ H ⟨G, ρ, t, st, sr, z⟩ => ?_
  simp only [exs, evs] at z
  exact so.xok t k [] z.2 _ _ σ H G st sr.tl ⟨Cl, rfl, h1', .inl ⟨rfl, rfl⟩⟩
theorem m_ok {k : Nat} {x m : Str} {y : Expr} {p1 apos cpos pos : Pos} {a : E} {s : S} (hm : m = "append" ∨ m = "extend") {i : Nat} (hi : slotOf C x = some i) (hn : noStar y = true) (hl : (apos.endLine == cpos.line) = true) (hy : cE k C y = some a) (hs : s = if m = "append" then .app i a else .ext i a) :
    PS X (.Expr (.Call (.Attribute (.Name x p1) m apos) [y] [] cpos) pos) (tS c s) := by
  obtain ⟨q1, q2, q3, q4⟩ := h.slot hi
  have q := (cE_ok k C y a hy X c n h).1
  have hst := star_cons (es := []) (env := X.env) hn
  have few : ((backTo cpos (starEach [y] X.env)).all (fun x => !x.1) && (backToKw cpos (keywordEach [] X.env)).all (fun x => x.1.isSome) && decide (([y] : List Expr).length + ([] : List Keyword).length + (if ([] : List Keyword).isEmpty then 0 else 1) < 30)) = true := by
    rw [hst]; rfl
  rcases hm with rfl | rfl
  · rw [if_pos rfl] at hs
    subst hs
    exact s_app so q1 q2 q3 q4 q few hl hst rfl
  · rw [if_neg (by decide)] at hs
    subst hs
    exact s_ext so q1 q2 q3 q4 q few hl hst rfl
theorem ex_ok {k : Nat} {e : Expr} {pos : Pos} {s : S} (hc : noComp e = true) (he : (cE k C e).map (fun y => frzs C (nU y) (.ex y)) = some s) : PS X (.Expr e pos) (tS c s) := by
  simp only [Option.map_eq_some_iff] at he
  obtain ⟨y, hy, rfl⟩ := he
  exact frzs_ok h so (s_ex so (cE_ok k C e y hy X c n h).1 (swf hc _ _ _)) _
theorem par_ok {k : Nat} {es vs : List Expr} {kt k2 : Nat} {tp tp2 pos : Pos} {is : List Nat} {y : E} (hp : parOk C es vs = true) (hlen : es.length = 2 ∨ es.length = 3) (hs : slots C es = some is) (hv : cL (cE k C) vs = some y) :
    PS X (.Assign [.Tuple es kt tp] (.Tuple vs k2 tp2) pos) (tS c (.par (is.map fun i => (i, decide (i ∈ C.own))) y)) := by
  have hpa := (cL_ok (cE_ok k) h hv).2
  have hle := cL_len hv
  have hp' := hp
  have loc : locAll C es = true ∧ (es.length == vs.length) = true := by
    unfold parOk at hp'
    split at hp'
    · simp only [Bool.and_eq_true] at hp'
      exact ⟨hp'.1.1.1.1.2, hp'.2⟩
    · cases hp'
  obtain ⟨loc, leq⟩ := loc
  have leq : es.length = vs.length := by simpa using leq
  match es, vs, hlen, leq, hs, loc, hp, hpa, hle with
  | [e1, e2], [v1, v2], hl1, hl2, hs, loc, hp, hpa, hle =>
    cases e1 <;> first | (simp [slots] at hs; done) | skip
    rename_i x px
    cases e2 <;> first | (simp [slots] at hs; done) | skip
    rename_i z pz
    obtain ⟨l1, loc⟩ := locAll_cons loc
    obtain ⟨l2, _⟩ := locAll_cons loc
    simp only [slots] at hs
    split at hs
    · rename_i i is' hi his
      split at his
      · rename_i j js hj hjs
        cases hjs
        split at his
        · cases his
        · cases his
          split at hs
          · cases hs
          · rename_i hne
            cases hs
            obtain ⟨a1, a2, a3, a4⟩ := h.slot hi
            obtain ⟨b1, b2, b3, b4⟩ := h.slot hj
            have hij : i ≠ j := fun e => hne (by simp [e])
            have hxz : x ≠ z := fun e => hij (by subst e; rw [hi] at hj; exact Option.some.inj hj)
            rw [← h.sc] at l1 l2
            exact s_par2 so a1 b1 hij l1 l2 hpa hle (sw2_ok h hp hxz) rfl
      · cases his
    · cases hs
  | [e1, e2, e3], [v1, v2, v3], hl1, hl2, hs, loc, hp, hpa, hle =>
    cases e1 <;> first | (simp [slots] at hs; done) | skip
    rename_i x px
    cases e2 <;> first | (simp [slots] at hs; done) | skip
    rename_i z pz
    cases e3 <;> first | (simp [slots] at hs; done) | skip
    rename_i w pw
    obtain ⟨l1, loc⟩ := locAll_cons loc
    obtain ⟨l2, loc⟩ := locAll_cons loc
    obtain ⟨l3, _⟩ := locAll_cons loc
    simp only [slots] at hs
    split at hs
    · rename_i i is' hi his
      split at his
      · rename_i j js hj hjs
        split at hjs
        · rename_i l ls hl hls
          cases hls
          split at hjs
          · cases hjs
          · cases hjs
            split at his
            · cases his
            · rename_i hne2
              cases his
              split at hs
              · cases hs
              · rename_i hne
                cases hs
                obtain ⟨a1, a2, a3, a4⟩ := h.slot hi
                obtain ⟨b1, b2, b3, b4⟩ := h.slot hj
                obtain ⟨d1, d2, d3, d4⟩ := h.slot hl
                have hij : i ≠ j := fun e => hne (by simp [e])
                have hil : i ≠ l := fun e => hne (by simp [e])
                have hjl : j ≠ l := fun e => hne2 (by simp [e])
                have hxz : x ≠ z := fun e => hij (by subst e; rw [hi] at hj; exact Option.some.inj hj)
                have hxw : x ≠ w := fun e => hil (by subst e; rw [hi] at hl; exact Option.some.inj hl)
                have hzw : z ≠ w := fun e => hjl (by subst e; rw [hj] at hl; exact Option.some.inj hl)
                rw [← h.sc] at l1 l2 l3
                exact s_par3 so a1 b1 d1 hij hil hjl l1 l2 l3 hpa hle (sw3_ok h hp hxz hxw hzw) rfl
        · cases hjs
      · cases his
    · cases hs
end
theorem swfs {e t : Expr} {l : Nat} {env : Env} (h : noComp e = true) : swapsWithSole [t] e l env = pure false := swf h _ _ _
theorem all_out {C : Cc} {is : List Nat} (h : is.all (· ∉ C.own) = true) : True := trivial
section
variable {X : Cx} {c : Ct} {C : Cc} {n : Nat} (h : XC X c C n) (so : SOk X c) {k : Nat} {rs : Stmt → Option S} (hrs : ∀ s S, rs s = some S → PS X s (tS c S))
include h so hrs
theorem popPat_ok {x : Str} {v b : Expr} (e : popPat x v = some b) : ∃ p4 j2 p5 p6 p7 p8 p9 j3 p10 p11 apos j4 p12 cpos p13, v = .IfExp (.Compare (.Subscript (.Name x p4) (.Constant (.str "great") j2 p5) p6) [.NotEq] [.List [] p7] p8) (.Call (.Attribute (.Subscript (.Name x p9) (.Constant (.str "great") j3 p10) p11) "pop" apos) [.Constant (.int 0) j4 p12] [] cpos) b p13 ∧ (apos.endLine == cpos.line) = true := by
  unfold popPat at e
  split at e
  · split at e
    · rename_i hc
      obtain ⟨h1, h2, h3, h4, h5, h6, h7⟩ := hc
      cases e
      subst h1 h2 h3 h4 h5 h6
      exact ⟨_, _, _, _, _, _, _, _, _, _, _, _, _, _, _, rfl, h7⟩
    · cases e
  · cases e
theorem cStt_ok {x : Str} {i : Nat} {ke v : Expr} {p1 p2 pos : Pos} {s : S} (q1 : X.N[i]? = some x) (q2 : Vis X.env.scope x) (q3 : (x == ("__debug__" : Str)) = false) (q4 : (x == ("__classdict__" : Str)) = false) (e : cStt (cE (k + 1)) C x i ke v = some s) : PS X (.Assign [.Subscript (.Name x p1) ke p2] v pos) (tS c s) := by
  unfold cStt at e
  split at e
  · split at e
    · rename_i b hb
      obtain ⟨p4, j2, p5, p6, p7, p8, p9, j3, p10, p11, apos, j4, p12, cpos, p13, rfl, hl⟩ := popPat_ok h so hrs hb
      split at e
      · rename_i hk
        subst hk
        simp only [Option.map_eq_some_iff] at e
        obtain ⟨y, hy, rfl⟩ := e
        exact s_stp so q1 q2 q3 q4 (cE_ok _ C _ y hy X c n h).1 hl
      · cases e
    · split at e
      · rename_i hc
        simp only [Option.map_eq_some_iff] at e
        obtain ⟨y, hy, rfl⟩ := e
        exact s_sts so q1 q2 q3 q4 (cE_ok _ C _ y hy X c n h).1 (swf hc _ _ _)
      · cases e
  · cases e
theorem cAsg_ok {ts : List Expr} {v : Expr} {pos : Pos} {s : S} (e : cS1 (cE (k + 1)) rs C (.Assign ts v pos) = some s) : PS X (.Assign ts v pos) (tS c s) := by
  unfold cS1 at e
  simp only at e
  split at e
  · rename_i x px
    split at e
    · cases e
    · rename_i j hj
      obtain ⟨t1, t2, t3⟩ := h.tgt hj
      split at e
      · rename_i y p1 m apos cpos
        split at e
        · rename_i hm
          subst hm
          split at e
          · rename_i i hi
            split at e
            · rename_i hc
              cases e
              obtain ⟨q1, q2, q3, q4⟩ := h.slot hi
              exact s_pop so q1 q2 q3 q4 t1 t2 hc.2.2 rfl t3
            · cases e
          · cases e
        · cases e
      · simp only [Option.map_eq_some_iff] at e
        obtain ⟨y, hy, rfl⟩ := e
        obtain ⟨q1, q2⟩ := asg_lc h so (px := px) (pos := pos) hj hy
        unfold asgN
        refine frzs_ok h so ?_ _
        split
        · exact q2
        · exact q1
      · split at e
        · rename_i hc
          simp only [Option.map_eq_some_iff] at e
          obtain ⟨y, hy, rfl⟩ := e
          exact asg_ok h so hj (cE_ok _ C _ y hy X c n h).1 hc
        · cases e
  · rename_i es kt tp
    split at e
    · rename_i vs k2 tp2
      split at e
      · rename_i hp
        split at e
        · rename_i is y his hy
          cases e
          exact par_ok h so hp.1 hp.2 his hy
        · cases e
      · split at e
        · rename_i hc
          split at e
          · rename_i is y his hy
            split at e
            · cases e
              obtain ⟨q1, q2, q3⟩ := cTs_ok h his
              exact frzs_ok h so (s_unp so (cE_ok _ C _ y hy X c n h).1 q1 rfl (sw_none hc) q2 q3) _
            · cases e
          · cases e
        · cases e
    · rename_i hnt
      split at e
      · rename_i is y his hy
        split at e
        · rename_i hc
          cases e
          obtain ⟨q1, q2, q3⟩ := cTs_ok h his
          have nt : noTup v = true := by
            cases v <;> first | rfl | exact (hnt _ _ _ rfl).elim
          exact frzs_ok h so (s_unp so (cE_ok _ C _ y hy X c n h).1 q1 (swfs hc.2) (sw_none2 nt) q2 q3) _
        · cases e
      · cases e
  · rename_i x p1 ke p2
    split at e
    · cases e
    · rename_i i hi
      obtain ⟨q1, q2, q3, q4⟩ := h.slot hi
      split at e
      · split at e
        · rename_i kk y hk hy
          split at e
          · rename_i hc
            cases e
            refine frzs_ok h so (s_sset so q1 q2 q3 q4 (cE_ok _ C _ kk hk X c n h).1 (cE_ok _ C _ y hy X c n h).1 (fun v => ?_) (swfs hc.2) (sw_none1 ⟨rfl, rfl⟩)) _
            have := hc.1
            cases ke <;> first | rfl | (cases this; done)
          · cases e
        · cases e
      · exact cStt_ok h so hrs q1 q2 q3 q4 e
  · rename_i x p1 f p2
    split at e
    · rename_i i y hi hy
      split at e
      · rename_i hc
        cases e
        obtain ⟨q1, q2, q3, q4⟩ := h.slot hi
        exact frzs_ok h so (s_fset so q1 q2 q3 q4 (cE_ok _ C _ y hy X c n h).1 (h.fd _ hc.2.1) (swf hc.2.2 _ _ _)) _
      · cases e
    · cases e
  · cases e
theorem cS1_ok {st : Stmt} {s : S} (e : cS1 (cE (k + 1)) rs C st = some s) : PS X st (tS c s) := by
  cases st with
  | Pass pos => cases e; exact s_pass so
  | Break pos => cases e; exact s_brk so
  | Continue pos => cases e; exact s_cnt so
  | Assign ts v pos => exact cAsg_ok h so hrs e
  | Expr x pos =>
    unfold cS1 at e
    simp only at e
    split at e
    · cases e; exact s_doc so
    · rename_i x' p1 m apos y cpos
      split at e
      · rename_i hm
        split at e
        · rename_i i hi
          split at e
          · rename_i hc
            simp only [Option.map_eq_some_iff] at e
            obtain ⟨z, hz, rfl⟩ := e
            exact frzs_ok h so (m_ok h so (.inl hm) hi hc.2.1 hc.2.2 hz (by rw [if_pos hm])) _
          · cases e
        · cases e
      · rename_i hm1
        split at e
        · rename_i hm
          split at e
          · rename_i i hi
            split at e
            · rename_i hc
              simp only [Option.map_eq_some_iff] at e
              obtain ⟨z, hz, rfl⟩ := e
              exact frzs_ok h so (m_ok h so (.inr hm) hi hc.2.1 hc.2.2 hz (by rw [if_neg hm1])) _
            · cases e
          · cases e
        · cases e
    · split at e
      · rename_i hc
        exact ex_ok h so hc e
      · cases e
  | AugAssign tg op v pos =>
    unfold cS1 at e
    simp only at e
    split at e
    all_goals first | (cases e; done) | skip
    all_goals (rename_i heq; cases heq)
    rename_i x p1
    split at e
    · rename_i i y hi hy
      split at e
      · cases e
        obtain ⟨t1, t2, t3⟩ := h.tgt hi
        exact s_aug so t1 t2 (cE_ok _ C _ y hy X c n h).1 t3
      · cases e
    · cases e
  | If t a b pos =>
    unfold cS1 at e
    simp only at e
    split at e
    · rename_i x y z hx hy hz
      cases e
      exact frzs_ok h so (s_if so (cE_ok _ C _ x hx X c n h).2 (cSs_ok h so hrs hy) (cSs_ok h so hrs hz)) _
    · cases e
  | While t b d pos =>
    cases d with
    | cons _ _ => simp [cS1] at e
    | nil =>
      unfold cS1 at e
      simp only at e
      split at e
      · rename_i x y hx hy
        cases e
        exact frzs_ok h so (s_while so (cE_ok _ C _ x hx X c n h).2 (cSs_ok h so hrs hy)) _
      · cases e
  | For tg it b d pos =>
    cases d with
    | cons _ _ => simp [cS1] at e
    | nil =>
      unfold cS1 at e
      simp only at e
      split at e
      · rename_i t x y ht hx hy
        split at e
        · cases e
          obtain ⟨q1, q2⟩ := cI_ok (cE_ok _) h hx
          exact frzs_ok h so (s_for so q1 (cT_ok h ht) (cSs_ok h so hrs hy) (q2 _)) _
        · cases e
      · cases e
  | Return v pos =>
    cases v with
    | none => cases e; exact s_ret0 so
    | some v =>
      unfold cS1 at e
      simp only at e
      split at e
      · rename_i x p1
        split at e
        · rename_i i hi
          cases e
          obtain ⟨q1, q2, q3, q4⟩ := h.slot hi
          exact s_rtv so q1 q2 q3 q4
        · simp only [Option.map_eq_some_iff] at e
          obtain ⟨y, hy, rfl⟩ := e
          exact s_ret so (cE_ok _ C _ y hy X c n h).1
      · simp only [Option.map_eq_some_iff] at e
        obtain ⟨y, hy, rfl⟩ := e
        exact frzs_ok h so (s_ret so (cE_ok _ C _ y hy X c n h).1) _
  | Raise x y pos =>
    unfold cS1 at e
    simp only at e
    split at e
    all_goals first | (cases e; done) | skip
    all_goals (rename_i heq; cases heq)
    split at e
    · rename_i hc
      cases e
      exact s_rse h so hc.1 hc.2
    · cases e
  | _ => simp [cS1] at e
end
theorem cS_ok : ∀ k {C : Cc} {st : Stmt} {s : S}, cS k C st = some s → ∀ {X : Cx} {c : Ct} {n : Nat}, XC X c C n → SOk X c → PS X st (tS c s)
  | 0, _, _, _, e => by cases e
  | k + 1, C, st, s, e => fun h so => cS1_ok (k := 39) h so (fun s' S' h' => cS_ok k h' h so) e
/-- a def's body -/
theorem body_ok {k : Nat} {C : Cc} {ss : List Stmt} {s : S} (e : cSs (cS k C) ss = some s) {X : Cx} {c : Ct} {n : Nat} (h : XC X c C n) (so : SOk X c) : PSs X ss (tS c s) := cSs_ok h so (fun s' S' h' => cS_ok k h' h so) e
end Lk
set_option autoImplicit false
set_option linter.all false
namespace Lk
open PySem PySem.Spec PyProof.Rows L2
/-- the compile context of a def -/
def ccOf (P : Pg) (cn fdn ex N : List Str) (sc : Scope) (own dic : List Nat) : Cc := ⟨N, sc, N, P, own, dic, cn, fdn, ex⟩
/-- a def stands in the written part, with this erased code -/
structure Std (W : Wd) (P : Pg) (cn fdn ex : List Str) (F : Addr) (fdat : FuncData) (ps N : List Str) (s : S) : Prop where
  ex' : ∃ (name qual : Str) (params : Arguments) (body : List Stmt) (scope : Scope) (dV kV doc pm cdv ct oc : Value) (an od : Option Addr) (osl : Array (Option Value)) (own dic : List Nat) (k : Nat),
    fdat = PySem.W.fnOf name qual params body scope dV kV doc pm an cdv ct ∧ W.K.lookup F = some ⟨oc, od, .func fdat, osl⟩ ∧ PySem.W.codeIn W.K cdv qual = true ∧ FnScope N ps scope ∧ cSs (cS k (ccOf P cn fdn ex N scope own dic)) body = some s
structure WOk (W : Wd) (base : Heap) (P : Pg) (cn fdn ex : List Str) : Prop where
  isc : ∀ c' ∈ W.cn, ∀ C', W.mg c' = some (.ref C') → ∀ n ∈ "NoneType" :: sixT, PySem.W.kitOne W.K (.type n) (.ref C') = some false
  bn : ∀ x ∈ bnList, W.mg x = none
  cnO : ∀ k ∈ cn, k ∈ W.cn ∧ ∃ Cl, W.mg k = some (.ref Cl)
  exO : ∀ k ∈ ex, ExOk W k
  fdO : ∀ f ∈ fdn, f ∈ W.fd
  gl : ∀ (x : Str) (d : D), P.val x = some d → ∃ v u, W.mg x = some u ∧ RelV v u ∧ ∀ G, R W G v d
  fns : ∀ f fd, P.fns f = some fd → fd.isI = false → ∃ F fdat N, W.mg f = some (.ref F) ∧ PySem.W.keepIn W.K (.ref F) = true ∧ Binds W.K fdat fd.ps [] ∧
    (∀ ks, (f, ks) ∈ P.kws → ks ≠ [] ∧ ∀ (s : Shared) (ws bs : List Value), bindA fd.ps ws ks = some bs → BindsTo s fdat ⟨[], ks.zip ws⟩ (fd.ps.zip bs)) ∧ N.length = fd.n ∧ Std W P cn fdn ex F fdat fd.ps N fd.body
  cls : ∀ f fd, P.fns f = some fd → fd.isI = true → ∃ C F fdat N, W.mg f = some (.ref C) ∧ Mk W.K C F ∧ ObjC W f C ∧ Binds W.K fdat ("self" :: fd.ps) [] ∧ N.length = fd.n ∧ Std W P cn fdn ex F fdat ("self" :: fd.ps) N fd.body
/-! ### the start of a body -/
theorem SR.start {W : Wd} {G H : Hp} {N : List Str} {vs : List V} {ds : List D} {t : Nat} (g : Gd W G H) (tl : TL W H t) (r : RL W G vs ds) (hl : vs.length ≤ N.length) : SR W H G H (L2.start N vs) (startR N.length (ds.map .val)) t where
  gd := g
  tl := tl
  len := by
    unfold L2.start startR
    have := r.length
    simp; omega
  val := fun i d h => by
    unfold startR at h
    have hi : i < ds.length := by
      rcases Nat.lt_or_ge i ds.length with z | z
      · exact z
      · rw [List.getElem?_append_right (by simpa using z), List.getElem?_replicate] at h
        split at h <;> cases h
    rw [List.getElem?_append_left (by simpa using hi), List.getElem?_map] at h
    obtain ⟨d', h1, h2⟩ := Option.map_eq_some_iff.mp h
    cases h2
    obtain ⟨v, h3, h4⟩ := r.get h1
    refine ⟨v, ?_, h4⟩
    unfold L2.start
    rw [List.getElem?_append_left (by rw [List.length_map, r.length]; exact hi), List.getElem?_map, h3]
    rfl
  own := fun i d h => by
    exfalso
    unfold startR at h
    rcases Nat.lt_or_ge i ds.length with z | z
    · rw [List.getElem?_append_left (by simpa using z), List.getElem?_map] at h
      obtain ⟨d', h1, h2⟩ := Option.map_eq_some_iff.mp h
      cases h2
    · rw [List.getElem?_append_right (by simpa using z), List.getElem?_replicate] at h
      split at h <;> cases h
  dis := fun i j d e p _ h => by
    exfalso
    unfold startR at h
    rcases Nat.lt_or_ge i ds.length with z | z
    · rw [List.getElem?_append_left (by simpa using z), List.getElem?_map] at h
      obtain ⟨d', h1, h2⟩ := Option.map_eq_some_iff.mp h
      cases h2
    · rw [List.getElem?_append_right (by simpa using z), List.getElem?_replicate] at h
      split at h <;> cases h
theorem SR.startI {W : Wd} {G H : Hp} {N : List Str} {vs : List V} {ds : List D} {p dx C : Addr} {f : Str} {t : Nat} (w : WI W H) (tl : TL W (upd (upd H dx (.own p)) p (.ins C dx [])) t) (g : Gd W G (upd (upd H dx (.own p)) p (.ins C dx []))) (hp : H p = none) (hg : G p = none) (oc : ObjC W f C) (r : RL W G vs ds) (hl : vs.length + 1 ≤ N.length) :
    SR W H G (upd (upd H dx (.own p)) p (.ins C dx [])) (L2.start N (.ref p :: vs)) (startR N.length (.own (.slf p f []) :: ds.map .val)) t where
  gd := g
  tl := tl
  len := by
    unfold L2.start startR
    have := r.length
    simp; omega
  val := fun i d h => by
    unfold startR at h
    cases i with
    | zero => simp at h
    | succ i =>
      have hi : i < ds.length := by
        rcases Nat.lt_or_ge i ds.length with z | z
        · exact z
        · rw [List.getElem?_append_right (by simpa using z), List.getElem?_replicate] at h
          split at h <;> cases h
      rw [List.getElem?_append_left (by simpa using hi), List.getElem?_cons_succ, List.getElem?_map] at h
      obtain ⟨d', h1, h2⟩ := Option.map_eq_some_iff.mp h
      cases h2
      obtain ⟨v, h3, h4⟩ := r.get h1
      refine ⟨v, ?_, h4⟩
      unfold L2.start
      rw [List.getElem?_append_left (by rw [List.length_map, List.length_cons, r.length]; omega), List.getElem?_map, List.getElem?_cons_succ, h3]
      rfl
  own := fun i d h => by
    unfold startR at h
    cases i with
    | zero =>
      simp at h
      subst h
      exact ⟨p, rfl, hp, w.notSt hp, hg, rfl, C, dx, [], upd_same, oc, fun _ h => (by cases h), .nil⟩
    | succ i =>
      exfalso
      rcases Nat.lt_or_ge i ds.length with z | z
      · rw [List.getElem?_append_left (by simpa using z), List.getElem?_cons_succ, List.getElem?_map] at h
        obtain ⟨d', h1, h2⟩ := Option.map_eq_some_iff.mp h
        cases h2
      · rw [List.getElem?_append_right (by simpa using z), List.getElem?_replicate] at h
        split at h <;> cases h
  dis := fun i j d e p' hij h h' => by
    exfalso
    have zero : ∀ {i : Nat} {d : D}, (startR N.length (.own (.slf p f []) :: ds.map .val))[i]? = some (.own d) → i = 0 := fun {i d} h => by
      unfold startR at h
      cases i with
      | zero => rfl
      | succ i =>
        exfalso
        rcases Nat.lt_or_ge i ds.length with z | z
        · rw [List.getElem?_append_left (by simpa using z), List.getElem?_cons_succ, List.getElem?_map] at h
          obtain ⟨d', h1, h2⟩ := Option.map_eq_some_iff.mp h
          cases h2
        · rw [List.getElem?_append_right (by simpa using z), List.getElem?_replicate] at h
          split at h <;> cases h
    exact hij ((zero h).trans (zero h').symm)
/-! ### levels -/
section
variable {W : Wd} {base : Heap} {P : Pg} {cn fdn ex : List Str} (wo : WOk W base P cn fdn ex)
include wo
/-- the contexts of a def's body -/
theorem xc_of {n : Nat} (go' : GOk W base P n) {N ps : List Str} {scope : Scope} {qual : Str} {F : Addr} {cdv : Value} {A : Around} {outer : List Env} {s : Shared} {H H1 G : Hp} {E : XK} {x : XP} {own dic : List Nat} (S : FnScope N ps scope) (hr : Room (n + 1) (A.deeper (envOfC qual scope s.heap.objs.size F cdv)))
    (gd : Gd W G H) (xe : XE1 W G H x E) (hrep : A.guards = some []) :
    XC (cxOf (L2.CX W.P W.w) W.P W.w W.K W.mg base N qual scope F cdv A outer s H1 E) ⟨W, P.val, callN P n, x, H, fun cls d _ H => E cls d H, G⟩ (ccOf P cn fdn ex N scope own dic) n ∧ SOk (cxOf (L2.CX W.P W.w) W.P W.w W.K W.mg base N qual scope F cdv A outer s H1 E) ⟨W, P.val, callN P n, x, H, fun cls d _ H => E cls d H, G⟩ := by
  have co : COk (cxOf (L2.CX W.P W.w) W.P W.w W.K W.mg base N qual scope F cdv A outer s H1 E) ⟨W, P.val, callN P n, x, H, fun cls d _ H => E cls d H, G⟩ := {
    K := rfl
    mg := rfl
    P := rfl
    w := rfl
    hu := by have := hr.un; show (A.deeper _).units + 200 < cLine; omega
    isc := wo.isc
    mono := callN_mono P n
    calm := rfl
    nd := S.nd
    takes := takes_of rfl rfl rfl rfl
    po := passes_of rfl
    gl := wo.gl }
  refine ⟨{ co with
    N := rfl
    sc := rfl
    sk := S.kind
    hΦ := rfl
    gok := go'
    room := hr
    fnl := fun _ _ => rfl
    bn := wo.bn
    cn := wo.cnO
    ex := wo.exO
    fd := wo.fdO
    rp := hrep }, { co with
    gd0 := gd
    xok := fun t cn fs hx cls dd σ H' G' st tl re => xe t cn fs hx cls dd H' G' st tl re }⟩
theorem fn_level {n : Nat} (go' : GOk W base P n) {f : Str} {fd : Fd} (hf : P.fns f = some fd) (hI : fd.isI = false) {F : Addr} {fdat : FuncData} {N : List Str} (hN : N.length = fd.n) (sd : Std W P cn fdn ex F fdat fd.ps N fd.body) :
    FnG W.P W.w W.K W.mg base (n + 2) F fdat fd.ps (spN W P (n + 1) f) := by
  obtain ⟨name, qual, params, body, scope, dV, kV, doc, pm, cdv, ct, oc, an, od, osl, own, dic, k, rfl, lk, hcd, S, hc⟩ := sd.ex'
  have un : ∀ {ds : List D} {t : Nat} {Q : Kt} {x : XP}, callN P (n + 1) (.fn f) ds [] t Q x → ds.length = fd.ps.length ∧ exs P.val (callN P n) x fd.body (startR fd.n (ds.map .val)) t (endF Q) := fun {ds t Q x} h => by
    unfold callN at h
    simp only at h
    rw [hf] at h
    simp only at h
    split at h
    · rename_i bs hb
      unfold bindA at hb
      rw [if_pos rfl] at hb
      split at hb
      · rename_i hl
        cases hb
        rw [hI] at h
        exact ⟨hl, h⟩
      · cases hb
    · exact h.elim
  have hps : fd.ps.length ≤ N.length := by have := congrArg List.length S.pre; rw [List.length_take] at this; omega
  refine fnG_of (k := n + 1) lk hcd S (fun vs H Q E ⟨G, ds, t, x, gd, rl, tl, h, xe⟩ => by rw [rl.length]; exact (un h).1) fun A outer s H vs Q E gg hr ⟨G, ds, t, x, gd, rl, tl, h, xe⟩ => ?_
  obtain ⟨h1, h2⟩ := un h
  obtain ⟨xc, so⟩ := xc_of wo go' (own := own) (dic := dic) (H1 := H) (outer := outer) S hr gd xe gg
  refine ⟨_, body_ok hc xc so, G, _, t, gd.step, SR.start (N := N) gd tl rl (by rw [rl.length]; omega), ?_⟩
  rw [hN]
  refine exs_mono (callN_mono P n) _ _ ?_ h2
  exact ⟨fun t' ρ h σ' G' H' sb st sr => h .non H' G' st sr.tl .non, fun t' fl d h v G' H' st tl rv => h v H' G' st tl rv, fun _ _ h => h.elim, fun _ _ h => h.elim⟩
theorem cl_level {n : Nat} (go' : GOk W base P n) {f : Str} {fd : Fd} (hf : P.fns f = some fd) (hI : fd.isI = true) {C F : Addr} (hC : W.mg f = some (.ref C)) (ob : ObjC W f C) {fdat : FuncData} {N : List Str} (hN : N.length = fd.n) (sd : Std W P cn fdn ex F fdat ("self" :: fd.ps) N fd.body) :
    FnG W.P W.w W.K W.mg base (n + 2) F fdat ("self" :: fd.ps) (spI W P (n + 2) f) := by
  obtain ⟨name, qual, params, body, scope, dV, kV, doc, pm, cdv, ct, oc, an, od, osl, own, dic, k, rfl, lk, hcd, S, hc⟩ := sd.ex'
  have un : ∀ {ds : List D} {t : Nat} {Q : Kt} {x : XP}, callN P (n + 2) (.fn f) ds [] t Q x → ds.length = fd.ps.length ∧ ∀ p, exs P.val (callN P n) x fd.body (startR fd.n (.own (.slf p f []) :: ds.map .val)) t (endI p Q) := fun {ds t Q x} h => by
    unfold callN at h
    simp only at h
    rw [hf] at h
    simp only at h
    split at h
    · rename_i bs hb
      unfold bindA at hb
      rw [if_pos rfl] at hb
      split at hb
      · rename_i hl
        cases hb
        rw [if_pos hI] at h
        exact ⟨hl, h⟩
      · cases hb
    · exact h.elim
  have hps : (("self" : Str) :: fd.ps).length ≤ N.length := by have := congrArg List.length S.pre; rw [List.length_take] at this; omega
  refine fnG_of (k := n + 1) lk hcd S (fun vs H2 Q E ⟨G, H, ds, t, x, p, dx, C', vs', e1, e2, hp, hdx, hne, hC', gd, rl, tl, h, xe⟩ => by rw [e1, List.length_cons, List.length_cons, rl.length, (un h).1]) fun A outer s H2 vs Q E gg hr ⟨G, H, ds, t, x, p, dx, C', vs', e1, e2, hp, hdx, hne, hC', gd, rl, tl, h, xe⟩ => ?_
  obtain ⟨h1, h2⟩ := un h
  have : C' = C := by rw [hC] at hC'; cases hC'; rfl
  subst this
  subst e1
  subst e2
  obtain ⟨xc, so⟩ := xc_of wo go' (own := own) (dic := dic) (H1 := upd (upd H dx (.own p)) p (.ins C' dx [])) (outer := outer) S hr gd xe gg
  have hp1 : upd H dx (.own p) p = none := by rw [upd_ne (Ne.symm hne)]; exact hp
  have s1 : Step W G H G (upd H dx (.own p)) := gd.newOwn hdx
  have s2 : Step W G H G (upd (upd H dx (.own p)) p (.ins C' dx [])) := s1.trans (s1.gd.newOwn hp1)
  refine ⟨_, body_ok hc xc so, G, _, t, s2, SR.startI (N := N) gd.wi ((Pu.new (p := p) s1.gd.wi hp1) _ ((Pu.new gd.wi hdx) _ tl)) s2.gd hp (gd.none hp) ob rl (by rw [rl.length, h1]; exact hps), ?_⟩
  rw [hN]
  refine exs_mono (callN_mono P n) _ _ ?_ (h2 p)
  refine ⟨fun t' ρ h σ' G' H' sb st sr => ?_, fun _ fl d h => h.elim, fun _ _ h => h.elim, fun _ _ h => h.elim⟩
  change getO ρ 0 _ at h
  unfold getO at h
  split at h
  · rename_i d e
    obtain ⟨q, k1, k2, k3, k4, k5⟩ := sr.own _ _ e
    cases d <;> first | exact h.elim | skip
    obtain ⟨rfl, h⟩ := h
    obtain ⟨rfl, k5⟩ := k5
    exact h H' G' st sr.tl ⟨_, rfl, k2, k4, k5⟩
  · exact h.elim
theorem fn_gok {n : Nat} (ih : GOk W base P n) {f : Str} {ps : List Str} (hs : P.sig f = some ps) : ∃ F fdat, W.mg f = some (.ref F) ∧ PySem.W.keepIn W.K (.ref F) = true ∧ Binds W.K fdat ps [] ∧
    (∀ ks, (f, ks) ∈ P.kws → ks ≠ [] ∧ ∀ (s : Shared) (ws bs : List Value), bindA ps ws ks = some bs → BindsTo s fdat ⟨[], ks.zip ws⟩ (ps.zip bs)) ∧ FnG W.P W.w W.K W.mg base (n + 2) F fdat ps (spN W P (n + 1) f) := by
  unfold Pg.sig at hs
  split at hs
  · rename_i fd hf
    split at hs
    · cases hs
    · rename_i hI
      cases hs
      obtain ⟨F, fdat, N, h1, h2, h3, h4, h5, h6⟩ := wo.fns f fd hf (by simpa using hI)
      exact ⟨F, fdat, h1, h2, h3, h4, fn_level wo ih hf (by simpa using hI) h5 h6⟩
  · cases hs
theorem gok : ∀ n, GOk W base P n
  | 0 => by
    refine ⟨fun f ps hs => ?_, fun f fd hf hI => ?_⟩
    · unfold Pg.sig at hs
      split at hs
      · rename_i fd hf
        split at hs
        · cases hs
        · rename_i hI
          cases hs
          obtain ⟨F, fdat, N, h1, h2, h3, h4, h5, h6⟩ := wo.fns f fd hf (by simpa using hI)
          exact ⟨F, fdat, h1, h2, h3, h4, ⟨fun vs H Q E ⟨G, ds, t, x, gd, rl, tl, h, xe⟩ => h.elim, fun A outer s H args us vs Q E _ _ _ _ _ ⟨G, ds, t, x, gd, rl, tl, h, xe⟩ => h.elim⟩⟩
      · cases hs
    · obtain ⟨C, F, fdat, N, h1, h2, h3, h4, h5, h6⟩ := wo.cls f fd hf hI
      exact ⟨C, F, fdat, h1, h2, h4, ⟨fun vs H2 Q E ⟨G, H, ds, t, x, p, dx, C', vs', e1, e2, hp, hdx, hne, hC', gd, rl, tl, h, xe⟩ => h.elim, fun A outer s H args us vs Q E _ _ _ _ _ ⟨G, H, ds, t, x, p, dx, C', vs', e1, e2, hp, hdx, hne, hC', gd, rl, tl, h, xe⟩ => h.elim⟩⟩
  | 1 => by
    refine ⟨fun f ps hs => ?_, fun f fd hf hI => ?_⟩
    · exact fn_gok wo (gok 0) hs
    · obtain ⟨C, F, fdat, N, h1, h2, h3, h4, h5, h6⟩ := wo.cls f fd hf hI
      have no : ∀ {ds : List D} {t : Nat} {Q : Kt} {x : XP}, callN P 1 (.fn f) ds [] t Q x → False := fun {ds t Q x} h => by
        unfold callN at h
        simp only at h
        rw [hf] at h
        simp only at h
        split at h
        · rw [if_pos hI] at h; exact h
        · exact h
      exact ⟨C, F, fdat, h1, h2, h4, ⟨fun vs H2 Q E ⟨G, H, ds, t, x, p, dx, C', vs', e1, e2, hp, hdx, hne, hC', gd, rl, tl, h, xe⟩ => (no h).elim, fun A outer s H args us vs Q E _ _ _ _ _ ⟨G, H, ds, t, x, p, dx, C', vs', e1, e2, hp, hdx, hne, hC', gd, rl, tl, h, xe⟩ => (no h).elim⟩⟩
  | n + 2 => by
    refine ⟨fun f ps hs => fn_gok wo (gok (n + 1)) hs, fun f fd hf hI => ?_⟩
    obtain ⟨C, F, fdat, N, h1, h2, h3, h4, h5, h6⟩ := wo.cls f fd hf hI
    exact ⟨C, F, fdat, h1, h2, h4, cl_level wo (gok n) hf hI h1 h3 h5 h6⟩
end
end Lk
set_option autoImplicit false
set_option linter.all false
namespace Lk
open PySem PySem.Spec PyProof.Rows L2
/-- plain parameters: no defaults, no stars -/
structure Plain (fd : FuncData) (ps : List Str) : Prop where
  po : fd.params.posonlyargs = []
  va : fd.params.vararg = none
  ko : fd.params.kwonlyargs = []
  ka : fd.params.kwarg = none
  df : fd.defaults = .none
  ps : fd.params.args.map (·.arg) = ps
theorem zip_lookup {α : Type} : ∀ {ps : List Str} {us : List α} {p : Str}, us.length = ps.length → p ∈ ps → ((ps.zip us).lookup p).isSome = true
  | [], _, _, _, h => by cases h
  | q :: ps, [], _, hl, _ => by simp at hl
  | q :: ps, u :: us, p, hl, h => by
    rw [List.zip_cons_cons, List.lookup_cons]
    cases e : p == q with
    | true => rfl
    | false =>
      have hp : p ∈ ps := by
        rcases List.mem_cons.mp h with rfl | h
        · simp at e
        · exact h
      exact zip_lookup (by simpa using hl) hp
theorem fm_congr {α β : Type} {f g : α → Option β} : ∀ {l : List α}, (∀ a ∈ l, f a = g a) → l.filterMap f = l.filterMap g
  | [], _ => rfl
  | a :: l, h => by
    rw [List.filterMap_cons, List.filterMap_cons, h a List.mem_cons_self, fm_congr fun b hb => h b (List.mem_cons_of_mem _ hb)]
theorem zip_filterMap {α : Type} : ∀ {ps : List Str} {us : List α}, ps.Nodup → us.length = ps.length → ps.filterMap (fun n => ((ps.zip us).lookup n).map (n, ·)) = ps.zip us
  | [], _, _, _ => rfl
  | q :: ps, [], _, hl => by simp at hl
  | q :: ps, u :: us, nd, hl => by
    obtain ⟨n1, n2⟩ := List.nodup_cons.mp nd
    have ih := zip_filterMap (us := us) n2 (by simpa using hl)
    rw [List.filterMap_cons]
    simp only [List.zip_cons_cons, List.lookup_cons, beq_self_eq_true, Option.map_some]
    refine congrArg _ ?_
    refine Eq.trans ?_ ih
    refine fm_congr fun n hn => ?_
    have : (n == q) = false := by
      cases e : n == q with
      | false => rfl
      | true => rw [eq_of_beq e] at hn; exact absurd hn n1
    rw [this]
theorem bind_pos {fd : FuncData} {ps : List Str} (h : Plain fd ps) (nd : ps.Nodup) (us : List Value) (hl : us.length = ps.length) : bindArgs fd ⟨us, []⟩ = pure (ps.zip us) := by
  have hs : seqItems? fd.defaults = pure none := by rw [h.df]; rfl
  have hm : (ps.filter fun n => ((ps.zip us).lookup n).isNone) = [] := by
    rw [List.filter_eq_nil_iff]
    intro p hp
    have := zip_lookup hl hp
    cases q : (ps.zip us).lookup p with
    | none => rw [q] at this; cases this
    | some _ => simp
  unfold bindArgs
  simp only [h.po, h.va, h.ko, h.ka, h.ps, hs, List.map_nil, List.nil_append, List.append_nil]
  simp [hl, hm, List.take_of_length_le, zip_filterMap nd hl]
theorem kw_loop {ps : List Str} {f : Str × Value → List (Str × Value) × List (Str × Value) → Sem (ForInStep (List (Str × Value) × List (Str × Value)))} (hf : ∀ x s, x.1 ∈ ps → s.1.lookup x.1 = none → f x s = pure (.yield (s.1 ++ [(x.1, x.2)], s.2))) :
    ∀ (kw : List (Str × Value)) (s : List (Str × Value) × List (Str × Value)), (∀ x ∈ kw, x.1 ∈ ps) → (kw.map (·.1)).Nodup → (∀ x ∈ kw, s.1.lookup x.1 = none) → forIn kw s f = pure (s.1 ++ kw, s.2)
  | [], s, _, _, _ => by simp
  | x :: kw, s, h1, h2, h3 => by
    rw [List.forIn_cons, hf x s (h1 x List.mem_cons_self) (h3 x List.mem_cons_self)]
    rw [List.map_cons, List.nodup_cons] at h2
    simp only [pure_bind]
    rw [kw_loop hf kw _ (fun y hy => h1 y (List.mem_cons_of_mem _ hy)) h2.2 (fun y hy => ?_)]
    · simp
    · rw [List.lookup_append, h3 y (List.mem_cons_of_mem _ hy)]
      have ne : (y.1 == x.1) = false := by
        cases e : y.1 == x.1 with
        | false => rfl
        | true => exact absurd (by rw [← eq_of_beq e]; exact List.mem_map_of_mem hy) h2.1
      simp [List.lookup_cons, ne]
theorem mapM_lookup {l : List (Str × Value)} : ∀ {ps : List Str} {bs : List Value}, ps.mapM (fun p => l.lookup p) = some bs → (ps.filter fun n => (l.lookup n).isNone) = [] ∧ ps.filterMap (fun n => (l.lookup n).map (n, ·)) = ps.zip bs
  | [], bs, e => by simp at e; subst e; exact ⟨rfl, rfl⟩
  | p :: ps, bs, e => by
    rw [List.mapM_cons] at e
    simp only [Option.bind_eq_bind, Option.bind_eq_some_iff, Option.pure_def, Option.some.injEq] at e
    obtain ⟨a, ha, as', has, rfl⟩ := e
    obtain ⟨q1, q2⟩ := mapM_lookup has
    refine ⟨?_, ?_⟩
    · rw [List.filter_cons, ha]; simpa using q1
    · rw [List.filterMap_cons, ha, Option.map_some]
      simp [q2]
theorem bind_kw {fd : FuncData} {ps ks : List Str} (h : Plain fd ps) (kd : ks.Nodup) (sub : ∀ k ∈ ks, k ∈ ps) (ws bs : List Value) (hb : bindA ps ws ks = some bs) (hk : ks ≠ []) : bindArgs fd ⟨[], ks.zip ws⟩ = pure (ps.zip bs) := by
  have hs : seqItems? fd.defaults = pure none := by rw [h.df]; rfl
  unfold bindA at hb
  rw [if_neg hk] at hb
  split at hb
  · rename_i hl
    obtain ⟨q1, q2⟩ := mapM_lookup hb
    have hz : (ps.zip ([] : List Value)) = [] := by cases ps <;> rfl
    have hzip : (ks.zip ws).map (·.1) = ks := by rw [List.map_fst_zip]; omega
    unfold bindArgs
    simp only [h.po, h.va, h.ko, h.ka, h.ps, hs, List.map_nil, List.nil_append, List.append_nil, hz]
    rw [kw_loop (ps := ps) ?hf (ks.zip ws) ([], []) (fun x hx => sub _ (by rw [← hzip]; exact List.mem_map_of_mem hx)) (by rw [hzip]; exact kd) (fun x hx => rfl)]
    case hf =>
      intro x s hx hl
      have : ps.contains x.1 = true := by simpa using hx
      rw [if_pos (by rw [this]; rfl), if_neg (by rw [hl]; simp)]
    simp [q1, q2, List.take_of_length_le]
  · cases hb
end Lk
set_option autoImplicit false
set_option linter.all false
namespace Lk
open PySem PySem.Spec PyProof.Rows L2
/-! ### one Boolean look at the written part -/
structure Ent where
  f : Str
  N : List Str
  own : List Nat
  dic : List Nat
  fd : Fd
def mkP (ents : List Ent) (vals : List (Str × D)) (kws : List (Str × List Str)) : Pg where
  fns := fun f => (ents.find? fun e => e.f == f).map (·.fd)
  val := fun x => vals.lookup x
  kws := kws
def plainB (fd : FuncData) (ps : List Str) : Bool :=
  fd.params.posonlyargs.isEmpty && fd.params.vararg.isNone && fd.params.kwonlyargs.isEmpty && fd.params.kwarg.isNone && (match fd.defaults with | .none => true | _ => false) && decide (fd.params.args.map (·.arg) = ps)
def scopeB (N ps : List Str) (sc : Scope) : Bool :=
  (match sc.kind with | .function => true | _ => false) && !sc.isCoroutine && !sc.isGenerator && decide N.Nodup && decide (N.take ps.length = ps) && ps.all (fun x => match sc.names.lookup x with | some .local => true | some .cell => true | _ => false) && sc.names.all (fun y => match y.2 with | .free => false | _ => true)
section
variable (K : PySem.W.Frag) (P : Pg) (cn fdn ex : List Str)
def defB (fd : FuncData) (ps N : List Str) (own dic : List Nat) (s : S) : Bool := match fd.body with
  | .stmts b => decide (fd.globals = mainGlobals) && fd.closure.isEmpty && decide (fd.builtins = builtinsNs) && PySem.W.codeIn K fd.code fd.qualname && plainB fd ps && scopeB N ps fd.scope && decide (cSs (cS 40 (ccOf P cn fdn ex N fd.scope own dic)) b = some s)
  | _ => false
def defAt (F : Addr) (ps N : List Str) (own dic : List Nat) (s : S) : Bool := match K.lookup F with
  | some ⟨_, _, .func fd, _⟩ => defB K P cn fdn ex fd ps N own dic s
  | _ => false
def refAt (x : Str) : Option Addr := match PySem.W.nsIn K mainGlobals x with
  | some (some (.ref F)) => some F
  | _ => none
def objB (c : Str) (C : Addr) : Bool :=
  PySem.W.plainGet K C Str.empty && PySem.W.hasDictIn K C && PySem.W.plainOver K C && decide (PySem.W.findIn K (.ref C) "__setattr__" = some (some (.builtin "object.__setattr__"))) &&
  decide (PySem.W.findIn K (.ref C) "__class__" = some (some (.builtin "object.__class__"))) && decide (PySem.W.specialIn K (.builtin "object.__class__") "__get__" = some (some (.builtin "getset_descriptor.__get__"))) &&
  decide (PySem.W.takesIn K (.builtin "object.__class__") = some true) && decide (PySem.W.mroIn K C (.type "object") = some true) && sixT.all (fun n => decide (PySem.W.kitOne K (.ref C) (.type n) = some false)) &&
  fdn.all (fun f => decide (PySem.W.findIn K (.ref C) f = some none)) && cn.all (fun c' => match refAt K c' with | some C' => decide (PySem.W.kitOne K (.ref C) (.ref C') = some (c' == c)) | none => false)
def entB (e : Ent) : Bool := match refAt K e.f with
  | some F => if e.fd.isI = true then PySem.W.makesIn K F && PySem.W.keepIn K (.ref F) && objB K cn fdn e.f F && decide (e.N.length = e.fd.n) && (match PySem.W.findIn K (.ref F) "__init__" with
      | some (some (.ref G)) => PySem.W.isFn K (.ref G) && defAt K P cn fdn ex G ("self" :: e.fd.ps) e.N e.own e.dic e.fd.body
      | _ => false)
    else PySem.W.keepIn K (.ref F) && decide (e.N.length = e.fd.n) && defAt K P cn fdn ex F e.fd.ps e.N e.own e.dic e.fd.body
  | none => false
mutual
def valB : D → Value → Bool
  | .int i, u => (match u with | .int j _ => decide (i = j) | _ => false)
  | .str x, u => (match u with | .str y _ => decide (x = y) | _ => false)
  | .bl x, u => (match u with | .bool y => decide (x = y) | _ => false)
  | .non, u => (match u with | .none => true | _ => false)
  | .tup l, u => (match u with
    | .ref a => (match K.lookup a with
      | some o => decide (o.cls = .type "tuple") && (match o.data with | .seq its _ => decide (its.size ≤ sizeLine) && valsB l its.toList | _ => false)
      | none => false)
    | _ => false)
  | _, _ => false
def valsB : List D → List Value → Bool
  | [], us => us.isEmpty
  | d :: ds, us => (match us with | u :: us => valB d u && valsB ds us | [] => false)
end
def exB (k : Str) : Bool := match refAt K k with
  | some C => PySem.W.excIn K C [.type "ValueError", .type "Exception", .type "BaseException", .type "object"] "ValueError.__new__" && PySem.W.keepIn K (.ref C) && decide (PySem.W.subIn K (.ref C) (.type "BaseException") = some true) && decide (PySem.W.typeIn K (.ref C) = some (.type "type"))
  | none => false
def cnB (k : Str) : Bool := match refAt K k with
  | some C => ("NoneType" :: sixT).all fun n => decide (PySem.W.kitOne K (.type n) (.ref C) = some false)
  | none => false
def chkB (ents : List Ent) (vals : List (Str × D)) (kws : List (Str × List Str)) : Bool :=
  ents.all (entB K (mkP ents vals kws) cn fdn ex) && bnList.all (fun x => decide (PySem.W.nsIn K mainGlobals x = some none)) && cn.all (cnB K) && ex.all (exB K) &&
  vals.all (fun p => match PySem.W.nsIn K mainGlobals p.1 with | some (some u) => valB K p.2 u | _ => false) &&
  kws.all (fun p => !p.2.isEmpty && decide p.2.Nodup && (match (mkP ents vals kws).fns p.1 with | some fd => p.2.all (· ∈ fd.ps) | none => true))
end
/-! ### what the look shows -/
theorem plainB_ok {fd : FuncData} {ps : List Str} (h : plainB fd ps = true) : Plain fd ps := by
  unfold plainB at h
  simp only [Bool.and_eq_true, decide_eq_true_eq, List.isEmpty_iff, Option.isNone_iff_eq_none] at h
  obtain ⟨⟨⟨⟨⟨h1, h2⟩, h3⟩, h4⟩, h5⟩, h6⟩ := h
  refine ⟨h1, h2, h3, h4, ?_, h6⟩
  split at h5
  · assumption
  · cases h5
theorem scopeB_ok {N ps : List Str} {sc : Scope} (h : scopeB N ps sc = true) : FnScope N ps sc := by
  unfold scopeB at h
  simp only [Bool.and_eq_true, decide_eq_true_eq, Bool.not_eq_true', List.all_eq_true] at h
  obtain ⟨⟨⟨⟨⟨⟨h1, h2⟩, h3⟩, h4⟩, h5⟩, h6⟩, h7⟩ := h
  refine ⟨?_, h2, h3, h4, h5, fun x hx => ?_, fun y hy e => ?_⟩
  · split at h1
    · assumption
    · cases h1
  · have := h6 x hx
    split at this
    · rename_i q; exact .inl q
    · rename_i q; exact .inr q
    · cases this
  · have := h7 y hy
    rw [e] at this
    cases this
section
variable {K : PySem.W.Frag} {P : Pg} {cn fdn ex : List Str}
theorem defB_ok {W : Wd} (hK : W.K = K) {F : Addr} {ps N : List Str} {own dic : List Nat} {s : S} (h : defAt K P cn fdn ex F ps N own dic s = true) : ∃ fdat, Std W P cn fdn ex F fdat ps N s ∧ Plain fdat ps ∧ ps.Nodup := by
  unfold defAt at h
  split at h
  · rename_i oc od fd osl lk
    unfold defB at h
    split at h
    · rename_i b hb
      simp only [Bool.and_eq_true, decide_eq_true_eq, List.isEmpty_iff] at h
      obtain ⟨⟨⟨⟨⟨⟨h1, h2⟩, h3⟩, h4⟩, h5⟩, h6⟩, h7⟩ := h
      have sc := scopeB_ok h6
      refine ⟨fd, ⟨fd.name, fd.qualname, fd.params, b, fd.scope, fd.defaults, fd.kwdefaults, fd.doc, fd.pyModule, fd.code, fd.closureTuple, oc, fd.annotations, od, osl, own, dic, 40, ?_, by rw [hK]; exact lk, by rw [hK]; exact h4, sc, h7⟩, plainB_ok h5, ?_⟩
      · obtain ⟨a1, a2, a3, a4, a5, a6, a7, a8, a9, a10, a11, a12, a13, a14, a15⟩ := fd
        simp only at h1 h2 h3 hb
        subst h1 h2 h3 hb
        rfl
      · rw [← sc.pre]; exact sc.nd.sublist (List.take_sublist _ _)
    · cases h
  · cases h
theorem refAt_ok {x : Str} {F : Addr} (h : refAt K x = some F) : PySem.W.nsIn K mainGlobals x = some (some (.ref F)) := by
  unfold refAt at h
  split at h
  · cases h; assumption
  · cases h
mutual
theorem valB_ok {W : Wd} (hK : W.K = K) : ∀ {d : D} {u : Value}, valB K d u = true → ∃ v, RelV v u ∧ ∀ G, R W G v d
  | .int i, u, h => by
    simp only [valB] at h
    split at h
    · rename_i j t; have : i = j := by simpa using h
      subst this; exact ⟨.int i, ⟨t, rfl⟩, fun _ => .int i⟩
    · cases h
  | .str i, u, h => by
    simp only [valB] at h
    split at h
    · rename_i j t; have : i = j := by simpa using h
      subst this; exact ⟨.str i, ⟨t, rfl⟩, fun _ => .str i⟩
    · cases h
  | .bl i, u, h => by
    simp only [valB] at h
    split at h
    · rename_i j; have : i = j := by simpa using h
      subst this; exact ⟨.bl i, rfl, fun _ => .bl i⟩
    · cases h
  | .non, u, h => by
    simp only [valB] at h
    split at h
    · exact ⟨.non, rfl, fun _ => .non⟩
    · cases h
  | .tup l, u, h => by
    simp only [valB] at h
    split at h
    · rename_i a
      split at h
      · rename_i o lk
        rw [Bool.and_eq_true] at h
        obtain ⟨h1, h2⟩ := h
        split at h2
        · rename_i its n hd
          rw [Bool.and_eq_true] at h2
          obtain ⟨h2, h3⟩ := h2
          obtain ⟨vs, rv, rr⟩ := valsB_ok hK h3
          exact ⟨.ref a, rfl, fun G => .tup (.inr ⟨o, its, n, by rw [hK]; exact lk, by simpa using h1, hd, by simpa using h2, rv⟩) (rr G)⟩
        · cases h2
      · cases h
    · cases h
  | .lst _, _, h => by simp [valB] at h
  | .dct _, _, h => by simp [valB] at h
  | .dcl _, _, h => by simp [valB] at h
  | .obj _ _, _, h => by simp [valB] at h
  | .slf _ _ _, _, h => by simp [valB] at h
  | .stt, _, h => by simp [valB] at h
  | .scr _, _, h => by simp [valB] at h
  | .fn _, _, h => by simp [valB] at h
  | .cls _, _, h => by simp [valB] at h
  | .exc _ _, _, h => by simp [valB] at h
  | .loc _ _, _, h => by simp [valB] at h
  | .clo _ _, _, h => by simp [valB] at h
theorem valsB_ok {W : Wd} (hK : W.K = K) : ∀ {ds : List D} {us : List Value}, valsB K ds us = true → ∃ vs, Vals vs us ∧ ∀ G, RL W G vs ds
  | [], us, h => by
    simp only [valsB, List.isEmpty_iff] at h
    subst h
    exact ⟨[], .nil, fun _ => .nil⟩
  | d :: ds, us, h => by
    simp only [valsB] at h
    split at h
    · rename_i u us'
      rw [Bool.and_eq_true] at h
      obtain ⟨v, h1, h2⟩ := valB_ok hK h.1
      obtain ⟨vs, h3, h4⟩ := valsB_ok hK h.2
      exact ⟨v :: vs, .cons h1 h3, fun G => .cons (h2 G) (h4 G)⟩
    · cases h
end
theorem chk_ok {prog : Program} {w : World} {mg : Str → Option Value} {st : Option (Addr × Addr × Addr)} {base : Heap} {ents : List Ent} {vals : List (Str × D)} {kws : List (Str × List Str)} (X : K.In base) (G : base.Ns mainGlobals mg) (h : chkB K cn fdn ex ents vals kws = true) :
    WOk ⟨prog, w, K, mg, st, cn, fdn⟩ base (mkP ents vals kws) cn fdn ex := by
  unfold chkB at h
  simp only [Bool.and_eq_true, List.all_eq_true, decide_eq_true_eq] at h
  obtain ⟨⟨⟨⟨⟨hE, hB⟩, hC⟩, hX⟩, hV⟩, hKw⟩ := h
  have ref : ∀ {x : Str} {F : Addr}, refAt K x = some F → mg x = some (.ref F) := fun h => PySem.W.mg_of X G (refAt_ok h)
  have cnR : ∀ k ∈ cn, ∃ C, refAt K k = some C ∧ mg k = some (.ref C) ∧ ∀ n ∈ "NoneType" :: sixT, PySem.W.kitOne K (.type n) (.ref C) = some false := fun k hk => by
    have := hC k hk
    unfold cnB at this
    split at this
    · rename_i C hr
      exact ⟨C, hr, ref hr, fun n hn => by simpa using List.all_eq_true.mp this n hn⟩
    · cases this
  have find : ∀ {f : Str} {fd : Fd}, (mkP ents vals kws).fns f = some fd → ∃ e ∈ ents, e.f = f ∧ e.fd = fd := fun {f fd} h => by
    obtain ⟨e, he, rfl⟩ := Option.map_eq_some_iff.mp h
    exact ⟨e, List.mem_of_find?_eq_some he, by simpa using List.find?_some he, rfl⟩
  have kwO : ∀ {f : Str} {fd : Fd} {fdat : FuncData} {ks : List Str}, (mkP ents vals kws).fns f = some fd → Plain fdat fd.ps → (f, ks) ∈ (mkP ents vals kws).kws → ks ≠ [] ∧ ∀ (s : Shared) (ws bs : List Value), bindA fd.ps ws ks = some bs → BindsTo s fdat ⟨[], ks.zip ws⟩ (fd.ps.zip bs) := fun {f fd fdat ks} hf pl hk => by
    have := hKw (f, ks) hk
    obtain ⟨⟨q1, q2⟩, q4⟩ := this
    have hne : ks ≠ [] := by simpa using q1
    refine ⟨hne, fun s ws bs hb => .of_eq (bind_kw pl q2 (fun k hk => ?_) ws bs hb hne)⟩
    simp only at q4
    rw [hf] at q4
    simpa using List.all_eq_true.mp q4 k hk
  refine {
    isc := fun c' hc C' hC' n hn => ?_
    bn := fun x hx => PySem.W.mg_none_of X G (hB x hx)
    cnO := fun k hk => ⟨hk, by obtain ⟨C, _, h, _⟩ := cnR k hk; exact ⟨C, h⟩⟩
    exO := fun k hk => ?_
    fdO := fun f hf => hf
    gl := fun x d hx => ?_
    fns := fun f fd hf hI => ?_
    cls := fun f fd hf hI => ?_ }
  · obtain ⟨C, _, h1, h2⟩ := cnR c' hc
    have : C' = C := by
      have q : mg c' = some (.ref C') := hC'
      rw [h1] at q; cases q; rfl
    subst this
    exact h2 n hn
  · have := hX k hk
    unfold exB at this
    split at this
    · rename_i C hr
      simp only [Bool.and_eq_true, decide_eq_true_eq] at this
      obtain ⟨⟨⟨q1, q2⟩, q3⟩, q4⟩ := this
      exact ⟨C, ref hr, q1, q2, q3, q4⟩
    · cases this
  · have hm := mem_of_lk (show vals.lookup x = some d from hx)
    have := hV (x, d) hm
    simp only at this
    split at this
    · rename_i u hu
      obtain ⟨v, h1, h2⟩ := valB_ok (W := ⟨prog, w, K, mg, st, cn, fdn⟩) rfl this
      exact ⟨v, u, PySem.W.mg_of X G hu, h1, h2⟩
    · cases this
  · obtain ⟨e, he, rfl, rfl⟩ := find hf
    have := hE e he
    unfold entB at this
    split at this
    · rename_i F hr
      rw [hI] at this
      simp only [Bool.false_eq_true, if_false, Bool.and_eq_true, decide_eq_true_eq] at this
      obtain ⟨⟨q1, q2⟩, q3⟩ := this
      obtain ⟨fdat, sd, pl, nd⟩ := defB_ok (W := ⟨prog, w, K, mg, st, cn, fdn⟩) rfl q3
      exact ⟨F, fdat, e.N, ref hr, q1, .all fun us hl => bind_pos pl nd us hl, fun ks hk => kwO hf pl hk, q2, sd⟩
    · cases this
  · obtain ⟨e, he, rfl, rfl⟩ := find hf
    have := hE e he
    unfold entB at this
    split at this
    · rename_i C hr
      rw [if_pos hI] at this
      simp only [Bool.and_eq_true, decide_eq_true_eq] at this
      obtain ⟨⟨⟨⟨q1, q2⟩, q3⟩, q4⟩, q5⟩ := this
      split at q5
      · rename_i F hF
        rw [Bool.and_eq_true] at q5
        obtain ⟨fdat, sd, pl, nd⟩ := defB_ok (W := ⟨prog, w, K, mg, st, cn, fdn⟩) rfl q5.2
        refine ⟨C, F, fdat, e.N, ref hr, ⟨q1, hF, q5.1, q2⟩, ?_, .all fun us hl => bind_pos pl nd us hl, q4, sd⟩
        unfold objB at q3
        simp only [Bool.and_eq_true, decide_eq_true_eq, List.all_eq_true] at q3
        obtain ⟨⟨⟨⟨⟨⟨⟨⟨⟨⟨a1, a2⟩, a3⟩, a4⟩, a5⟩, a6⟩, a7⟩, a8⟩, a9⟩, a10⟩, a11⟩ := q3
        refine ⟨ref hr, ⟨a1, a2, a3, a4⟩, a5, a6, a7, a8, fun n hn => a9 n hn, fun f hf => a10 f hf, fun c' hc C' hC' => ?_⟩
        have := a11 c' hc
        obtain ⟨C2, h0, h1, _⟩ := cnR c' hc
        have e2 : C' = C2 := by
          have q : mg c' = some (.ref C') := hC'
          rw [h1] at q; cases q; rfl
        subst e2
        rw [h0] at this
        simpa using this
      · cases q5
    · cases this
end
end Lk
set_option autoImplicit false
set_option linter.all false
namespace Lk
open PySem PySem.Spec PyProof.Rows L2
/-- _law_begun(script): a new dict; its two lists are new -/
def spBegun (K : PySem.W.Frag) : Sp := fun vs H Q _ => ∃ (a : Addr) (ns : List Int), vs = [.ref a] ∧ SqL K H a (ns.map V.int) ∧ ns.length ≤ 1000 ∧
  ∀ (H' : Hp) (p gr c : Addr) (gs cs : List Int), H' p = some (.dK (stK gr c 0 0)) → H' gr = some (.lst (gs.map V.int)) → H' c = some (.lst (cs.map V.int)) → (∀ g ∈ gs, 0 ≤ g) → (∀ n ∈ cs, 0 ≤ n) → gr ≠ c → Q (.ref p) H'
/-- great = [abs(cell) - 10 ** 18 for cell in script if abs(cell) >= 10 ** 18] -/
def cBig : E := .bin .Pow (.ci 10) (.ci 18)
def cAbs (i : Nat) : E := .blt .abs (.cons (.v i) .nil)
def cGreat : E := .lc (.bin .Sub (cAbs 3) cBig) (.gcons [2, 3] (.one 3) (.cons (.v 0) .nil) (.cons (.cmp .GtE (cAbs 3) cBig) .nil) .nil)
def cCells : E := .lc (cAbs 3) (.gcons [2, 3] (.one 3) (.cons (.v 0) .nil) .nil .nil)
def absI (i : Int) : Int := if i < 0 then -i else i
theorem absI_nn (i : Int) : 0 ≤ absI i := by unfold absI; split <;> omega
def greatL (ns : List Int) : List Int := (ns.filter fun n => decide (10 ^ 18 ≤ absI n)).map fun n => absI n - 10 ^ 18
def cellsL (ns : List Int) : List Int := ns.map absI
section
variable {g : Str → Option D} {Φ : Cal} {x : XP}
theorem pow_10_18 {k : K1} (h : k .f (.int (10 ^ 18))) : powD (.int 10) (.int 18) k := ⟨by refine ⟨?_, ?_⟩ <;> decide, h⟩
theorem ev_abs {ρ : Rho} {i : Nat} {n : Int} {t : Nat} {k : Kt} (e : ρ[i]? = some (.val (.int n))) (h : k t .f (.int (absI n))) : ev g Φ x (cAbs i) ρ t k := by
  simp only [cAbs, ev, evs, getV, e]
  exact h
theorem ev_big {ρ : Rho} {t : Nat} {k : Kt} (h : k t .f (.int (10 ^ 18))) : ev g Φ x cBig ρ t k := by
  simp only [cBig, ev]
  exact ⟨by simp, by simp, pow_10_18 h⟩
theorem ev_cells {ns : List Int} {gr : Sv} {t : Nat} {k : Kt} (hl : ns.length ≤ 1000) (h : k t .n (.lst ((cellsL ns).map .int))) : ev g Φ x cCells [.val (.scr ns), gr, .non, .non] t k := by
  simp only [cCells, ev, evg, evi, getV, List.getElem?_cons_zero, iterD]
  refine ⟨by simp, ?_⟩
  have key : ∀ (r : List Int) (acc : List D) (kk : Nat → List D → Prop), acc.length + r.length ≤ 1000 → kk t (acc ++ (cellsL r).map .int) →
      lcGo (fun d acc' t2 k' => bindK (.one 3) d (wipeR [2, 3] [.val (.scr ns), gr, .non, .non]) fun ρ' => evc g Φ noX .nil ρ' t2 fun t3 b => if b = true then evg g Φ noX .nil (fun ρ' => ev g Φ noX (cAbs 3) ρ') ρ' acc' t3 k' else k' t3 acc') (r.map .int) acc t kk := by
    intro r
    induction r with
    | nil => intro acc kk _ h; simpa [lcGo, cellsL] using h
    | cons n r ih =>
      intro acc kk hl h
      simp only [List.map_cons, lcGo, bindK, bindT, wipeR, List.set, evc, evg, if_true]
      refine ev_abs (n := n) rfl ⟨by simp, ?_, ih _ _ (by simp at hl ⊢; omega) ?_⟩
      · rw [sizeLine_eq]; simp at hl; omega
      · simpa [cellsL] using h
  exact key ns [] _ (by simpa using hl) (by simpa using h)
theorem ev_great {ns : List Int} {gr : Sv} {t : Nat} {k : Kt} (hl : ns.length ≤ 1000) (h : k t .n (.lst ((greatL ns).map .int))) : ev g Φ x cGreat [.val (.scr ns), gr, .non, .non] t k := by
  simp only [cGreat, ev, evg, evi, getV, List.getElem?_cons_zero, iterD]
  refine ⟨by simp, ?_⟩
  have key : ∀ (r : List Int) (acc : List D) (kk : Nat → List D → Prop), acc.length + r.length ≤ 1000 → kk t (acc ++ (greatL r).map .int) →
      lcGo (fun d acc' t2 k' => bindK (.one 3) d (wipeR [2, 3] [.val (.scr ns), gr, .non, .non]) fun ρ' => evc g Φ noX (.cons (.cmp .GtE (cAbs 3) cBig) .nil) ρ' t2 fun t3 b => if b = true then evg g Φ noX .nil (fun ρ' => ev g Φ noX (.bin .Sub (cAbs 3) cBig) ρ') ρ' acc' t3 k' else k' t3 acc') (r.map .int) acc t kk := by
    intro r
    induction r with
    | nil => intro acc kk _ h; simpa [lcGo, greatL] using h
    | cons n r ih =>
      intro acc kk hl h
      simp only [List.map_cons, lcGo, bindK, bindT, wipeR, List.set, evc]
      simp only [ev]
      refine ev_abs (n := n) rfl (ev_big ?_)
      simp only [cmpD, trD]
      by_cases hn : (10 : Int) ^ 18 ≤ absI n
      · simp only [hn, decide_true, if_true, evg, ev]
        refine ev_abs (n := n) rfl ⟨by simp, ev_big ⟨by simp, ?_⟩⟩
        simp only [binD, subD]
        refine ⟨by simp, ?_, ih _ _ (by simp at hl ⊢; omega) ?_⟩
        · rw [sizeLine_eq]; simp at hl; omega
        · have e : greatL (n :: r) = (absI n - 10 ^ 18) :: greatL r := by unfold greatL; rw [List.filter_cons_of_pos (by simpa using hn)]; rfl
          rw [e] at h; simpa using h
      · simp only [hn, decide_false, if_false, Bool.false_eq_true]
        refine ih _ _ (by simp at hl ⊢; omega) ?_
        have e : greatL (n :: r) = greatL r := by unfold greatL; rw [List.filter_cons_of_neg (by simpa using hn)]
        rw [e] at h; exact h
  exact key ns [] _ (by simpa using hl) (by simpa using h)
end
end Lk
set_option autoImplicit false
set_option linter.all false
namespace Lk
open PySem PySem.Spec PyProof.Rows L2
/-- _law_begun(script): a new dict; its two lists are new; all else stands -/
def spBeg (K : PySem.W.Frag) : Sp := fun vs H Q _ => ∃ (a : Addr) (ns : List Int), vs = [.ref a] ∧ SqL K H a (ns.map V.int) ∧ ns.length ≤ 1000 ∧
  ∀ (H' : Hp) (p gr c : Addr) (gs cs : List Int), (∀ b o, H b = some o → (∀ ps, o ≠ .tbl ps) → H' b = some o) → H' p = some (.dK (stK gr c 0 0)) → H' gr = some (.lst (gs.map V.int)) → H' c = some (.lst (cs.map V.int)) → (∀ g ∈ gs, 0 ≤ g) → (∀ n ∈ cs, 0 ≤ n) → gr ≠ c → H p = none → H gr = none → H c = none → Q (.ref p) H'
theorem script_gd {W : Wd} (hst : W.st = none) {H : Hp} {a : Addr} {xs : List V} (h : SqL W.K H a xs) : ∃ G, Gd W G H ∧ SqL W.K G a xs := by
  have wi : WI W H := fun a gr c e => by rw [hst] at e; cases e
  have ns : ∀ b, ¬ stA W b := fun b ⟨a, gr, c, e, _⟩ => by rw [hst] at e; cases e
  have one : ∀ o, H a = some o → (∀ ps, o ≠ .tbl ps) → Gd W (fun b => if b = a then some o else none) H := fun o e ht => by
    refine ⟨fun b u h => ?_, fun b u h l => ?_, wi⟩
    · split at h
      · cases h; rename_i q; rw [q]; exact e
      · cases h
    · split at h
      · cases h
        rcases l with l | ⟨ps, l⟩
        · exact ns _ l
        · exact ht ps l
      · cases h
  rcases h with (h | ⟨o, h⟩) | h
  · exact ⟨_, one _ h (fun _ q => by cases q), .inl (.inl (by simp))⟩
  · exact ⟨_, one _ h (fun _ q => by cases q), .inl (.inr ⟨o, by simp⟩)⟩
  · exact ⟨fun _ => none, ⟨fun _ _ q => (nomatch q), fun _ _ q => (nomatch q), wi⟩, .inr h⟩
theorem ints_of_rl {W : Wd} {G : Hp} : ∀ {ns : List Int} {vs : List V}, RL W G vs (ns.map D.int) → vs = ns.map V.int
  | [], _, .nil => rfl
  | n :: r, _, .cons h t => by rw [ints_of_rl t, h.intE]; rfl
theorem greatL_nn (ns : List Int) : ∀ g ∈ greatL ns, 0 ≤ g := fun g hg => by
  unfold greatL at hg
  obtain ⟨n, hn, rfl⟩ := List.mem_map.mp hg
  have := (List.mem_filter.mp hn).2
  simp only [decide_eq_true_eq] at this
  omega
theorem cellsL_nn (ns : List Int) : ∀ g ∈ cellsL ns, 0 ≤ g := fun g hg => by
  unfold cellsL at hg
  obtain ⟨n, hn, rfl⟩ := List.mem_map.mp hg
  exact absI_nn n
theorem merge_st {gr c : Addr} : mergeK [] [(.inr "great", .ref gr), (.inr "cells", .ref c), (.inr "left", .int 0), (.inr "turn", .int 0)] = stK gr c 0 0 := by kernel_rfl
theorem begun_ok {W : Wd} (hst : W.st = none) {base : Heap} {P : Pg} {cn fdn ex : List Str} (wo : WOk W base P cn fdn ex) {F : Addr} {name qual : Str} {params : Arguments} {scope : Scope} {dV kV doc pm cdv ct oc : Value} {an od : Option Addr} {osl : Array (Option Value)}
    {s1 : Stmt} {lc : Expr} {j1 j2 j3 j4 j5 j6 : Nat} {p1 p2 p3 p4 q1 q2 q3 dp rp : Pos} {own dic : List Nat}
    (lk : W.K.lookup F = some ⟨oc, od, .func (PySem.W.fnOf name qual params [s1, .Return (some (.Dict [some (.Constant (.str "great") j1 p1), some (.Constant (.str "cells") j2 p2), some (.Constant (.str "left") j3 p3), some (.Constant (.str "turn") j4 p4)]
      [.Name "great" q1, lc, .Constant (.int 0) j5 q2, .Constant (.int 0) j6 q3] dp)) rp] scope dV kV doc pm an cdv ct), osl⟩)
    (hcd : PySem.W.codeIn W.K cdv qual = true) (S : FnScope ["script", "great", ".0", "cell"] ["script"] scope)
    (h1 : cS 40 (ccOf P cn fdn ex ["script", "great", ".0", "cell"] scope own dic) s1 = some (.own 1 cGreat)) (h2 : cE 40 (ccOf P cn fdn ex ["script", "great", ".0", "cell"] scope own dic) lc = some cCells)
    (h3 : slotOf (ccOf P cn fdn ex ["script", "great", ".0", "cell"] scope own dic) "great" = some 1) :
    FnG W.P W.w W.K W.mg base 2 F (PySem.W.fnOf name qual params [s1, .Return (some (.Dict [some (.Constant (.str "great") j1 p1), some (.Constant (.str "cells") j2 p2), some (.Constant (.str "left") j3 p3), some (.Constant (.str "turn") j4 p4)]
      [.Name "great" q1, lc, .Constant (.int 0) j5 q2, .Constant (.int 0) j6 q3] dp)) rp] scope dV kV doc pm an cdv ct) ["script"] (spBeg W.K) := by
  refine fnG_of (k := 1) lk hcd S (fun vs H Q E h => ?_) fun A outer s H vs Q E gg hr h => ?_
  · obtain ⟨a, ns, rfl, _⟩ := h
    rfl
  · obtain ⟨a, ns, rfl, hS, hlen, k⟩ := h
    obtain ⟨G, gd, sq⟩ := script_gd hst hS
    obtain ⟨xc, so⟩ := xc_of wo (gok wo 0) (own := own) (dic := dic) (H1 := H) (outer := outer) (x := noX) (E := E) S hr gd (fun _ _ _ h => h.elim) gg
    obtain ⟨t1, t2, t3, t4⟩ := xc.slot h3
    refine ⟨_, pss_cons (cS_ok 40 h1 xc so) (pss_one (ps_ret (pe_disp (pps_cons pe_str (pe_var t1 t2 t3 t4) (pps_cons pe_str (cE_ok _ _ _ _ h2 _ _ _ xc).1 (pps_cons pe_str pe_int (pps_cons pe_str pe_int pps_nil)))) rfl rfl (by simp) (by simp)))), ?_⟩
    have tn : ∀ H t, TL W H t := fun H t a gr c e => by rw [hst] at e; cases e
    refine ⟨G, startR 4 [.val (.scr ns)], 0, gd.step, SR.start (ds := [.scr ns]) gd (tn _ _) (.cons (.scr sq) .nil) (by simp), ?_⟩
    simp only [exs]
    refine ev_great hlen ⟨rfl, rfl, ?_⟩
    intro σ G1 H1 sb st sr
    obtain ⟨gr, e1, hgr0, _, _, xs, hgr, rl⟩ := sr.own 1 (.lst ((greatL ns).map .int)) rfl
    obtain rfl := ints_of_rl rl
    intro p hp
    have s0 : Step W G1 H1 G1 (upd H1 p (.dK [])) := sr.gd.newOwn hp
    refine ⟨.ref gr, e1, ?_⟩
    have st1 := st.trans s0
    have sr1 := sr.step s0 (tn _ 0)
    refine ⟨G1, _, _, sr1, fun _ _ _ h => h.elim, ?_⟩
    refine ev_cells hlen ?_
    intro v2 H2 G2 s2 _ rv
    obtain ⟨c, rfl, hc, hcg, xs, hc2, rl2⟩ := rv
    obtain rfl := ints_of_rl rl2
    have hns : ¬ stA W p := sr.gd.wi.notSt hp
    have hp2 : H2 p = some (.dK []) := s2.keep p _ upd_same fun z => z.elim hns fun ⟨ps, z⟩ => by cases z
    have hgr1 : H1 gr = some (.lst ((greatL ns).map V.int)) := hgr
    have hgp : gr ≠ p := ne_of_none hgr1 hp
    have hgr2 : H2 gr = some (.lst ((greatL ns).map V.int)) := s2.keep gr _ (by rw [upd_ne hgp]; exact hgr1) fun z => z.elim (fun ⟨a, gr, c, e, _⟩ => by rw [hst] at e; cases e) fun ⟨ps, z⟩ => by cases z
    have hcp : c ≠ p := fun z => by rw [z, hp2] at hc2; cases hc2
    have hgc : gr ≠ c := fun z => by
      rw [← z, upd_ne hgp, hgr1] at hc; cases hc
    refine ⟨hp2, [(.inr "great", .ref gr), (.inr "cells", .ref c), (.inr "left", .int 0), (.inr "turn", .int 0)], rfl, by simp, ?_⟩
    rw [merge_st]
    refine k _ p gr c (greatL ns) (cellsL ns) (fun b o hb nt => ?_) upd_same (by rw [upd_ne hgp]; exact hgr2) (by rw [upd_ne hcp]; exact hc2) (greatL_nn ns) (cellsL_nn ns) hgc (st.back hp) hgr0 ((st.trans s0).back hc)
    have nl : ¬ Loose W b o := fun z => z.elim (fun ⟨a, gr, c, e, _⟩ => by rw [hst] at e; cases e) fun ⟨ps, z⟩ => nt ps z
    have hb1 : H1 b = some o := st.keep b o hb nl
    have hbp : b ≠ p := ne_of_none hb1 hp
    rw [upd_ne hbp]
    exact s2.keep b o (by rw [upd_ne hbp]; exact hb1) nl
end Lk
set_option autoImplicit false
set_option linter.all false
namespace Lk
open PySem PySem.Spec PyProof.Rows L2
/-- what is tracked at the law's entry: the script (own: it is none of the module's), the empty tables of code objects -/
def hpE (own : Bool) (a : Addr) (o : Obj) (xs : List V) (ts : List Addr) : Hp := fun b => if b ∈ ts then some (.tbl #[]) else if own = true ∧ b = a then some (.frz o (.lst xs)) else none
section
variable {own : Bool} {a : Addr} {o : Obj} {xs : List V} {ts : List Addr}
theorem hpE_tab {b : Addr} (h : b ∈ ts) : hpE own a o xs ts b = some (.tbl #[]) := if_pos h
theorem hpE_cases (b : Addr) : (b ∈ ts ∧ hpE own a o xs ts b = some (.tbl #[])) ∨ (b ∉ ts ∧ own = true ∧ b = a ∧ hpE own a o xs ts b = some (.frz o (.lst xs))) ∨ (b ∉ ts ∧ ¬ (own = true ∧ b = a) ∧ hpE own a o xs ts b = none) := by
  unfold hpE
  by_cases h : b ∈ ts
  · exact .inl ⟨h, if_pos h⟩
  · by_cases h2 : own = true ∧ b = a
    · exact .inr (.inl ⟨h, h2.1, h2.2, by rw [if_neg h, if_pos h2]⟩)
    · exact .inr (.inr ⟨h, h2, by rw [if_neg h, if_neg h2]⟩)
end
section
variable {P : Program} {w : World} {K : PySem.W.Frag} {mg mb : Str → Option Value} {k : Nat} {fa a : Addr} {tabs : List (Addr × Addr)} {fd : FuncData} {sp : Sp} {s₁ : Shared} {vs : List Value} {ns : List Int}
/-- from one heap in which script and tables are tracked -/
theorem lk_at (own : Bool) (KX : K.In s₁.heap) (hns : s₁.heap.Ns mainGlobals mg) (hb : s₁.heap.Ns builtinsNs mb) (hbb : ∀ x : Str, x ≠ "__name__" → mb x = bootBuiltins x) (hlim : s₁.heap.NoLimit) (hg : s₁.gens = #[])
    (hbm : ∃ (bm : Addr) (ob : Obj), mg "__builtins__" = some (.ref bm) ∧ bm ≠ builtinsNs ∧ s₁.heap.get? bm = some ob ∧ ob.cls = .type "module" ∧ ob.dict = some builtinsNs ∧ ob.data = .plain)
    (ha : s₁.heap.get? a = some { cls := .type "list", data := .seq vs.toArray }) (hi : IntsAre vs ns) (hl : ns.length ≤ sizeLine) (hr : Room k callerA)
    (hT : ∀ q ∈ tabs, s₁.heap.get? q.2 = some { cls := .none, data := .fields #[] }) (nT : ∀ q ∈ tabs, K.lookup q.2 = none) (hC : ∀ q ∈ tabs, PySem.W.CodeHd s₁.heap q.1 q.2)
    (F : ∀ base : Heap, K.In base → base.Ns mainGlobals mg → (∀ q ∈ tabs, LamX.TabB base mg q.1 q.2) → FnG P w K mg base k fa fd ["script"] sp) (hbind : ∀ (s : Shared) (u : Value), BindsTo s fd ⟨[u], []⟩ [("script", u)])
    (hsp : ∀ H : Hp, (∀ q ∈ tabs, H q.2 = some (.tbl #[])) → SqL K H a (ns.map V.int) → sp [.ref a] H (fun v _ => v = .bl true) fun _ _ _ => False)
    (hown : own = true → K.lookup a = none) (hsq : SqL K (hpE own a { cls := .type "list", data := .seq vs.toArray } (ns.map V.int) (tabs.map (·.2))) a (ns.map V.int)) :
    codeAny (model P w) callerA (.call (.ref fa) ⟨[.ref a], []⟩) (fun r s' => r = .ok (.ret (.bool true)) ∧ OldK s₁.heap s'.heap ∧ s'.os = s₁.os ∧ AllBare s'.gens) s₁ := by
  generalize hH : hpE own a { cls := .type "list", data := .seq vs.toArray } (ns.map V.int) (tabs.map (·.2)) = H at hsq
  have look : ∀ b, (b ∈ tabs.map (·.2) ∧ H b = some (.tbl #[])) ∨ (b ∉ tabs.map (·.2) ∧ own = true ∧ b = a ∧ H b = some (.frz { cls := .type "list", data := .seq vs.toArray } (.lst (ns.map V.int)))) ∨ H b = none := fun b => by
    subst hH
    rcases hpE_cases (own := own) (a := a) (o := { cls := .type "list", data := .seq vs.toArray }) (xs := ns.map V.int) (ts := tabs.map (·.2)) b with h | h | h
    · exact .inl h
    · exact .inr (.inl h)
    · exact .inr (.inr h.2.2)
  have isTab : ∀ {b : Addr}, b ∈ tabs.map (·.2) → s₁.heap.get? b = some { cls := .none, data := .fields #[] } ∧ K.lookup b = none := fun hb => by
    obtain ⟨q, hq, rfl⟩ := List.mem_map.mp hb
    exact ⟨hT q hq, nT q hq⟩
  have rel : Vals (ns.map V.int) vs := vals_ints hi
  have hok : HOk P w H s₁.heap := fun b u e => by
    rcases look b with ⟨hb, h⟩ | ⟨_, _, rfl, h⟩ | h
    · rw [h] at e; cases e; exact (isTab hb).1
    · rw [h] at e; cases e
      exact ⟨ha, by simpa using hl, vs, 0, rel, ha⟩
    · rw [h] at e; cases e
  -- what is neither a list nor an empty table is untracked
  have free : ∀ {b : Addr} {o : Obj}, s₁.heap.get? b = some o → (∀ its n, o.data ≠ .seq its n) → o.data ≠ .fields #[] → H b = none := fun {b o} e n1 n2 => by
    rcases look b with ⟨hb, h⟩ | ⟨_, _, rfl, h⟩ | h
    · rw [(isTab hb).1] at e; cases e; exact absurd rfl n2
    · rw [ha] at e; cases e; exact absurd rfl (n1 _ _)
    · exact h
  have nsF : ∀ {b : Addr} {m : Str → Option Value}, s₁.heap.Ns b m → (hidT s₁.heap H).Ns b m := fun {b m} ⟨o, es, ep, e, hd, r⟩ => ⟨o, es, ep, hidT_get e (free e (fun its n z => by rw [hd] at z; cases z) fun z => by rw [hd] at z; cases z), hd, r⟩
  have kin : K.In (hidT s₁.heap H) := fun b o e => by
    refine hidT_get (KX b o e) ?_
    rcases look b with ⟨hb, h⟩ | ⟨_, ho, rfl, h⟩ | h
    · rw [(isTab hb).2] at e; cases e
    · rw [hown ho] at e; cases e
    · exact h
  have tb : ∀ q ∈ tabs, LamX.TabB (hidT s₁.heap H) mg q.1 q.2 := fun q hq => by
    have hq2 := hT q hq
    refine { code := ?_, bm := ?_, gP := fun z => ?_ }
    · obtain ⟨o, us, file, tf, flags, tg, inF, text, tt, e, hc, hd, h11, r⟩ := hC q hq
      exact ⟨o, us, file, tf, flags, tg, inF, text, tt, hidT_get e (free e (fun its n z => by rw [hd] at z; cases z) fun z => by rw [hd] at z; cases z; simp at h11), hc, hd, h11, r⟩
    · obtain ⟨bm, ob, h1, h2, h3, h4, h5, h6⟩ := hbm
      refine ⟨bm, ob, h1, h2, fun z => ?_, fun z => ?_, hidT_get h3 (free h3 (fun its n z => by rw [h6] at z; cases z) fun z => by rw [h6] at z; cases z), h4, h5, h6⟩
      · obtain ⟨o, es, ep, e, hd, _⟩ := hns
        rw [← z, h3] at e; cases e; rw [h6] at hd; cases hd
      · rw [← z, h3] at hq2; cases hq2; cases h6
    · obtain ⟨o, es, ep, e, hd, _⟩ := hns
      rw [z, hq2] at e; cases e; cases hd
  have e0 : Env0 P w K mg (hidT s₁.heap H) callerA [] s₁ H := { frames := rfl, mod := ⟨kin, nsF hns, ⟨mb, nsF hb, hbb⟩, by obtain ⟨mc, h1, h2⟩ := hlim; exact ⟨mc, nsF h1, h2⟩⟩, bs := fun b o e => of_hidT e, bsz := by rw [hidT_size]; exact Nat.le_refl _, funs := trivial, frf := fun b hb => (by cases hb), hok := hok, bare := .of_eq hg }
  refine codeAny_mono ((F _ kin (nsF hns) tb).run callerA [] s₁ H ⟨[.ref a], []⟩ [.ref a] [.ref a] _ _ rfl hr e0 (hbind s₁ (.ref a)) (.cons rfl .nil) (hsp H (fun q hq => ?_) hsq)) fun r s' h => ?_
  · rcases look q.2 with ⟨_, h⟩ | ⟨h, _⟩ | h
    · exact h
    · exact absurd (List.mem_map_of_mem hq) h
    · subst hH
      rw [hpE_tab (List.mem_map_of_mem hq)] at h; cases h
  · match r, h with
    | .error e, h => obtain ⟨_, _, _, _, _, _, _, _, _, _, _, _, z⟩ := h; exact z.elim
    | .ok .next, h => exact h.elim
    | .ok .brk, h => exact h.elim
    | .ok .cont, h => exact h.elim
    | .ok (.ret u), ⟨v, H', hos, hbare, un, hok', ru, hv⟩ =>
      change v = V.bl true at hv
      subst hv
      have eu : u = Value.bool true := ru
      subst eu
      refine ⟨rfl, ?_, hos, hbare⟩
      -- all that stood before stands, but the tables, which grow
      have kept : ∀ b o, s₁.heap.get? b = some o → (∃ o', s'.heap.get? b = some o') ∧ asItWas s₁.heap s'.heap b o := fun b o e => by
        rcases look b with ⟨hb, h⟩ | ⟨_, _, rfl, h⟩ | h
        · obtain ⟨more, hm⟩ := un.tbls b #[] h
          have g : s'.heap.get? b = some { cls := .none, data := .fields (#[] ++ more) } := hok' b _ hm
          rw [(isTab hb).1] at e; cases e
          obtain ⟨q, hq, rfl⟩ := List.mem_map.mp hb
          exact ⟨⟨_, g⟩, .inr (.inl ⟨((hC q hq).tab (hT q hq)).isCodeTable, rfl, #[], more, rfl, g⟩)⟩
        · have z := hok' b _ (un.frzs b _ _ h)
          rw [ha] at e; cases e
          exact ⟨⟨_, z.1⟩, .inl z.1⟩
        · have z := un.keep b o e h (fun z => (by cases z)) (fun z => (by cases z))
          exact ⟨⟨_, z⟩, .inl z⟩
      exact ⟨fun b o e => (kept b o e).2, fun b o e => (kept b o e).1⟩
theorem lk_call (KX : K.In s₁.heap) (hns : s₁.heap.Ns mainGlobals mg) (hb : s₁.heap.Ns builtinsNs mb) (hbb : ∀ x : Str, x ≠ "__name__" → mb x = bootBuiltins x) (hlim : s₁.heap.NoLimit) (hg : s₁.gens = #[])
    (hbm : ∃ (bm : Addr) (ob : Obj), mg "__builtins__" = some (.ref bm) ∧ bm ≠ builtinsNs ∧ s₁.heap.get? bm = some ob ∧ ob.cls = .type "module" ∧ ob.dict = some builtinsNs ∧ ob.data = .plain)
    (ha : s₁.heap.get? a = some { cls := .type "list", data := .seq vs.toArray }) (hi : IntsAre vs ns) (hl : ns.length ≤ sizeLine) (hr : Room k callerA)
    (hT : ∀ q ∈ tabs, s₁.heap.get? q.2 = some { cls := .none, data := .fields #[] }) (nT : ∀ q ∈ tabs, K.lookup q.2 = none) (hC : ∀ q ∈ tabs, PySem.W.CodeHd s₁.heap q.1 q.2)
    (F : ∀ base : Heap, K.In base → base.Ns mainGlobals mg → (∀ q ∈ tabs, LamX.TabB base mg q.1 q.2) → FnG P w K mg base k fa fd ["script"] sp) (hbind : ∀ (s : Shared) (u : Value), BindsTo s fd ⟨[u], []⟩ [("script", u)])
    (hsp : ∀ H : Hp, (∀ q ∈ tabs, H q.2 = some (.tbl #[])) → SqL K H a (ns.map V.int) → sp [.ref a] H (fun v _ => v = .bl true) fun _ _ _ => False) :
    codeAny (model P w) callerA (.call (.ref fa) ⟨[.ref a], []⟩) (fun r s' => r = .ok (.ret (.bool true)) ∧ OldK s₁.heap s'.heap ∧ s'.os = s₁.os ∧ AllBare s'.gens) s₁ := by
  have nT2 : a ∉ tabs.map (·.2) := fun z => by
    obtain ⟨q, hq, rfl⟩ := List.mem_map.mp z
    rw [hT q hq] at ha; cases ha
  cases hk : K.lookup a with
  | none => exact lk_at true KX hns hb hbb hlim hg hbm ha hi hl hr hT nT hC F hbind hsp (fun _ => hk) (.inl (.inr ⟨{ cls := .type "list", data := .seq vs.toArray }, by unfold hpE; rw [if_neg nT2, if_pos ⟨rfl, rfl⟩]⟩))
  | some o =>
    have e := KX a o hk
    rw [ha] at e; cases e
    exact lk_at false KX hns hb hbb hlim hg hbm ha hi hl hr hT nT hC F hbind hsp (fun h => (by cases h)) (.inr ⟨_, vs.toArray, 0, hk, rfl, rfl, rfl, by rw [List.size_toArray, hi.length]; exact hl, by simpa using vals_ints hi⟩)
end
end Lk
set_option autoImplicit false
set_option linter.all false
namespace Lk
open PySem PySem.Spec PyProof.Rows L2
/-- the law's promise -/
def spLaw (K : PySem.W.Frag) : Sp := fun vs H Q _ => ∃ (a : Addr) (ns : List Int), vs = [.ref a] ∧ SqL K H a (ns.map V.int) ∧ ns.length ≤ 63 ∧ ∀ H', Q (.bl true) H'
def wdSt (W : Wd) (p gr c : Addr) : Wd := { W with st := some (p, gr, c) }
/-- the end of a law's body: True is returned -/
def endL : En := ⟨fun _ _ => False, fun _ _ d => d = .bl true, fun _ _ => False, fun _ _ => False⟩
theorem RV.tru {W : Wd} {fl : Fl} {H G' H' : Hp} {v : V} (h : RV W fl H G' H' v (.bl true)) : v = .bl true := by
  cases fl with
  | f => exact R.blE h
  | n => obtain ⟨p, _, _, _, o⟩ := h; exact o.elim
  | b => obtain ⟨p, _, _, _, o⟩ := h; exact o.elim
theorem scr_gd {W : Wd} {H0 H : Hp} {p gr c a : Addr} {gs cs ns : List Int} (hst : W.st = some (p, gr, c)) (keep : ∀ b o, H0 b = some o → (∀ ps, o ≠ .tbl ps) → H b = some o) (h1 : H p = some (.dK (stK gr c 0 0))) (h2 : H gr = some (.lst (gs.map V.int))) (h3 : H c = some (.lst (cs.map V.int))) (hg : ∀ g ∈ gs, 0 ≤ g) (hc : ∀ g ∈ cs, 0 ≤ g) (hne : gr ≠ c)
    (np : H0 p = none) (ng : H0 gr = none) (nc : H0 c = none) (hq : SqL W.K H0 a (ns.map V.int)) : ∃ G, Gd W G H ∧ SqL W.K G a (ns.map V.int) ∧ G c = some (.lst (cs.map V.int)) := by
  have hcp : c ≠ p := fun z => by rw [z, h1] at h3; cases h3
  have wi : WI W H := fun a' gr' c' e => by
    rw [hst] at e; cases e
    exact ⟨⟨gs, cs, 0, 0, h1, h2, h3, Int.le_refl 0, Int.le_refl 0, hg, hc⟩, hne⟩
  have nsa : ∀ b, b ≠ p → b ≠ gr → ¬ stA W b := fun b k1 k2 ⟨a', gr', c', e, z⟩ => by
    rw [hst] at e; cases e
    exact z.elim k1 k2
  have mk : ∀ o : Option HO, (∀ u, o = some u → H0 a = some u ∧ ∀ ps, u ≠ .tbl ps) → Gd W (fun b => if b = c then some (.lst (cs.map V.int)) else if b = a then o else none) H := fun o ho => by
    refine ⟨fun b u h => ?_, fun b u h l => ?_, wi⟩
    · split at h
      · cases h; rename_i q; rw [q]; exact h3
      · split at h
        · rename_i q; rw [q]; exact keep _ _ (ho u h).1 (ho u h).2
        · cases h
    · split at h
      · rename_i q
        cases h
        rcases l with l | ⟨ps, l⟩
        · exact nsa b (by rw [q]; exact hcp) (by rw [q]; exact Ne.symm hne) l
        · cases l
      · split at h
        · rename_i q
          rcases l with l | ⟨ps, l⟩
          · exact nsa b (by rw [q]; exact ne_of_none (ho u h).1 np) (by rw [q]; exact ne_of_none (ho u h).1 ng) l
          · exact (ho u h).2 ps l
        · cases h
  have put : ∀ u, H0 a = some u → (∀ ps, u ≠ .tbl ps) → ∃ G, Gd W G H ∧ G a = some u ∧ G c = some (.lst (cs.map V.int)) := fun u e nt =>
    ⟨_, mk (some u) (fun u' e' => by cases e'; exact ⟨e, nt⟩), (if_neg (ne_of_none e nc)).trans (if_pos rfl), if_pos rfl⟩
  rcases hq with (h | ⟨o, h⟩) | h
  · obtain ⟨G, g1, g2, g3⟩ := put _ h fun ps z => by cases z
    exact ⟨G, g1, .inl (.inl g2), g3⟩
  · obtain ⟨G, g1, g2, g3⟩ := put _ h fun ps z => by cases z
    exact ⟨G, g1, .inl (.inr ⟨o, g2⟩), g3⟩
  · exact ⟨_, mk none (fun u h => by cases h), .inr h, if_pos rfl⟩
theorem law_ok {W : Wd} (hst : W.st = none) {base : Heap} {P : Pg} {cn fdn ex : List Str} (wo : ∀ st, WOk { W with st := st } base P cn fdn ex) {n : Nat} (hn : 1 ≤ n) {F FB : Addr} {fdB : FuncData} (hB : FnG W.P W.w W.K W.mg base 2 FB fdB ["script"] (spBeg W.K)) (mB : W.mg "_law_begun" = some (.ref FB)) (kB : PySem.W.keepIn W.K (.ref FB) = true) (bB : Binds W.K fdB ["script"] [])
    {name qual : Str} {params : Arguments} {scope : Scope} {dV kV doc pm cdv ct oc : Value} {an od : Option Addr} {osl : Array (Option Value)} {rest : List Stmt} {p1 p2 p3 p4 p5 : Pos} {own dic : List Nat} {N : List Str} {i : Nat} {code : S}
    (lk : W.K.lookup F = some ⟨oc, od, .func (PySem.W.fnOf name qual params (.Assign [.Name "state" p1] (.Call (.Name "_law_begun" p2) [.Name "script" p3] [] p4) p5 :: rest) scope dV kV doc pm an cdv ct), osl⟩) (hcd : PySem.W.codeIn W.K cdv qual = true) (S : FnScope N ["script"] scope)
    (h1 : tgtOf (ccOf P cn fdn ex N scope own dic) "state" = some (i + 1)) (h2 : slotOf (ccOf P cn fdn ex N scope own dic) "script" = some 0) (h3 : glob (ccOf P cn fdn ex N scope own dic) "_law_begun" = true) (h4 : cSs (cS 40 (ccOf P cn fdn ex N scope own dic)) rest = some code)
    (hD : ∀ ns : List Int, ns.length ≤ 63 → exs P.val (callN P n) noX code ((startR N.length [.val (.scr ns)]).set (i + 1) (.val .stt)) 0 endL) :
    FnG W.P W.w W.K W.mg base (n + 2) F (PySem.W.fnOf name qual params (.Assign [.Name "state" p1] (.Call (.Name "_law_begun" p2) [.Name "script" p3] [] p4) p5 :: rest) scope dV kV doc pm an cdv ct) ["script"] (spLaw W.K) := by
  refine fnG_of (k := n + 1) lk hcd S (fun vs H Q E h => ?_) fun A outer s H vs Q E gg hr h => ?_
  · obtain ⟨a, ns, rfl, _⟩ := h
    rfl
  · obtain ⟨a, ns, rfl, hS, hlen, k⟩ := h
    have wo0 : WOk W base P cn fdn ex := by
      have q := wo none
      have e : { W with st := none } = W := by rw [← hst]
      rw [e] at q; exact q
    have n0 : Gd W (fun _ => none) H := ⟨fun _ _ q => (nomatch q), fun _ _ q => (nomatch q), fun a gr c e => by rw [hst] at e; cases e⟩
    obtain ⟨xc, so⟩ := xc_of wo0 (gok wo0 n) (own := own) (dic := dic) (H1 := H) (outer := outer) (x := noX) (E := E) S hr n0 (fun _ _ _ h => h.elim) gg
    obtain ⟨s1, s2, s3⟩ := xc.tgt h1
    obtain ⟨t1, t2, t3, t4⟩ := xc.slot h2
    obtain ⟨g1, g2⟩ := xc.glo h3
    have sv : starEach [.Name "script" p3] (cxOf (L2.CX W.P W.w) W.P W.w W.K W.mg base N qual scope F cdv A outer s H E).env = (false, eval (.Name "script" p3) (cxOf (L2.CX W.P W.w) W.P W.w W.K W.mg base N qual scope F cdv A outer s H E).env) :: starEach [] (cxOf (L2.CX W.P W.w) W.P W.w W.K W.mg base N qual scope F cdv A outer s H E).env := star_cons rfl
    have hN0 : 0 < N.length := by
      have := (List.getElem?_eq_some_iff.mp t1).1
      exact this
    have hNi : i + 1 < N.length := (List.getElem?_eq_some_iff.mp s1).1
    have rest' : PSs (cxOf (L2.CX W.P W.w) W.P W.w W.K W.mg base N qual scope F cdv A outer s H E) rest (fun D σ H2 => ∃ (p gr c : Addr) (G0 H' : Hp), Gd (wdSt W p gr c) G0 H' ∧ tS ⟨wdSt W p gr c, P.val, callN P n, noX, H', fun cls d _ H => E cls d H, G0⟩ code D σ H2) := by
      refine ⟨fun pins s' σ H2 D I ⟨p, gr, c, G0, H', gd, h⟩ => ?_⟩
      obtain ⟨xc1, so1⟩ := xc_of (W := wdSt W p gr c) (wo (some (p, gr, c))) (gok (wo (some (p, gr, c))) n) (own := own) (dic := dic) (H1 := H) (s := s) (outer := outer) (x := noX) (E := E) S hr gd (fun _ _ _ h => h.elim) gg
      exact (body_ok h4 xc1 so1).run pins s' σ H2 D I h
    refine ⟨_, pss_cons (ps_set (i := i + 1) S.nd s1 s2 (pe_callG hB gg (hr.mono (by omega)) g1 mB kB bB (passAt so.takes) (pa_cons (pe_var t1 t2 t3 t4) pa_nil sv) g2 sv rfl) rfl s3) rest', ?_⟩
    have e0 : (L2.start N [V.ref a])[0]? = some (some (.ref a)) := by simp [L2.start]
    refine ⟨.ref a, e0, a, ns, rfl, hS, by omega, fun H' p gr c gs cs keep hp hgr hc ngs ncs hne np ng nc => ?_⟩
    obtain ⟨G0, gd, sq, gc⟩ := scr_gd (W := wdSt W p gr c) rfl keep hp hgr hc ngs ncs hne np ng nc hS
    have tl0 : TL (wdSt W p gr c) H' 0 := fun a' gr' c' e => by cases e; exact ⟨0, 0, hp, Int.le_refl _⟩
    refine ⟨p, gr, c, G0, H', gd, G0, (startR N.length [.val (.scr ns)]).set (i + 1) (.val .stt), 0, gd.step, ?_, ?_⟩
    · have sr0 : SR (wdSt W p gr c) H' G0 H' (L2.start N [V.ref a]) (startR N.length [.val (.scr ns)]) 0 := SR.start (ds := [.scr ns]) gd tl0 (.cons (.scr sq) .nil) hN0
      exact sr0.set (.stt rfl gc ncs)
    · refine exs_mono (callN_mono P n) _ _ ?_ (hD ns hlen)
      refine ⟨fun _ _ h => h.elim, fun _ fl d e v G' H2 st _ rv => ?_, fun _ _ h => h.elim, fun _ _ h => h.elim⟩
      subst e
      rw [rv.tru]
      exact k H2
end Lk
set_option autoImplicit false
set_option linter.all false
namespace Lk
open PySem PySem.Spec PyProof.Rows L2
section
variable (K : PySem.W.Frag) (P : Pg) (cn fdn ex : List Str)
/-- a def as the compiler left it, with one parameter script -/
def std1 (fd : FuncData) (N : List Str) : Bool := decide (fd.globals = mainGlobals) && fd.closure.isEmpty && decide (fd.builtins = builtinsNs) && PySem.W.codeIn K fd.code fd.qualname && plainB fd ["script"] && scopeB N ["script"] fd.scope
def nBeg : List Str := ["script", "great", ".0", "cell"]
def begB (F : Addr) : Bool := match K.lookup F with
  | some ⟨_, _, .func fd, _⟩ => (match fd.body with
    | .stmts [s1, .Return (some (.Dict [some (.Constant (.str a1) _ _), some (.Constant (.str a2) _ _), some (.Constant (.str a3) _ _), some (.Constant (.str a4) _ _)] [.Name a5 _, lc, .Constant (.int z1) _ _, .Constant (.int z2) _ _] _)) _] =>
      decide (a1 = "great") && decide (a2 = "cells") && decide (a3 = "left") && decide (a4 = "turn") && decide (a5 = "great") && decide (z1 = 0) && decide (z2 = 0) && std1 K fd nBeg &&
      decide (cS 40 (ccOf P cn fdn ex nBeg fd.scope [1] []) s1 = some (.own 1 cGreat)) && decide (cE 40 (ccOf P cn fdn ex nBeg fd.scope [1] []) lc = some cCells) && decide (slotOf (ccOf P cn fdn ex nBeg fd.scope [1] []) "great" = some 1)
    | _ => false)
  | _ => false
def lawB (F : Addr) (N : List Str) (own dic : List Nat) (i : Nat) (code : S) : Bool := match K.lookup F with
  | some ⟨_, _, .func fd, _⟩ => (match fd.body with
    | .stmts (.Assign [.Name a1 _] (.Call (.Name a2 _) [.Name a3 _] [] _) _ :: rest) =>
      decide (a1 = "state") && decide (a2 = "_law_begun") && decide (a3 = "script") && std1 K fd N && decide (tgtOf (ccOf P cn fdn ex N fd.scope own dic) "state" = some (i + 1)) && decide (slotOf (ccOf P cn fdn ex N fd.scope own dic) "script" = some 0) && glob (ccOf P cn fdn ex N fd.scope own dic) "_law_begun" &&
      decide (cSs (cS 40 (ccOf P cn fdn ex N fd.scope own dic)) rest = some code)
    | _ => false)
  | _ => false
def headB (N : List Str) (own dic : List Nat) (i : Nat) (code : S) : Bool := match refAt K "_law_begun", refAt K "law" with
  | some B, some F => begB K P cn fdn ex B && PySem.W.keepIn K (.ref B) && lawB K P cn fdn ex F N own dic i code
  | _, _ => false
end
section
variable {K : PySem.W.Frag} {P : Pg} {cn fdn ex : List Str}
theorem std1_ok {fd : FuncData} {N : List Str} (h : std1 K fd N = true) : fd.globals = mainGlobals ∧ fd.closure = [] ∧ fd.builtins = builtinsNs ∧ PySem.W.codeIn K fd.code fd.qualname = true ∧ Plain fd ["script"] ∧ FnScope N ["script"] fd.scope := by
  unfold std1 at h
  simp only [Bool.and_eq_true, decide_eq_true_eq, List.isEmpty_iff] at h
  obtain ⟨⟨⟨⟨⟨h1, h2⟩, h3⟩, h4⟩, h5⟩, h6⟩ := h
  exact ⟨h1, h2, h3, h4, plainB_ok h5, scopeB_ok h6⟩
theorem begB_ok {W : Wd} (hK : W.K = K) (hst : W.st = none) {base : Heap} (wo : WOk W base P cn fdn ex) {F : Addr} (h : begB K P cn fdn ex F = true) : ∃ fd, FnG W.P W.w W.K W.mg base 2 F fd ["script"] (spBeg W.K) ∧ Binds W.K fd ["script"] [] := by
  unfold begB at h
  split at h
  · rename_i oc od fd osl lk
    split at h
    · rename_i hb
      simp only [Bool.and_eq_true, decide_eq_true_eq] at h
      obtain ⟨⟨⟨⟨⟨⟨⟨⟨⟨⟨e1, e2⟩, e3⟩, e4⟩, e5⟩, e6⟩, e7⟩, hs⟩, c1⟩, c2⟩, c3⟩ := h
      subst e1 e2 e3 e4 e5 e6 e7
      obtain ⟨s1, s2, s3, s4, s5, s6⟩ := std1_ok hs
      refine ⟨fd, ?_, .all fun us hl => bind_pos s5 (by decide) us hl⟩
      obtain ⟨a1, a2, a3, a4, a5, a6, a7, a8, a9, a10, a11, a12, a13, a14, a15⟩ := fd
      simp only at s1 s2 s3 hb s4 s6 c1 c2 c3
      subst s1 s2 s3 hb
      exact begun_ok hst wo (by rw [hK]; exact lk) (by rw [hK]; exact s4) s6 c1 c2 c3
    · cases h
  · cases h
theorem lawB_ok {W : Wd} (hK : W.K = K) (hst : W.st = none) {base : Heap} (wo : ∀ st, WOk { W with st := st } base P cn fdn ex) {n : Nat} (hn : 1 ≤ n) {F FB : Addr} {fdB : FuncData} (hB : FnG W.P W.w W.K W.mg base 2 FB fdB ["script"] (spBeg W.K)) (mB : W.mg "_law_begun" = some (.ref FB)) (kB : PySem.W.keepIn W.K (.ref FB) = true) (bB : Binds W.K fdB ["script"] [])
    {own dic : List Nat} {N : List Str} {i : Nat} {code : S} (h : lawB K P cn fdn ex F N own dic i code = true) (hD : ∀ ns : List Int, ns.length ≤ 63 → exs P.val (callN P n) noX code ((startR N.length [.val (.scr ns)]).set (i + 1) (.val .stt)) 0 endL) :
    ∃ fd oc od osl, K.lookup F = some ⟨oc, od, .func fd, osl⟩ ∧ Plain fd ["script"] ∧ FnG W.P W.w W.K W.mg base (n + 2) F fd ["script"] (spLaw W.K) := by
  unfold lawB at h
  split at h
  · rename_i oc od fd osl lk
    split at h
    · rename_i hb
      simp only [Bool.and_eq_true, decide_eq_true_eq] at h
      obtain ⟨⟨⟨⟨⟨⟨⟨e1, e2⟩, e3⟩, hs⟩, c1⟩, c2⟩, c3⟩, c4⟩ := h
      subst e1 e2 e3
      obtain ⟨s1, s2, s3, s4, s5, s6⟩ := std1_ok hs
      refine ⟨fd, oc, od, osl, lk, s5, ?_⟩
      obtain ⟨a1, a2, a3, a4, a5, a6, a7, a8, a9, a10, a11, a12, a13, a14, a15⟩ := fd
      simp only at s1 s2 s3 hb s4 s6 c1 c2 c3 c4
      subst s1 s2 s3 hb
      exact law_ok hst wo hn hB mB kB bB (by rw [hK]; exact lk) (by rw [hK]; exact s4) s6 c1 c2 c3 c4 hD
    · cases h
  · cases h
end
/-- THE END: a law by one look at the written part and its data -/
theorem walk_lk {l : PySem.W.OpenLaw} {q : Program} {loose : List Str} {XP : (Str → Option Value) → Heap → Prop} {YP : World → Heap → Prop} {d : DefRec} {K : Params → PySem.W.Frag} (hl : l.most = some 63) (hdf : d.params.defaults = []) (hd : d.name = "law") (hY : ∀ (w : World) (h : Heap), YP w h → (K w.params).In h)
    {ents : List Ent} {vals : List (Str × D)} {kws : List (Str × List Str)} {cn fdn ex : List Str} {N : List Str} {own dic : List Nat} {i n : Nat} {code : S} (hn : 1 ≤ n) (hr : Room (n + 2) callerA)
    (h1 : ∀ w : World, chkB (K w.params) cn fdn ex ents vals kws = true) (h2 : ∀ w : World, headB (K w.params) (mkP ents vals kws) cn fdn ex N own dic i code = true)
    (hD : ∀ ns : List Int, ns.length ≤ 63 → exs (mkP ents vals kws).val (callN (mkP ents vals kws) n) noX code ((startR N.length [.val (.scr ns)]).set (i + 1) (.val .stt)) 0 endL) :
    PySem.W.WalkO q loose XP YP l.row.toRowW d [] (fun f vs => PySem.call f vs) := by
  refine Att.attach_callB hl hdf fun w s₀ s₁ mg mb fa o pm cd doc a vs ns G Y ho hd' hcd hmg hobj hints hlen hbits hg => ?_
  have KX := hY w _ Y
  have hh := h2 w
  unfold headB at hh
  split at hh
  · rename_i B F hB hF
    simp only [Bool.and_eq_true] at hh
    obtain ⟨⟨b1, b2⟩, b3⟩ := hh
    have mB := PySem.W.mg_of KX G.T.g (refAt_ok hB)
    have mF := PySem.W.mg_of KX G.T.g (refAt_ok hF)
    rw [hd] at hmg
    have : F = fa := by rw [mF] at hmg; cases hmg; rfl
    subst this
    have wo : ∀ (base : Heap), (K w.params).In base → base.Ns mainGlobals mg → ∀ st, WOk ⟨l.prog, w, K w.params, mg, st, cn, fdn⟩ base (mkP ents vals kws) cn fdn ex := fun base X Gn st => chk_ok X Gn (h1 w)
    have key : ∀ (base : Heap), (K w.params).In base → base.Ns mainGlobals mg → ∃ fd oc od osl, (K w.params).lookup F = some ⟨oc, od, .func fd, osl⟩ ∧ Plain fd ["script"] ∧ FnG l.prog w (K w.params) mg base (n + 2) F fd ["script"] (spLaw (K w.params)) := fun base X Gn => by
      obtain ⟨fdB, g1, g2⟩ := begB_ok (W := ⟨l.prog, w, K w.params, mg, none, cn, fdn⟩) rfl rfl (wo base X Gn none) b1
      exact lawB_ok (W := ⟨l.prog, w, K w.params, mg, none, cn, fdn⟩) rfl rfl (fun st => wo base X Gn st) hn g1 mB b2 g2 b3 hD
    obtain ⟨fd, oc, od, osl, lk, pl, _⟩ := key _ KX G.T.g
    refine lk_call (tabs := []) (fd := fd) (sp := spLaw (K w.params)) KX G.T.g G.T.b G.T.builtins G.T.nolimit hg G.T.bmain hobj hints (Nat.le_trans hlen (by decide)) hr (fun _ h => by cases h) (fun _ h => by cases h) (fun _ h => by cases h) (fun base X Gn _ => ?_) (fun s u => .of_eq (bind_pos pl (by decide) [u] rfl)) (fun H _ hS => ⟨a, ns, rfl, hS, hlen, fun _ => rfl⟩)
    obtain ⟨fd', oc', od', osl', lk', _, hF'⟩ := key base X Gn
    rw [lk] at lk'; cases lk'
    exact hF'
  · cases hh
end Lk
set_option autoImplicit false
set_option linter.all false
namespace Lk
open PySem
section
variable {P : Pg} {n : Nat} {f : Str} {fd : Fd} {as : List D} {t : Nat} {k : Kt} {x : XP}
theorem call_fn (h : P.fns f = some fd) (hI : fd.isI = false) (hl : as.length = fd.ps.length) (q : exs P.val (callN P n) x fd.body (startR fd.n (as.map .val)) t (endF k)) : callN P (n + 1) (.fn f) as [] t k x := by
  unfold callN
  simp only [h]
  unfold bindA
  rw [if_pos rfl, if_pos hl]
  simp only [hI, Bool.false_eq_true, if_false]
  exact q
theorem call_cl (h : P.fns f = some fd) (hI : fd.isI = true) (hl : as.length = fd.ps.length) (q : ∀ p, exs P.val (callN P n) x fd.body (startR fd.n (.own (.slf p f []) :: as.map .val)) t (endI p k)) : callN P (n + 2) (.fn f) as [] t k x := by
  unfold callN
  simp only [h]
  unfold bindA
  rw [if_pos rfl, if_pos hl]
  simp only [hI, if_true]
  exact q
end
end Lk
set_option autoImplicit false
set_option linter.all false
namespace Lk
open PySem
/-! ### flags of arguments -/
theorem bEx_nil {P : Prop} : ((∃ p ∈ ([] : List (Fl × D)), p.1 = Fl.b) → P) = True := by simp
theorem bEx_f {P : Prop} {d : D} {r : List (Fl × D)} : ((∃ p ∈ ((Fl.f, d) :: r), p.1 = Fl.b) → P) = ((∃ p ∈ r, p.1 = Fl.b) → P) := by simp
theorem bEx_n {P : Prop} {d : D} {r : List (Fl × D)} : ((∃ p ∈ ((Fl.n, d) :: r), p.1 = Fl.b) → P) = ((∃ p ∈ r, p.1 = Fl.b) → P) := by simp
theorem noB_nil : (∀ p ∈ ([] : List (Fl × D)), p.1 ≠ Fl.b) = True := by simp
theorem noB_f {d : D} {r : List (Fl × D)} : (∀ p ∈ ((Fl.f, d) :: r), p.1 ≠ Fl.b) = (∀ p ∈ r, p.1 ≠ Fl.b) := by simp
theorem noB_n {d : D} {r : List (Fl × D)} : (∀ p ∈ ((Fl.n, d) :: r), p.1 ≠ Fl.b) = (∀ p ∈ r, p.1 ≠ Fl.b) := by simp
theorem fnb : (Fl.f ≠ Fl.b) = True := by simp
theorem nnb : (Fl.n ≠ Fl.b) = True := by simp
/-! ### loops -/
section
variable {Φ : Cal} {g : Str → Option D} {x : XP}
theorem lcGo_map {α : Type} {step : D → List D → Nat → (Nat → List D → Prop) → Prop} (enc res : α → D) {t : Nat} {k : Nat → List D → Prop} : ∀ (l : List α) (acc : List D), acc.length + l.length ≤ sizeLine →
    (∀ a ∈ l, ∀ acc k', acc.length < sizeLine → k' t (acc ++ [res a]) → step (enc a) acc t k') → k t (acc ++ l.map res) → lcGo step (l.map enc) acc t k
  | [], acc, _, _, h => by simpa [lcGo] using h
  | a :: l, acc, hl, hs, h => by
    simp only [List.map_cons, lcGo]
    simp only [List.length_cons] at hl
    refine hs a List.mem_cons_self acc _ (by omega) (lcGo_map enc res l _ (by simp; omega) (fun b hb => hs b (List.mem_cons_of_mem _ hb)) ?_)
    simpa using h
theorem lcGo_filter {α : Type} {step : D → List D → Nat → (Nat → List D → Prop) → Prop} (enc res : α → D) (p : α → Bool) {t : Nat} {k : Nat → List D → Prop} : ∀ (l : List α) (acc : List D), acc.length + l.length ≤ sizeLine →
    (∀ a ∈ l, ∀ acc k', acc.length < sizeLine → k' t (if p a = true then acc ++ [res a] else acc) → step (enc a) acc t k') → k t (acc ++ (l.filter p).map res) → lcGo step (l.map enc) acc t k
  | [], acc, _, _, h => by simpa [lcGo] using h
  | a :: l, acc, hl, hs, h => by
    simp only [List.map_cons, lcGo]
    simp only [List.length_cons] at hl
    refine hs a List.mem_cons_self acc _ (by omega) ?_
    by_cases hp : p a = true
    · rw [if_pos hp]
      refine lcGo_filter enc res p l _ (by simp; omega) (fun b hb => hs b (List.mem_cons_of_mem _ hb)) ?_
      rw [List.filter_cons_of_pos hp] at h
      simpa using h
    · rw [if_neg hp]
      refine lcGo_filter enc res p l _ (by omega) (fun b hb => hs b (List.mem_cons_of_mem _ hb)) ?_
      rw [List.filter_cons_of_neg hp] at h
      exact h
/-- a comprehension of comprehensions -/
theorem lcGo_flat {α : Type} {step : D → List D → Nat → (Nat → List D → Prop) → Prop} (enc : α → D) (res : α → List D) {t : Nat} {k : Nat → List D → Prop} : ∀ (l : List α) (acc : List D), acc.length + (l.flatMap res).length ≤ sizeLine →
    (∀ a ∈ l, ∀ acc k', acc.length + (res a).length ≤ sizeLine → k' t (acc ++ res a) → step (enc a) acc t k') → k t (acc ++ l.flatMap res) → lcGo step (l.map enc) acc t k
  | [], acc, _, _, h => by simpa [lcGo] using h
  | a :: l, acc, hl, hs, h => by
    simp only [List.map_cons, lcGo]
    simp only [List.flatMap_cons, List.length_append] at hl
    refine hs a List.mem_cons_self acc _ (by omega) (lcGo_flat enc res l _ (by simp only [List.length_append]; omega) (fun b hb => hs b (List.mem_cons_of_mem _ hb)) ?_)
    simpa using h
/-- .. where the turn goes on -/
theorem lcGo_ind {step : D → List D → Nat → (Nat → List D → Prop) → Prop} (I : List D → List D → Nat → Prop) {k : Nat → List D → Prop} (hs : ∀ d r acc t k', I (d :: r) acc t → (∀ acc' t', I r acc' t' → k' t' acc') → step d acc t k') (hk : ∀ acc t, I [] acc t → k t acc) : ∀ (l acc : List D) (t : Nat), I l acc t → lcGo step l acc t k
  | [], acc, t, h => hk acc t h
  | d :: r, acc, t, h => hs d r acc t _ h fun acc' t' h' => lcGo_ind I hs hk r acc' t' h'
theorem forL_ind {body : Rho → Nat → En → Prop} {tg : Tg} {e : En} (I : List D → Rho → Nat → Prop)
    (hs : ∀ d r ρ t, I (d :: r) ρ t → ∀ e' : En, e'.rt = e.rt → (∀ ρ' t', I r ρ' t' → e'.nx t' ρ') → bindK tg d ρ fun ρ' => body ρ' t e') (hk : ∀ ρ t, I [] ρ t → e.nx t ρ) : ∀ (l : List D) (ρ : Rho) (t : Nat), I l ρ t → forL body tg l ρ t e
  | [], ρ, t, h => hk ρ t h
  | d :: r, ρ, t, h => by
    unfold forL
    exact hs d r ρ t h _ rfl fun ρ' t' h' => forL_ind I hs hk r ρ' t' h'
theorem forL_step {body : Rho → Nat → En → Prop} {tg : Tg} {e : En} {d : D} {r : List D} {ρ : Rho} {t : Nat} (h : ∀ e' : En, e'.rt = e.rt → (∀ t2 ρ2, forL body tg r ρ2 t2 e → e'.nx t2 ρ2) → (∀ t2 ρ2, forL body tg r ρ2 t2 e → e'.ct t2 ρ2) → (∀ t2 ρ2, e.nx t2 ρ2 → e'.bk t2 ρ2) → bindK tg d ρ fun ρ' => body ρ' t e') : forL body tg (d :: r) ρ t e := by
  unfold forL
  exact h _ rfl (fun _ _ h => h) (fun _ _ h => h) fun _ _ h => h
theorem whl_ind {c : Rho → Nat → (Nat → Bool → Prop) → Prop} {body : Rho → Nat → En → Prop} {e : En} (I : Nat → Rho → Nat → Prop)
    (hs : ∀ m ρ t, I m ρ t → ∀ e' : En, e'.rt = e.rt → (∀ m' ρ' t', m' < m → I m' ρ' t' → e'.nx t' ρ') → c ρ t fun t1 b => if b = true then body ρ t1 e' else e.nx t1 ρ) : ∀ (n m : Nat) (ρ : Rho) (t : Nat), m < n → I m ρ t → whlN c body n ρ t e
  | 0, m, ρ, t, h, _ => absurd h (Nat.not_lt_zero _)
  | n + 1, m, ρ, t, h, hi => by
    unfold whlN
    exact hs m ρ t hi _ rfl fun m' ρ' t' hm h' => whl_ind I hs n m' ρ' t' (by omega) h'
end
/-! ### plain data -/
theorem pure_int (i : Int) : (D.int i).pure = true := rfl
theorem pure_str (s : Str) : (D.str s).pure = true := rfl
theorem pure_tup (l : List D) : (D.tup l).pure = pureL l := by simp [D.pure, pureL, D.isPy, D.py, PyData.plain]
theorem pure_lst (l : List D) : (D.lst l).pure = pureL l := by simp [D.pure, pureL, D.isPy, D.py, PyData.plain]
theorem pureL_nil : pureL [] = true := rfl
theorem pureL_cons (d : D) (r : List D) : pureL (d :: r) = (d.pure && pureL r) := by
  simp only [pureL, D.pure, isPyL, pyL, PyData.plainAll]
  cases d.isPy <;> cases isPyL r <;> cases d.py.plain <;> simp
theorem pureL_all {l : List D} (h : ∀ d ∈ l, d.pure = true) : pureL l = true := by
  induction l with
  | nil => rfl
  | cons d r ih => rw [pureL_cons, h d List.mem_cons_self, ih fun d hd => h d (List.mem_cons_of_mem _ hd)]; rfl
theorem pyL_map (l : List D) : pyL l = l.map D.py := by
  induction l with
  | nil => rfl
  | cons d r ih => simp [pyL, ih]
theorem depthAll_le {l : List D} {n : Nat} (h : ∀ d ∈ l, d.py.depth ≤ n) : PyData.depthAll (pyL l) ≤ n := by
  induction l with
  | nil => simp [pyL, PyData.depthAll]
  | cons d r ih =>
    simp only [pyL, PyData.depthAll]
    have := h d List.mem_cons_self
    have := ih fun d hd => h d (List.mem_cons_of_mem _ hd)
    omega
theorem intsOf_map (l : List Int) : intsOf (l.map D.int) = some l := by
  induction l with
  | nil => rfl
  | cons i r ih => simp [intsOf, ih]
theorem blsOf_map {α : Type} (p : α → Bool) (l : List α) : blsOf (l.map fun a => D.bl (p a)) = some (l.map p) := by
  induction l with
  | nil => rfl
  | cons i r ih => simp [blsOf, ih]
/-- equality on data is the encoded one -/
structure Cod {α : Type} [DecidableEq α] (enc : α → D) (n : Nat) : Prop where
  pure : ∀ a, (enc a).pure = true
  dep : ∀ a, (enc a).py.depth ≤ n
  eqv : ∀ a b, PyData.eqv (enc a).py (enc b).py = decide (a = b)
theorem Cod.int : Cod D.int 0 := ⟨fun _ => rfl, fun _ => by simp [D.py, PyData.depth], fun a b => by
  simp only [D.py, PyData.eqv]
  by_cases h : a = b <;> simp [h]⟩
theorem Cod.str : Cod D.str 0 := ⟨fun _ => rfl, fun _ => by simp [D.py, PyData.depth], fun a b => by
  simp only [D.py, PyData.eqv]
  by_cases h : a = b <;> simp [h]⟩
section
variable {α β : Type} [DecidableEq α] [DecidableEq β] {enc : α → D} {n : Nat} {encb : β → D} {m : Nat}
theorem Cod.mono (h : Cod enc n) (hm : n ≤ m) : Cod enc m := ⟨h.pure, fun a => Nat.le_trans (h.dep a) hm, h.eqv⟩
theorem Cod.eqvAll (h : Cod enc n) : ∀ a b : List α, PyData.eqvAll (pyL (a.map enc)) (pyL (b.map enc)) = decide (a = b)
  | [], [] => by simp [pyL, PyData.eqvAll]
  | [], _ :: _ => by simp [pyL, PyData.eqvAll]
  | _ :: _, [] => by simp [pyL, PyData.eqvAll]
  | a :: r, b :: q => by
    simp only [List.map_cons, pyL, PyData.eqvAll, h.eqv, Cod.eqvAll h r q]
    by_cases h1 : a = b <;> by_cases h2 : r = q <;> simp [h1, h2]
theorem Cod.tup (h : Cod enc n) : Cod (fun l : List α => D.tup (l.map enc)) (n + 1) := ⟨fun l => by
    rw [pure_tup]
    exact pureL_all fun d hd => by obtain ⟨a, _, rfl⟩ := List.mem_map.mp hd; exact h.pure a, fun l => by
    simp only [D.py, PyData.depth]
    have := depthAll_le (l := l.map enc) (n := n) fun d hd => by obtain ⟨a, _, rfl⟩ := List.mem_map.mp hd; exact h.dep a
    omega, fun a b => by simp only [D.py, PyData.eqv]; exact h.eqvAll a b⟩
theorem Cod.lst (h : Cod enc n) : Cod (fun l : List α => D.lst (l.map enc)) (n + 1) := ⟨fun l => by
    rw [pure_lst]
    exact pureL_all fun d hd => by obtain ⟨a, _, rfl⟩ := List.mem_map.mp hd; exact h.pure a, fun l => by
    simp only [D.py, PyData.depth]
    have := depthAll_le (l := l.map enc) (n := n) fun d hd => by obtain ⟨a, _, rfl⟩ := List.mem_map.mp hd; exact h.dep a
    omega, fun a b => by simp only [D.py, PyData.eqv]; exact h.eqvAll a b⟩
theorem Cod.pair (h : Cod enc n) (hb : Cod encb n) : Cod (fun p : α × β => D.tup [enc p.1, encb p.2]) (n + 1) := ⟨fun p => by
    rw [pure_tup, pureL_cons, pureL_cons, h.pure, hb.pure]; rfl, fun p => by
    simp only [D.py, PyData.depth, pyL, PyData.depthAll]
    have := h.dep p.1
    have := hb.dep p.2
    omega, fun p q => by
    simp only [D.py, PyData.eqv, pyL, PyData.eqvAll, h.eqv, hb.eqv]
    obtain ⟨a, b⟩ := p
    obtain ⟨c, d⟩ := q
    by_cases h1 : a = c <;> by_cases h2 : b = d <;> simp [h1, h2]⟩
theorem Cod.eq (h : Cod enc n) (hn : n ≤ 190) (a b : α) (k : Bool → Prop) (q : k (decide (a = b))) : eqD (enc a) (enc b) k :=
  ⟨h.pure a, h.pure b, by have := h.dep a; have := h.dep b; omega, by rw [h.eqv]; exact q⟩
theorem Cod.anyEq (h : Cod enc n) (a : α) (l : List α) [inst : Decidable (a ∈ l)] : anyEq (enc a) (l.map enc) = decide (a ∈ l) := by
  have key : ∀ l : List α, (Lk.anyEq (enc a) (l.map enc) = true) ↔ a ∈ l := fun l => by
    unfold Lk.anyEq
    rw [pyL_map]
    induction l with
    | nil => simp
    | cons b r ih =>
      simp only [List.map_cons, List.any_cons, h.eqv, Bool.or_eq_true, decide_eq_true_eq, ih, List.mem_cons]
      exact ⟨fun z => z.imp Eq.symm id, fun z => z.imp Eq.symm id⟩
  by_cases e : a ∈ l
  · rw [(key l).mpr e, decide_eq_true e]
  · rw [decide_eq_false e]
    cases q : Lk.anyEq (enc a) (l.map enc) with
    | true => exact absurd ((key l).mp q) e
    | false => rfl
theorem Cod.memL (h : Cod enc n) (hn : n ≤ 190) (a : α) (l : List α) [inst : Decidable (a ∈ l)] (k : Bool → Prop) (q : k (decide (a ∈ l))) : inD (enc a) (.lst (l.map enc)) k :=
  ⟨h.pure a, pureL_all fun d hd => by obtain ⟨a, _, rfl⟩ := List.mem_map.mp hd; exact h.pure a, by have := h.dep a; omega, by rw [h.anyEq]; exact q⟩
theorem Cod.memT (h : Cod enc n) (hn : n ≤ 190) (a : α) (l : List α) [inst : Decidable (a ∈ l)] (k : Bool → Prop) (q : k (decide (a ∈ l))) : inD (enc a) (.tup (l.map enc)) k :=
  ⟨h.pure a, pureL_all fun d hd => by obtain ⟨a, _, rfl⟩ := List.mem_map.mp hd; exact h.pure a, by have := h.dep a; omega, by rw [h.anyEq]; exact q⟩
theorem eqD_int {i j : Int} {k : Bool → Prop} (q : k (decide (i = j))) : eqD (.int i) (.int j) k := Cod.int.eq (by omega) i j k q
theorem eqD_str {i j : Str} {k : Bool → Prop} (q : k (decide (i = j))) : eqD (.str i) (.str j) k := Cod.str.eq (by omega) i j k q
end
theorem pow18 {k : K1} : powD (.int 10) (.int 18) k = k .f (.int 1000000000000000000) := by
  refine propext ⟨fun h => ?_, fun h => pow_10_18 (by simpa using h)⟩
  have := h.2
  simpa using this
/-! ### items -/
theorem atI_nat {α : Type} (l : List α) (i : Nat) (h : i < l.length) : L2.atI l (i : Int) = l[i]? := by
  unfold L2.atI L2.ixN
  rw [if_pos (by omega), if_pos (by omega)]
  simp
theorem atI_map {α β : Type} {f : α → β} {l : List α} {i : Int} {a : α} (h0 : 0 ≤ i) (h : l[i.toNat]? = some a) : L2.atI (l.map f) i = some (f a) := by
  have hl := (List.getElem?_eq_some_iff.mp h).1
  have : i = ((i.toNat : Nat) : Int) := by omega
  rw [this, atI_nat _ _ (by simpa using hl), List.getElem?_map, h]
  rfl
theorem log2_lt {m n : Nat} (h : m < 2 ^ n) : m.log2 ≤ n := by
  by_cases e : m = 0
  · subst e; simp
  · exact Nat.le_of_lt ((Nat.log2_lt e).mpr h)
theorem cmul_lt (a b : Nat) {i j : Int} (hi : i.natAbs < 2 ^ a) (hj : j.natAbs < 2 ^ b) (h : a + b < 1000000) : L2.CMulW i j := by
  have := log2_lt hi
  have := log2_lt hj
  unfold L2.CMulW
  omega
theorem CMulW_small {i j : Int} (hi : i.natAbs < 2 ^ 64) (hj : j.natAbs < 2 ^ 64) : L2.CMulW i j := cmul_lt 64 64 hi hj (by omega)
theorem sz0 : (0 ≤ sizeLine) = True := by rw [sizeLine_eq]; simp
theorem sz1 : (1 ≤ sizeLine) = True := by rw [sizeLine_eq]; simp
theorem sz2 : (2 ≤ sizeLine) = True := by rw [sizeLine_eq]; simp
theorem sz3 : (3 ≤ sizeLine) = True := by rw [sizeLine_eq]; simp
theorem sz4 : (4 ≤ sizeLine) = True := by rw [sizeLine_eq]; simp
theorem sizeL {a : Nat} (h : a ≤ 1000000) : a ≤ sizeLine := by rw [sizeLine_eq]; omega
theorem in_int2 {i a b : Int} {k : Bool → Prop} : inD (.int i) (.tup [.int a, .int b]) k = k (decide (i = a ∨ i = b)) := by
  have e := Cod.int.anyEq i [a, b]
  simp only [List.map_cons, List.map_nil, List.mem_cons, List.not_mem_nil, or_false] at e
  refine propext ⟨fun h => ?_, fun h => ⟨rfl, rfl, by simp [D.py, pyL, PyData.depth, PyData.depthAll], by rw [e]; exact h⟩⟩
  have := h.2.2.2
  rwa [e] at this
theorem in_str2 {i a b : Str} {k : Bool → Prop} : inD (.str i) (.tup [.str a, .str b]) k = k (decide (i = a ∨ i = b)) := by
  have e := Cod.str.anyEq i [a, b]
  simp only [List.map_cons, List.map_nil, List.mem_cons, List.not_mem_nil, or_false] at e
  refine propext ⟨fun h => ?_, fun h => ⟨rfl, rfl, by simp [D.py, pyL, PyData.depth, PyData.depthAll], by rw [e]; exact h⟩⟩
  have := h.2.2.2
  rwa [e] at this
theorem eq_nilL {l : List D} (h : pureL l = true) {k : Bool → Prop} (q : k l.isEmpty) : eqD (.lst l) (.lst []) k := by
  refine ⟨by rw [pure_lst]; exact h, rfl, by simp [D.py, pyL, PyData.depth, PyData.depthAll], ?_⟩
  have : PyData.eqv (D.lst l).py (D.lst []).py = l.isEmpty := by cases l <;> simp [D.py, pyL, PyData.eqv, PyData.eqvAll]
  rw [this]; exact q
theorem eq_nilT {l : List D} (h : pureL l = true) {k : Bool → Prop} (q : k l.isEmpty) : eqD (.tup l) (.tup []) k := by
  refine ⟨by rw [pure_tup]; exact h, rfl, by simp [D.py, pyL, PyData.depth, PyData.depthAll], ?_⟩
  have : PyData.eqv (D.tup l).py (D.tup []).py = l.isEmpty := by cases l <;> simp [D.py, pyL, PyData.eqv, PyData.eqvAll]
  rw [this]; exact q
theorem atI0 {α : Type} {a : α} {l : List α} : L2.atI (a :: l) 0 = some a := by simp [L2.atI, L2.ixN]
theorem atI1 {α : Type} {a b : α} {l : List α} : L2.atI (a :: b :: l) 1 = some b := by
  have := atI_nat (a :: b :: l) 1 (by simp)
  simpa using this
theorem atI2 {α : Type} {a b c : α} {l : List α} : L2.atI (a :: b :: c :: l) 2 = some c := by
  have := atI_nat (a :: b :: c :: l) 2 (by simp)
  simpa using this
theorem cut_to (l : List D) (a : Nat) : cutD l none (some (a : Int)) = l.take a := by
  unfold cutD
  rw [HT.sIx_none, HT.sIx_nat, List.drop_zero, Nat.sub_zero]
  rcases Nat.le_total a l.length with h | h
  · rw [Nat.min_eq_left h]
  · rw [Nat.min_eq_right h, List.take_of_length_le (Nat.le_refl _), List.take_of_length_le h]
theorem cut_from (l : List D) (a : Nat) : cutD l (some (a : Int)) none = l.drop a := by
  unfold cutD
  rw [HT.sIx_none, HT.sIx_nat]
  rcases Nat.le_total a l.length with h | h
  · rw [Nat.min_eq_left h, List.take_of_length_le (by simp)]
  · rw [Nat.min_eq_right h, Nat.sub_self, List.take_zero, List.drop_eq_nil_of_le h]
/-! ### steps -/
theorem ofStr_inj (a b : String) : (Str.ofString a = Str.ofString b) = (a = b) := by
  refine propext ⟨fun h => ?_, fun h => h ▸ rfl⟩
  rw [Str.ofString_eq_toList, Str.ofString_eq_toList] at h
  have h1 : a.toList.map Char.toNat = b.toList.map Char.toNat := by
    have := congrArg Str.cps h
    simpa using this
  have inj : ∀ x y : Char, x.toNat = y.toNat → x = y := fun x y e => by
    apply Char.ext
    apply UInt32.toNat_inj.mp
    exact e
  have h2 : a.toList = b.toList := by
    generalize a.toList = l at h1
    generalize b.toList = r at h1
    induction l generalizing r with
    | nil => cases r with | nil => rfl | cons _ _ => simp at h1
    | cons x l ih =>
      cases r with
      | nil => simp at h1
      | cons y r =>
        simp only [List.map_cons, List.cons.injEq] at h1
        rw [inj x y h1.1, ih r h1.2]
  exact String.toList_inj.mp h2
section
variable {k : K1} {kb : Bool → Prop} {kd : D → Prop} {kl : List D → Prop} {kr : Rho → Prop} {t : Nat} {i j : Int} {a b d : D} {l r : List D} {s u : Str} {ρ : Rho} {v : Sv} {n : Nat}
theorem getV_v0 : getV (.val d :: ρ) 0 k = k .f d := rfl
theorem getV_o0 : getV (.own d :: ρ) 0 k = k .b d := rfl
theorem getV_s : getV (v :: ρ) (n + 1) k = getV ρ n k := by simp only [getV, List.getElem?_cons_succ]
theorem getO_o0 : getO (.own d :: ρ) 0 kd = kd d := rfl
theorem getO_s : getO (v :: ρ) (n + 1) kd = getO ρ n kd := by simp only [getO, List.getElem?_cons_succ]
theorem rtvD_v0 : rtvD (.val d :: ρ) 0 k = k .f d := rfl
theorem rtvD_o0 : rtvD (.own d :: ρ) 0 k = k .n d := rfl
theorem rtvD_s : rtvD (v :: ρ) (n + 1) k = rtvD ρ n k := by simp only [rtvD, List.getElem?_cons_succ]
theorem frzD_v0 : frzD (.val d :: ρ) 0 kr = kr (.val d :: ρ) := rfl
theorem frzD_o0 : frzD (.own d :: ρ) 0 kr = kr (.val d :: ρ) := rfl
theorem bind_one : bindK (.one n) d ρ kr = kr (ρ.set n (.val d)) := rfl
theorem bind_many {is : List Nat} : bindK (.many is) (.tup l) ρ kr = match bindMany is l ρ with | some ρ' => kr ρ' | none => False := rfl
theorem trD_bl {q : Bool} : trD (.bl q) kb = kb q := rfl
theorem trD_non : trD .non kb = kb false := rfl
theorem trD_int : trD (.int i) kb = kb (i != 0) := rfl
theorem trD_lst : trD (.lst l) kb = kb !l.isEmpty := rfl
theorem trD_tup : trD (.tup l) kb = kb !l.isEmpty := rfl
theorem bin_add : binD .Add a b k = addD a b k := rfl
theorem bin_sub : binD .Sub a b k = subD a b k := rfl
theorem bin_mul : binD .Mult a b k = mulD a b k := rfl
theorem bin_mod : binD .Mod a b k = modD a b k := rfl
theorem bin_fdv : binD .FloorDiv a b k = fdivD a b k := rfl
theorem bin_pow : binD .Pow a b k = powD a b k := rfl
theorem add_int : addD (.int i) (.int j) k = k .f (.int (i + j)) := rfl
theorem add_tup : addD (.tup l) (.tup r) k = (l.length + r.length ≤ sizeLine ∧ k .f (.tup (l ++ r))) := rfl
theorem add_lst : addD (.lst l) (.lst r) k = (l.length + r.length ≤ sizeLine ∧ k .n (.lst (l ++ r))) := rfl
theorem sub_int : subD (.int i) (.int j) k = k .f (.int (i - j)) := rfl
theorem mul_int : mulD (.int i) (.int j) k = (L2.CMulW i j ∧ k .f (.int (i * j))) := rfl
theorem mod_int : modD (.int i) (.int j) k = (j ≠ 0 ∧ k .f (.int (i.fmod j))) := rfl
theorem fdv_int : fdivD (.int i) (.int j) k = (L2.CDivN i j ∧ k .f (.int (i.fdiv j))) := rfl
theorem cmp_eq : cmpD .Eq a b kb = eqD a b kb := rfl
theorem cmp_ne : cmpD .NotEq a b kb = eqD a b fun r => kb (!r) := rfl
theorem cmp_in : cmpD .In a b kb = inD a b kb := rfl
theorem cmp_ni : cmpD .NotIn a b kb = inD a b fun r => kb (!r) := rfl
theorem cmp_lt : cmpD .Lt (.int i) (.int j) kb = kb (decide (i < j)) := rfl
theorem cmp_le : cmpD .LtE (.int i) (.int j) kb = kb (decide (i ≤ j)) := rfl
theorem cmp_gt : cmpD .Gt (.int i) (.int j) kb = kb (decide (j < i)) := rfl
theorem cmp_ge : cmpD .GtE (.int i) (.int j) kb = kb (decide (j ≤ i)) := rfl
theorem eq_int : eqD (.int i) (.int j) kb = kb (decide (i = j)) := by
  refine propext ⟨fun h => ?_, eqD_int⟩
  have := h.2.2.2
  rwa [show PyData.eqv (D.int i).py (D.int j).py = decide (i = j) from Cod.int.eqv i j] at this
theorem eq_str : eqD (.str s) (.str u) kb = kb (decide (s = u)) := by
  refine propext ⟨fun h => ?_, eqD_str⟩
  have := h.2.2.2
  rwa [show PyData.eqv (D.str s).py (D.str u).py = decide (s = u) from Cod.str.eqv s u] at this
theorem ix_tup : ixD t (.tup l) (.int i) kd = ∃ d, L2.atI l i = some d ∧ kd d := rfl
theorem ix_lst : ixD t (.lst l) (.int i) kd = ∃ d, L2.atI l i = some d ∧ kd d := rfl
theorem ix_left : ixD t .stt (.str "left") kd = ∀ i : Int, 0 ≤ i → kd (.int i) := rfl
theorem ix_turn : ixD t .stt (.str "turn") kd = ∀ i : Int, 0 ≤ i → i ≤ t → kd (.int i) := by
  show sttD t _ _ = _
  unfold sttD
  rw [if_neg (by decide), if_pos rfl]
theorem ix_cells : ixD t .stt (.str "cells") kd = ∀ ns : List Int, (∀ n ∈ ns, 0 ≤ n) → kd (.lst (ns.map .int)) := by
  show sttD t _ _ = _
  unfold sttD
  rw [if_neg (by decide), if_neg (by decide), if_pos rfl]
theorem sts_turn {kn : Nat → Prop} : stsD "turn" .stt (.int i) t kn = (0 ≤ i ∧ kn i.toNat) := rfl
theorem sts_left {kn : Nat → Prop} : stsD "left" .stt (.int i) t kn = (0 ≤ i ∧ kn t) := rfl
theorem len_tup : bltD .len [.tup l] k = k .f (.int l.length) := rfl
theorem len_lst : bltD .len [.lst l] k = k .f (.int l.length) := rfl
theorem len_dct {m : List (D × D)} : bltD .len [.dct m] k = k .f (.int m.length) := rfl
theorem len_dcl {m : List (D × D)} : bltD .len [.dcl m] k = k .f (.int m.length) := rfl
theorem blt_abs : bltD .abs [.int i] k = k .f (.int (if i < 0 then -i else i)) := rfl
theorem blt_int : bltD .int [.int i] k = k .f (.int i) := rfl
theorem blt_max : bltD .max [.int i, .int j] k = k .f (.int (if j > i then j else i)) := rfl
theorem blt_min : bltD .min [.int i, .int j] k = k .f (.int (if j < i then j else i)) := rfl
theorem blt_tupL : bltD .tuple [.lst l] k = k .f (.tup l) := rfl
theorem blt_tupT : bltD .tuple [.tup l] k = k .f (.tup l) := rfl
theorem blt_lstL : bltD .list [.lst l] k = k .n (.lst l) := rfl
theorem blt_lstT : bltD .list [.tup l] k = k .n (.lst l) := rfl
theorem it_tup : iterD (.tup l) kl = kl l := rfl
theorem it_lst : iterD (.lst l) kl = kl l := rfl
theorem it_dcl {m : List (D × D)} : iterD (.dcl m) kl = kl (m.map (·.1)) := rfl
theorem rng_1 : rngD [.int j] kl = (-(2 ^ 62) ≤ j ∧ j < 2 ^ 62 ∧ kl (rangeL 0 j)) := rfl
theorem opt_n {ki : Option Int → Prop} : optI none ki = ki none := rfl
theorem opt_s {ki : Option Int → Prop} : optI (some (.int i)) ki = ki (some i) := rfl
theorem sl_tup {lo hi : Option Int} : slD (.tup l) lo hi k = k .f (.tup (cutD l lo hi)) := rfl
theorem sl_lst {lo hi : Option Int} : slD (.lst l) lo hi k = k .n (.lst (cutD l lo hi)) := rfl
theorem tn_int {c : String} : isTn (.int i) (.b c) = some (c == "int") := rfl
theorem tn_tup {c : String} : isTn (.tup l) (.b c) = some (c == "tuple") := rfl
theorem tn_lst {c : String} : isTn (.lst l) (.b c) = some (c == "list") := rfl
theorem tn_str {c : String} : isTn (.str s) (.b c) = some (c == "str") := rfl
theorem tn_non {c : String} : isTn .non (.b c) = some false := rfl
theorem tn_obj {c c' : Str} {fs : List (Str × D)} : isTn (.obj c' fs) (.o c) = some (c == c') := rfl
theorem fset_slf {p : Nat} {c f : Str} {fs : List (Str × D)} : fsetD (.slf p c fs) f d kd = (fs.length < 1000 ∧ kd (.slf p c (putFD f d fs))) := rfl
theorem self_slf {p q : Nat} {c : Str} {fs : List (Str × D)} : selfD p (.slf q c fs) k = (q = p ∧ k .n (.obj c fs)) := rfl
end
end Lk
set_option autoImplicit false
set_option linter.all false
namespace Lk
open PySem
/-! ### corners -/
def corners : Nat → List (List Int)
  | 0 => [[]]
  | m + 1 => (corners m).flatMap fun c => [c ++ [0], c ++ [1]]
def eC (c : List Int) : D := .tup (c.map .int)
def eCs (l : List (List Int)) : D := .lst (l.map eC)
def eCt (l : List (List Int)) : D := .tup (l.map eC)
theorem cod_eC : Cod eC 1 := Cod.int.tup
section
variable {k : K1} {kd : D → Prop} {kl : List D → Prop} {t : Nat} {c : List Int} {b : Int} {l r : List (List Int)} {a a' : List Int}
theorem it_eC : iterD (eC c) kl = kl (c.map .int) := rfl
theorem it_eCs : iterD (eCs l) kl = kl (l.map eC) := rfl
theorem it_eCt : iterD (eCt l) kl = kl (l.map eC) := rfl
theorem add_eC : addD (eC c) (.tup [.int b]) k = (c.length + 1 ≤ sizeLine ∧ k .f (eC (c ++ [b]))) := by
  simp [eC, addD]
theorem add_eCs : addD (eCs l) (.lst [eC a, eC a']) k = (l.length + 2 ≤ sizeLine ∧ k .n (eCs (l ++ [a, a']))) := by
  simp [eCs, addD]
theorem len_eC : bltD .len [eC c] k = k .f (.int c.length) := by simp [eC, bltD, lenD]
theorem len_eCs : bltD .len [eCs l] k = k .f (.int l.length) := by simp [eCs, bltD, lenD]
theorem len_eCt : bltD .len [eCt l] k = k .f (.int l.length) := by simp [eCt, bltD, lenD]
theorem tup_eCs : bltD .tuple [eCs l] k = k .f (eCt l) := rfl
theorem ix_eC {p : Nat} (hp : p < c.length) (h : kd (.int (c.getD p 0))) : ixD t (eC c) (.int p) kd := by
  refine ⟨_, atI_map (by omega) (a := c.getD p 0) ?_, h⟩
  rw [Int.toNat_natCast, List.getD_eq_getElem?_getD, List.getElem?_eq_getElem hp]
  rfl
theorem eCs_nil : (D.lst [] : D) = eCs [] := rfl
end
theorem flat2_len {α β : Type} (f g : α → β) : ∀ l : List α, (l.flatMap fun c => [f c, g c]).length = 2 * l.length
  | [] => rfl
  | a :: l => by simp only [List.flatMap_cons, List.length_append, List.length_cons, List.length_nil, flat2_len f g l]; omega
theorem corners_len : ∀ m, (corners m).length = 2 ^ m
  | 0 => rfl
  | m + 1 => by rw [corners, flat2_len, corners_len m]; omega
theorem corners_mem : ∀ {m : Nat} {c : List Int}, c ∈ corners m → c.length = m ∧ ∀ b ∈ c, b = 0 ∨ b = 1
  | 0, c, h => by simp [corners] at h; subst h; simp
  | m + 1, c, h => by
    simp only [corners, List.mem_flatMap, List.mem_cons, List.not_mem_nil, or_false] at h
    obtain ⟨d, hd, h⟩ := h
    obtain ⟨h1, h2⟩ := corners_mem hd
    rcases h with rfl | rfl
    · refine ⟨by simp [h1], fun b hb => ?_⟩
      rcases List.mem_append.mp hb with hb | hb
      · exact h2 b hb
      · simp at hb; exact .inl hb
    · refine ⟨by simp [h1], fun b hb => ?_⟩
      rcases List.mem_append.mp hb with hb | hb
      · exact h2 b hb
      · simp at hb; exact .inr hb
/-- a corner's number -/
def num (c : List Int) : Int := c.foldl (fun a b => 2 * a + b) 0
theorem num_snoc (c : List Int) (b : Int) : num (c ++ [b]) = 2 * num c + b := by simp [num]
theorem flat2_get {α β : Type} (f g : α → β) : ∀ (l : List α) (i : Nat), (l.flatMap fun c => [f c, g c])[2 * i]? = l[i]?.map f ∧ (l.flatMap fun c => [f c, g c])[2 * i + 1]? = l[i]?.map g
  | [], i => by simp
  | a :: l, 0 => by simp
  | a :: l, i + 1 => by
    have := flat2_get f g l i
    simp only [List.flatMap_cons, List.cons_append, List.nil_append, List.getElem?_cons_succ]
    rw [show 2 * (i + 1) = 2 * i + 1 + 1 from by omega]
    simpa using this
theorem corners_num : ∀ {m : Nat} {c : List Int}, c ∈ corners m → 0 ≤ num c ∧ num c < 2 ^ m ∧ (corners m)[(num c).toNat]? = some c
  | 0, c, h => by simp [corners] at h; subst h; simp [num, corners]
  | m + 1, c, h => by
    simp only [corners, List.mem_flatMap, List.mem_cons, List.not_mem_nil, or_false] at h
    obtain ⟨d, hd, h⟩ := h
    obtain ⟨h1, h2, h3⟩ := corners_num hd
    have e : (2 : Int) ^ (m + 1) = 2 * 2 ^ m := by rw [Int.pow_succ]; omega
    obtain ⟨q1, q2⟩ := flat2_get (fun c : List Int => c ++ [(0 : Int)]) (fun c => c ++ [1]) (corners m) (num d).toNat
    rcases h with rfl | rfl
    · rw [num_snoc]
      refine ⟨by omega, by omega, ?_⟩
      rw [show (2 * num d + 0).toNat = 2 * (num d).toNat from by omega, corners, q1, h3]
      rfl
    · rw [num_snoc]
      refine ⟨by omega, by omega, ?_⟩
      rw [show (2 * num d + 1).toNat = 2 * (num d).toNat + 1 from by omega, corners, q2, h3]
      rfl
theorem corners_nodup : ∀ m, (corners m).Nodup
  | 0 => by simp [corners]
  | m + 1 => by
    rw [corners]
    have key : ∀ l : List (List Int), l.Nodup → (l.flatMap fun c => [c ++ [(0 : Int)], c ++ [1]]).Nodup := fun l => by
      induction l with
      | nil => intro _; simp
      | cons a r ih =>
        intro h
        rw [List.nodup_cons] at h
        simp only [List.flatMap_cons, List.cons_append, List.nil_append, List.nodup_cons, List.mem_cons, List.mem_flatMap, List.not_mem_nil, or_false]
        refine ⟨?_, ?_, ih h.2⟩
        · rintro (z | ⟨b, hb, z | z⟩)
          · have := List.append_inj_right' z rfl; simp at this
          · exact h.1 (by rw [List.append_cancel_right z]; exact hb)
          · have := List.append_inj_right' z rfl; simp at this
        · rintro ⟨b, hb, z | z⟩
          · have := List.append_inj_right' z rfl; simp at this
          · exact h.1 (by rw [List.append_cancel_right z]; exact hb)
    exact key _ (corners_nodup m)
theorem rangeL_len (m : Nat) : (rangeL 0 (m : Int)).length = m := by simp [rangeL]
/-! ### formulas: or / and of places and of their opposites -/
inductive Tr where
  | leaf (neg : Bool) (p : Nat)
  | node (o : Bool) (a b : Tr)
  deriving DecidableEq
namespace Tr
def enc : Tr → D
  | leaf false p => .tup [.str "place", .int p]
  | leaf true p => .tup [.str "not", .int p]
  | node false a b => .tup [.str "and", a.enc, b.enc]
  | node true a b => .tup [.str "or", a.enc, b.enc]
def leaves : Tr → Nat
  | leaf _ _ => 1
  | node _ a b => a.leaves + b.leaves
def dep : Tr → Nat
  | leaf _ _ => 0
  | node _ a b => 1 + max a.dep b.dep
/-- the places are below m -/
def on (m : Nat) : Tr → Prop
  | leaf _ p => p < m
  | node _ a b => a.on m ∧ b.on m
def bit (c : List Int) : Tr → Int
  | leaf false p => c.getD p 0
  | leaf true p => 1 - c.getD p 0
  | node false a b => min (a.bit c) (b.bit c)
  | node true a b => max (a.bit c) (b.bit c)
theorem leaves_pos : ∀ t : Tr, 0 < t.leaves
  | leaf _ _ => Nat.one_pos
  | node _ a b => by have := a.leaves_pos; simp only [leaves]; omega
theorem dep_lt : ∀ t : Tr, t.dep < t.leaves
  | leaf _ _ => Nat.one_pos
  | node _ a b => by have := a.dep_lt; have := b.dep_lt; simp only [leaves, dep]; omega
theorem on.mono {m n : Nat} (h : m ≤ n) : ∀ {t : Tr}, t.on m → t.on n
  | leaf _ p, z => Nat.lt_of_lt_of_le z h
  | node _ a b, z => ⟨on.mono h z.1, on.mono h z.2⟩
theorem bit_01 {m : Nat} {c : List Int} (hc : c ∈ corners m) : ∀ {t : Tr}, t.on m → t.bit c = 0 ∨ t.bit c = 1
  | leaf neg p, h => by
    obtain ⟨h1, h2⟩ := corners_mem hc
    have h : p < m := h
    have : c.getD p 0 ∈ c := by
      rw [List.getD_eq_getElem?_getD, List.getElem?_eq_getElem (by omega)]
      exact List.getElem_mem _
    have := h2 _ this
    cases neg <;> simp only [bit] <;> omega
  | node o a b, h => by
    have h1 := bit_01 hc h.1
    have h2 := bit_01 hc h.2
    cases o <;> simp only [bit] <;> omega
end Tr
def bitsOf (m : Nat) (t : Tr) : List Int := (corners m).map fun c => t.bit c
theorem bitsOf_num {m : Nat} {c : List Int} (t : Tr) (hc : c ∈ corners m) : (bitsOf m t)[(num c).toNat]? = some (t.bit c) := by
  rw [bitsOf, List.getElem?_map, (corners_num hc).2.2]
  rfl
/-! ### steps at formulas -/
section
variable {n p : Nat} {a b : Tr} {o neg : Bool} {kd : D → Prop} {k : K1}
theorem eT_0p : ixD n (Tr.enc (.leaf false p)) (.int 0) kd = kd (.str "place") := by simp [Tr.enc, ixD, L2.atI, L2.ixN]
theorem eT_0n : ixD n (Tr.enc (.leaf true p)) (.int 0) kd = kd (.str "not") := by simp [Tr.enc, ixD, L2.atI, L2.ixN]
theorem eT_0a : ixD n (Tr.enc (.node false a b)) (.int 0) kd = kd (.str "and") := by simp [Tr.enc, ixD, L2.atI, L2.ixN]
theorem eT_0o : ixD n (Tr.enc (.node true a b)) (.int 0) kd = kd (.str "or") := by simp [Tr.enc, ixD, L2.atI, L2.ixN]
theorem eT_1l : ixD n (Tr.enc (.leaf neg p)) (.int 1) kd = kd (.int p) := by
  cases neg <;> simp [Tr.enc, ixD, L2.atI, L2.ixN]
theorem eT_1n : ixD n (Tr.enc (.node o a b)) (.int 1) kd = kd a.enc := by
  cases o <;> simp [Tr.enc, ixD, L2.atI, L2.ixN]
theorem eT_2n : ixD n (Tr.enc (.node o a b)) (.int 2) kd = kd b.enc := by
  cases o <;> simp [Tr.enc, ixD, L2.atI, L2.ixN]
theorem eT_lenl : bltD .len [Tr.enc (.leaf neg p)] k = k .f (.int 2) := by
  cases neg <;> simp [Tr.enc, bltD, lenD]
theorem eT_lenn : bltD .len [Tr.enc (.node o a b)] k = k .f (.int 3) := by
  cases o <;> simp [Tr.enc, bltD, lenD]
theorem eT_cut : slD (Tr.enc (.node o a b)) (some 1) none k = k .f (.tup [a.enc, b.enc]) := by
  cases o <;> simp [Tr.enc, slD, cutD, HT.sIx]
theorem eT_isT {t : Tr} : isTn t.enc (.b "tuple") = some true := by
  cases t with
  | leaf neg p => cases neg <;> rfl
  | node o a b => cases o <;> rfl
theorem min_if {i j : Int} : (if j < i then j else i) = min i j := by omega
theorem max_if {i j : Int} : (if j > i then j else i) = max i j := by omega
end
theorem Tr.enc_pure : ∀ t : Tr, t.enc.pure = true
  | .leaf neg p => by cases neg <;> rfl
  | .node o a b => by
    cases o <;> simp only [Tr.enc, pure_tup, pureL_cons, pureL_nil, pure_str, a.enc_pure, b.enc_pure, Bool.and_true]
theorem pureT (l : List Tr) : pureL (l.map Tr.enc) = true := pureL_all fun d hd => by
  obtain ⟨t, _, rfl⟩ := List.mem_map.mp hd
  exact t.enc_pure
/-! ### Functions of the program -/
def eF (m : Nat) (l : List Int) : D := .obj "Function" [("many", .int m), ("bits", eC l)]
section
variable {k : K1} {kb : Bool → Prop} {kd : D → Prop} {m : Nat} {l r : List Int} {i : Int} {t : Nat}
theorem fld_many : fldD (eF m l) "many" kd = kd (.int m) := by simp [fldD, eF]
theorem fld_bits : fldD (eF m l) "bits" kd = kd (eC l) := by
  simp only [fldD, eF, List.lookup]
  rw [show (("bits" : Str) == "many") = false from rfl]
  simp
theorem isF : isTn (eF m l) (.o "Function") = some true := rfl
theorem in_eC : inD (.int i) (eC l) kb = kb (decide (i ∈ l)) := by
  refine propext ⟨fun h => ?_, fun h => Cod.int.memT (by omega) i l kb h⟩
  have := h.2.2.2
  rwa [Cod.int.anyEq i l] at this
theorem eq_eC : eqD (eC l) (eC r) kb = kb (decide (l = r)) := by
  refine propext ⟨fun h => ?_, fun h => cod_eC.eq (by omega) l r kb h⟩
  have := h.2.2.2
  rwa [cod_eC.eqv l r] at this
theorem isT_eC : isTn (eC l) (.b "tuple") = some true := rfl
theorem eC_of {α : Type} {f : α → Int} {s : List α} : D.tup (s.map fun a => D.int (f a)) = eC (s.map f) := by simp [eC]
theorem ix_cor {m : Nat} (h : m ≤ 6) (hk : kd (.int ((2 ^ m : Nat) : Int))) : ixD t (.tup [.int 1, .int 2, .int 4, .int 8, .int 16, .int 32, .int 64]) (.int m) kd := by
  match m, h with
  | 0, _ => exact ⟨_, rfl, hk⟩
  | 1, _ => exact ⟨_, rfl, hk⟩
  | 2, _ => exact ⟨_, rfl, hk⟩
  | 3, _ => exact ⟨_, rfl, hk⟩
  | 4, _ => exact ⟨_, rfl, hk⟩
  | 5, _ => exact ⟨_, rfl, hk⟩
  | 6, _ => exact ⟨_, rfl, hk⟩
end
/-! ### how long a repr is -/
structure Sh (d : D) (B e : Nat) : Prop where
  pure : d.pure = true
  sh : d.py.showable = true
  dep : d.py.depth ≤ e
  len : d.py.shown.length ≤ B
theorem Sh.int {i : Int} (h : i.natAbs < 1000) : Sh (.int i) 4 0 := by
  refine ⟨rfl, ?_, by simp [D.py, PyData.depth], ?_⟩
  · simp only [D.py, PyData.showable, decide_eq_true_eq]
    have : i.natAbs.log2 ≤ 10 := log2_lt (by omega)
    omega
  · simp only [D.py, PyData.shown]
    have := int_text_length_le10 (a := i) (k := 3) (by decide) (by omega)
    show (Str.ofString (toString i)).length ≤ 4
    rw [ofString_length]
    exact this
theorem tupleText_len (ts : List Str) : (tupleText ts).length ≤ piled ts + 2 := by
  unfold tupleText
  rw [strLen_append, strLen_append]
  have e1 : ((("(" : String) : Str)).length = 1 := rfl
  have e3 : (((if ts.length == 1 then ",)" else ")" : String) : Str)).length ≤ 2 := by split <;> decide
  rw [e1]
  by_cases h : ts = []
  · subst h
    have e4 : (Str.join ", " []).length = 0 := rfl
    have e5 : (((if ([] : List Str).length == 1 then ",)" else ")" : String) : Str)).length = 1 := rfl
    simp only [piled_nil]
    omega
  · have := join_length_add ts h
    omega
theorem piled_le {B : Nat} : ∀ {l : List D}, (∀ d ∈ l, d.py.shown.length ≤ B) → piled (PyData.shownAll (pyL l)) ≤ (B + 2) * l.length
  | [], _ => by simp [pyL, PyData.shownAll, piled]
  | d :: l, h => by
    simp only [pyL, PyData.shownAll, piled_cons, List.length_cons]
    have h1 := h d List.mem_cons_self
    have h2 := piled_le fun d hd => h d (List.mem_cons_of_mem _ hd)
    rw [Nat.mul_succ]
    omega
theorem showAll : ∀ {l : List D}, (∀ d ∈ l, d.py.showable = true) → PyData.showableAll (pyL l) = true
  | [], _ => by simp [pyL, PyData.showableAll]
  | d :: l, h => by
    simp only [pyL, PyData.showableAll, h d List.mem_cons_self, showAll fun d hd => h d (List.mem_cons_of_mem _ hd), Bool.and_self]
theorem Sh.tup {l : List D} {B e N : Nat} (h : ∀ d ∈ l, Sh d B e) (hl : l.length ≤ N) : Sh (.tup l) ((B + 2) * N + 2) (e + 1) := by
  refine ⟨by rw [pure_tup]; exact pureL_all fun d hd => (h d hd).pure, ?_, ?_, ?_⟩
  · simp only [D.py, PyData.showable]
    exact showAll fun d hd => (h d hd).sh
  · simp only [D.py, PyData.depth]
    have := depthAll_le (l := l) (n := e) fun d hd => (h d hd).dep
    omega
  · simp only [D.py, PyData.shown]
    have h1 := tupleText_len (PyData.shownAll (pyL l))
    have h2 := piled_le (B := B) fun d hd => (h d hd).len
    have h3 : (B + 2) * l.length ≤ (B + 2) * N := Nat.mul_le_mul_left _ hl
    omega
theorem Sh.mono {d : D} {B e B' e' : Nat} (h : Sh d B e) (hB : B ≤ B') (he : e ≤ e') : Sh d B' e' := ⟨h.pure, h.sh, Nat.le_trans h.dep he, Nat.le_trans h.len hB⟩
theorem Sh.repr {d : D} {B e : Nat} (h : Sh d B e) (hB : B + 64 ≤ 1000000) (he : e ≤ 190) {k : K1} (q : k .f (.str d.py.shown)) : bltD .repr [d] k := by
  have := sizeL hB
  have := h.len
  exact ⟨h.pure, h.sh, Nat.le_trans h.dep he, by omega, q⟩
/-! ### dicts of coded keys -/
section
variable {α : Type} [DecidableEq α] {enc : α → D} {n : Nat}
def kvs (enc : α → D) (l : List (α × D)) : List (D × D) := l.map fun p => (enc p.1, p.2)
theorem keyAt_kvs (h : Cod enc n) (a : α) : ∀ l : List (α × D), keyAt (kvs enc l) (enc a) = (l.find? fun p => decide (p.1 = a)).map (·.2)
  | [] => rfl
  | p :: l => by
    have ih := keyAt_kvs h a l
    unfold keyAt kvs at ih ⊢
    simp only [List.map_cons, List.find?_cons, h.eqv]
    cases e : decide (p.1 = a) with
    | true => rfl
    | false => exact ih
theorem keyAt_new (h : Cod enc n) {a : α} {l : List (α × D)} (hn : ∀ p ∈ l, p.1 ≠ a) : keyAt (kvs enc l) (enc a) = none := by
  rw [keyAt_kvs h, List.find?_eq_none.mpr (fun p hp => by simpa using hn p hp)]
  rfl
theorem putK_new (h : Cod enc n) {a : α} {d : D} {l : List (α × D)} (hn : ∀ p ∈ l, p.1 ≠ a) : putK (kvs enc l) (enc a) d = kvs enc (l ++ [(a, d)]) := by
  unfold putK
  rw [if_neg]
  · simp [kvs]
  · simp only [kvs, List.any_map, List.any_eq_true, not_exists, not_and]
    intro p hp
    simp only [Function.comp, h.eqv, decide_eq_true_eq]
    exact hn p hp
theorem keyAt_const (h : Cod enc n) {a : α} {d : D} {l : List (α × D)} (hd : ∀ p ∈ l, p.2 = d) (ha : ∃ p ∈ l, p.1 = a) : keyAt (kvs enc l) (enc a) = some d := by
  rw [keyAt_kvs h]
  cases e : l.find? fun p => decide (p.1 = a) with
  | none =>
    obtain ⟨p, hp, q⟩ := ha
    have := List.find?_eq_none.mp e p hp
    simp [q] at this
  | some p => simp [hd p (List.mem_of_find?_eq_some e)]
end
end Lk
set_option autoImplicit false
set_option linter.all false
namespace Lk
open PySem
namespace K81
def c_is_whole : S :=
 (.seq (.ret (.and (.isi (.v 0) [.b "int"]) (.and (.not (.isi (.v 0) [.b "bool"])) (.chn .Lt .Lt (.neg (.bin .Pow (.ci 10) (.ci 18))) (.v 0) (.bin .Pow (.ci 10) (.ci 18)))))) .skip)
def c_is_number : S :=
 (.seq (.ret (.and (.call "is_whole" (.cons (.v 0) .nil) []) (.chn .LtE .LtE (.v 1) (.v 0) (.v 2)))) .skip)
def c_need_many : S :=
 (.seq (.ife (.not (.call "is_number" (.cons (.v 0) (.cons (.ci 0) (.cons (.g "MOST_PLACES") .nil))) []))
 (.seq (.rse "BadMany" none .nil) .skip) .skip) .skip)
def c_are_bits : S :=
 (.seq (.ret (.and (.isi (.v 1) [.b "tuple"]) (.and (.cmp .Eq (.blt .len (.cons (.v 1) .nil)) (.v 0)) (.blt .all (.cons (.lc (.call "is_number" (.cons (.v 3) (.cons (.ci 0) (.cons (.ci 1) .nil))) []) (.gcons [2, 3] (.one 3) (.cons (.v 1) .nil) .nil .nil)) .nil))))) .skip)
def c_corner_number_b1 : S :=
 (.seq (.set 1 (.bin .Add (.bin .Mult (.ci 2) (.v 1)) (.v 2))) .skip)
def c_corner_number : S :=
 (.seq (.set 1 (.ci 0))
 (.seq (.for (.one 2) (.cons (.v 0) .nil) c_corner_number_b1)
 (.seq (.rtv 1) .skip)))
def c_corners_by_b1 : S :=
 (.seq (.set 1 (.lc (.bin .Add (.v 4) (.tup (.cons (.v 5) .nil))) (.gcons [3, 4, 5] (.one 4) (.cons (.v 1) .nil) .nil (.gcons [5] (.one 5) (.cons (.tup (.cons (.ci 0) (.cons (.ci 1) .nil))) .nil) .nil .nil)))) .skip)
def c_corners_by : S :=
 (.seq (.set 1 (.lst (.cons (.tup .nil) .nil)))
 (.seq (.for (.one 2) (.rng (.cons (.v 0) .nil)) c_corners_by_b1)
 (.seq (.rtv 1) .skip)))
def c_Function : S :=
 (.seq (.ex (.call "need_many" (.cons (.v 1) .nil) []))
 (.seq (.ife (.not (.call "are_bits" (.cons (.ix (.g "CORNERS") (.v 1)) (.cons (.v 2) .nil)) []))
 (.seq (.rse "BadBits" none .nil) .skip) .skip)
 (.seq (.fset 0 "many" (.v 1))
 (.seq (.fset 0 "bits" (.v 2)) .skip))))
def c_need_function : S :=
 (.seq (.ife (.not (.isi (.v 0) [.o "Function"]))
 (.seq (.rse "BadFunction" none .nil) .skip) .skip) .skip)
def c_bit_at : S :=
 (.seq (.ret (.ix (.fld (.v 0) "bits") (.call "corner_number" (.cons (.v 1) .nil) []))) .skip)
def c_word_of : S :=
 (.seq (.ife (.or (.not (.isi (.v 0) [.b "tuple"])) (.or (.cmp .NotIn (.blt .len (.cons (.v 0) .nil)) (.tup (.cons (.ci 2) (.cons (.ci 3) .nil)))) (.not (.isi (.ix (.v 0) (.ci 0)) [.b "str"]))))
 (.seq (.ret .cn) .skip) .skip)
 (.seq (.ret (.ix (.v 0) (.ci 0))) .skip))
def c_leaves_by_b1 : S :=
 (.seq (.pop 4 3)
 (.seq (.set 5 (.call "word_of" (.cons (.v 4) .nil) []))
 (.seq (.ife (.and (.cmp .In (.v 5) (.g "LEAVES")) (.and (.cmp .Eq (.blt .len (.cons (.v 4) .nil)) (.ci 2)) (.call "is_number" (.cons (.ix (.v 4) (.ci 1)) (.cons (.ci 0) (.cons (.bin .Sub (.v 0) (.ci 1)) .nil))) [])))
 (.seq (.set 2 (.bin .Add (.v 2) (.ci 1))) .skip)
 (.seq (.ife (.and (.cmp .In (.v 5) (.g "SIGNS")) (.and (.cmp .Eq (.blt .len (.cons (.v 4) .nil)) (.ci 3)) (.cmp .Lt (.blt .len (.cons (.v 3) .nil)) (.g "MOST_LEAVES"))))
 (.seq (.ext 3 (.sl (.v 4) (.cons (.ci 1) .nil) .nil)) .skip)
 (.seq (.ret .cn) .skip)) .skip))
 (.seq (.ife (.cmp .Gt (.v 2) (.g "MOST_LEAVES"))
 (.seq (.ret .cn) .skip) .skip) .skip))))
def c_leaves_by_w1 : E :=
 (.cmp .NotEq (.v 3) (.lst .nil))
def c_leaves_by : S :=
 (.seq (.par [(2, false), (3, true)] (.cons (.ci 0) (.cons (.lst (.cons (.v 1) .nil)) .nil)))
 (.seq (.whl c_leaves_by_w1 c_leaves_by_b1)
 (.seq (.rtv 2) .skip)))
def c_bit_of : S :=
 (.seq (.ife (.cmp .Eq (.ix (.v 0) (.ci 0)) (.cs "place"))
 (.seq (.ret (.ix (.v 1) (.ix (.v 0) (.ci 1)))) .skip) .skip)
 (.seq (.ife (.cmp .Eq (.ix (.v 0) (.ci 0)) (.cs "not"))
 (.seq (.ret (.bin .Sub (.ci 1) (.ix (.v 1) (.ix (.v 0) (.ci 1))))) .skip) .skip)
 (.seq (.par [(2, false), (3, false)] (.cons (.call "bit_of" (.cons (.ix (.v 0) (.ci 1)) (.cons (.v 1) .nil)) []) (.cons (.call "bit_of" (.cons (.ix (.v 0) (.ci 2)) (.cons (.v 1) .nil)) []) .nil)))
 (.seq (.ret (.ife (.cmp .Eq (.ix (.v 0) (.ci 0)) (.cs "and")) (.blt .min (.cons (.v 2) (.cons (.v 3) .nil))) (.blt .max (.cons (.v 2) (.cons (.v 3) .nil))))) .skip))))
def c_bits_by : S :=
 (.seq (.ret (.blt .tuple (.cons (.lc (.call "bit_of" (.cons (.v 1) (.cons (.v 3) .nil)) []) (.gcons [2, 3] (.one 3) (.cons (.call "corners_by" (.cons (.v 0) .nil) []) .nil) .nil .nil)) .nil))) .skip)
def c_need_unlike : S :=
 (.seq (.ex (.call "need_function" (.cons (.v 0) .nil) []))
 (.seq (.ife (.or (.cmp .NotIn (.ci 0) (.fld (.v 0) "bits")) (.cmp .NotIn (.ci 1) (.fld (.v 0) "bits")))
 (.seq (.rse "IsConstant" none .nil) .skip) .skip) .skip))
def c_need_telling : S :=
 (.seq (.ex (.call "need_unlike" (.cons (.v 0) .nil) []))
 (.seq (.ife (.or (.isn (.call "leaves_by" (.cons (.fld (.v 0) "many") (.cons (.v 1) .nil)) [])) (.cmp .NotEq (.call "bits_by" (.cons (.fld (.v 0) "many") (.cons (.v 1) .nil)) []) (.fld (.v 0) "bits")))
 (.seq (.rse "BadTree" none .nil) .skip) .skip) .skip))
def c_pieces_by : S :=
 (.seq (.ife (.cmp .Eq (.blt .len (.cons (.v 0) .nil)) (.ci 2))
 (.seq (.ret (.lst (.cons (.tup (.cons (.blt .tuple (.cons (.v 1) .nil)) (.cons (.blt .tuple (.cons (.v 2) .nil)) (.cons (.ix (.v 0) (.ci 1)) .nil)))) .nil))) .skip) .skip)
 (.seq (.ife (.cmp .Eq (.ix (.v 0) (.ci 0)) (.cs "or"))
 (.seq (.set 3 (.lc (.v 5) (.gcons [4, 5] (.one 5) (.cons (.v 1) .nil) (.cons (.cmp .Eq (.call "bit_of" (.cons (.ix (.v 0) (.ci 1)) (.cons (.v 5) .nil)) []) (.ci 1)) .nil) .nil)))
 (.seq (.ret (.bin .Add (.call "pieces_by" (.cons (.ix (.v 0) (.ci 1)) (.cons (.v 3) (.cons (.v 2) .nil))) []) (.call "pieces_by" (.cons (.ix (.v 0) (.ci 2)) (.cons (.lc (.v 6) (.gcons [4, 6] (.one 6) (.cons (.v 1) .nil) (.cons (.cmp .NotIn (.v 6) (.v 3)) .nil) .nil)) (.cons (.v 2) .nil))) []))) .skip)) .skip)
 (.seq (.set 3 (.lc (.v 5) (.gcons [4, 5] (.one 5) (.cons (.v 2) .nil) (.cons (.cmp .Eq (.call "bit_of" (.cons (.ix (.v 0) (.ci 1)) (.cons (.v 5) .nil)) []) (.ci 0)) .nil) .nil)))
 (.seq (.ret (.bin .Add (.call "pieces_by" (.cons (.ix (.v 0) (.ci 1)) (.cons (.v 1) (.cons (.v 3) .nil))) []) (.call "pieces_by" (.cons (.ix (.v 0) (.ci 2)) (.cons (.v 1) (.cons (.lc (.v 6) (.gcons [4, 6] (.one 6) (.cons (.v 2) .nil) (.cons (.cmp .NotIn (.v 6) (.v 3)) .nil) .nil)) .nil))) []))) .skip))))
def c_pieces_of : S :=
 (.seq (.ex (.call "need_telling" (.cons (.v 0) (.cons (.v 1) .nil)) []))
 (.seq (.set 2 (.lc (.v 5) (.gcons [4, 5] (.one 5) (.cons (.call "corners_by" (.cons (.fld (.v 0) "many") .nil) []) .nil) (.cons (.cmp .Eq (.call "bit_at" (.cons (.v 0) (.cons (.v 5) .nil)) []) (.ci 1)) .nil) .nil)))
 (.seq (.set 3 (.lc (.v 5) (.gcons [4, 5] (.one 5) (.cons (.call "corners_by" (.cons (.fld (.v 0) "many") .nil) []) .nil) (.cons (.cmp .Eq (.call "bit_at" (.cons (.v 0) (.cons (.v 5) .nil)) []) (.ci 0)) .nil) .nil)))
 (.seq (.ret (.blt .tuple (.cons (.call "pieces_by" (.cons (.v 1) (.cons (.v 2) (.cons (.v 3) .nil))) []) .nil))) .skip))))
def c__law_blended_b1 : S :=
 (.seq (.set 4 (.bin .Mod (.blt .int (.cons (.bin .Add (.bin .Add (.bin .Mult (.v 4) (.ci 69621)) (.v 5)) (.v 1)) .nil)) (.v 3))) .skip)
def c__law_blended_b2 : S :=
 (.seq (.set 4 (.bin .Add (.bin .Mult (.ci 39373) (.v 1)) (.bin .FloorDiv (.v 3) (.ci 67))))
 (.seq (.for (.one 5) (.cons (.ix (.v 0) (.cs "cells")) .nil) c__law_blended_b1)
 (.seq (.set 2 (.bin .Add (.bin .Mult (.v 2) (.ci 2147483647)) (.bin .Mod (.blt .int (.cons (.bin .Pow (.v 4) (.ci 5)) .nil)) (.v 3)))) .skip)))
def c__law_blended : S :=
 (.seq (.par [(1, false), (2, false)] (.cons (.bin .Add (.ix (.v 0) (.cs "turn")) (.ci 1)) (.cons (.ci 0) .nil)))
 (.seq (.sts 0 "turn" (.v 1))
 (.seq (.for (.one 3) (.cons (.lst (.cons (.ci 2147482343) (.cons (.ci 2147482327) (.cons (.ci 2147482291) .nil)))) .nil) c__law_blended_b2)
 (.seq (.rtv 2) .skip))))
def c__law_draw : S :=
 (.seq (.ife (.cmp .Eq (.ix (.v 0) (.cs "left")) (.ci 0))
 (.seq (.stp 0 (.call "_law_blended" (.cons (.v 0) .nil) [])) .skip) .skip)
 (.seq (.set 2 (.bin .Mod (.blt .int (.cons (.ix (.v 0) (.cs "left")) .nil)) (.v 1)))
 (.seq (.sts 0 "left" (.bin .FloorDiv (.ix (.v 0) (.cs "left")) (.v 1)))
 (.seq (.rtv 2) .skip))))
def c__law_pick : S :=
 (.seq (.ret (.ix (.v 1) (.call "_law_draw" (.cons (.v 0) (.cons (.blt .len (.cons (.v 1) .nil)) .nil)) []))) .skip)
def c__law_fn_corners_b1 : S :=
 (.seq (.set 3 (.bin .Add (.v 3) (.lst (.cons (.bin .Add (.v 4) (.tup (.cons (.ci 0) .nil))) (.cons (.bin .Add (.v 4) (.tup (.cons (.ci 1) .nil))) .nil))))) .skip)
def c__law_fn_corners_b2 : S :=
 (.seq (.set 3 (.lst .nil))
 (.seq (.for (.one 4) (.cons (.v 1) .nil) c__law_fn_corners_b1)
 (.seq (.set 1 (.v 3)) .skip)))
def c__law_fn_corners : S :=
 (.seq (.set 1 (.lst (.cons (.tup .nil) .nil)))
 (.seq (.for (.one 2) (.rng (.cons (.v 0) .nil)) c__law_fn_corners_b2)
 (.seq (.rtv 1) .skip)))
def c__law_fn_number_b1 : S :=
 (.seq (.set 1 (.bin .Add (.bin .Add (.v 1) (.v 1)) (.v 2))) .skip)
def c__law_fn_number : S :=
 (.seq (.set 1 (.ci 0))
 (.seq (.for (.one 2) (.cons (.v 0) .nil) c__law_fn_number_b1)
 (.seq (.rtv 1) .skip)))
def c__law_fn_bit : S :=
 (.seq (.ret (.ix (.v 0) (.call "_law_fn_number" (.cons (.v 1) .nil) []))) .skip)
def c__law_fn_made : S :=
 (.seq (.ret (.call "Function" (.cons (.ix (.v 0) (.ci 0)) (.cons (.ix (.v 0) (.ci 1)) .nil)) [])) .skip)
def c__law_bo_corners : S :=
 (.seq (.ret (.lc (.v 3) (.gcons [2, 3] (.one 3) (.cons (.call "_law_fn_corners" (.cons (.ix (.v 0) (.ci 0)) .nil) []) .nil) (.cons (.cmp .Eq (.call "_law_fn_bit" (.cons (.ix (.v 0) (.ci 1)) (.cons (.v 3) .nil)) []) (.v 1)) .nil) .nil))) .skip)
def c__law_tr_bit : S :=
 (.seq (.ife (.cmp .Eq (.blt .len (.cons (.v 0) .nil)) (.ci 2))
 (.seq (.ret (.ife (.cmp .Eq (.ix (.v 0) (.ci 0)) (.cs "place")) (.ix (.v 1) (.ix (.v 0) (.ci 1))) (.bin .Sub (.ci 1) (.ix (.v 1) (.ix (.v 0) (.ci 1)))))) .skip) .skip)
 (.seq (.set 2 (.lc (.call "_law_tr_bit" (.cons (.v 4) (.cons (.v 1) .nil)) []) (.gcons [3, 4] (.one 4) (.cons (.sl (.v 0) (.cons (.ci 1) .nil) .nil) .nil) .nil .nil)))
 (.seq (.ret (.ife (.cmp .Eq (.ix (.v 0) (.ci 0)) (.cs "and")) (.blt .min (.cons (.v 2) .nil)) (.blt .max (.cons (.v 2) .nil)))) .skip)))
def c__law_tr_bits : S :=
 (.seq (.ret (.blt .tuple (.cons (.lc (.call "_law_tr_bit" (.cons (.v 1) (.cons (.v 3) .nil)) []) (.gcons [2, 3] (.one 3) (.cons (.call "_law_fn_corners" (.cons (.v 0) .nil) []) .nil) .nil .nil)) .nil))) .skip)
def c__law_tr_size : S :=
 (.seq (.ife (.cmp .Eq (.blt .len (.cons (.v 0) .nil)) (.ci 2))
 (.seq (.ret (.tup (.cons (.ci 0) (.cons (.ci 1) .nil)))) .skip) .skip)
 (.seq (.set 1 (.lc (.call "_law_tr_size" (.cons (.v 3) .nil) []) (.gcons [2, 3] (.one 3) (.cons (.sl (.v 0) (.cons (.ci 1) .nil) .nil) .nil) .nil .nil)))
 (.seq (.ret (.tup (.cons (.bin .Add (.ci 1) (.blt .max (.cons (.ix (.ix (.v 1) (.ci 0)) (.ci 0)) (.cons (.ix (.ix (.v 1) (.ci 1)) (.ci 0)) .nil)))) (.cons (.bin .Add (.ix (.ix (.v 1) (.ci 0)) (.ci 1)) (.ix (.ix (.v 1) (.ci 1)) (.ci 1))) .nil)))) .skip)))
def c__law_tr_drawn_b1 : S :=
 (.seq (.set 5 (.call "_law_draw" (.cons (.v 0) (.cons (.bin .Sub (.blt .len (.cons (.v 4) .nil)) (.ci 1)) .nil)) []))
 (.seq (.set 4 (.bin .Add (.bin .Add (.sl (.v 4) .nil (.cons (.v 5) .nil)) (.lst (.cons (.tup (.cons (.call "_law_pick" (.cons (.v 0) (.cons (.lst (.cons (.cs "and") (.cons (.cs "or") .nil))) .nil)) []) (.cons (.ix (.v 4) (.v 5)) (.cons (.ix (.v 4) (.bin .Add (.v 5) (.ci 1))) .nil)))) .nil))) (.sl (.v 4) (.cons (.bin .Add (.v 5) (.ci 2)) .nil) .nil))) .skip))
def c__law_tr_drawn_w1 : E :=
 (.cmp .Gt (.blt .len (.cons (.v 4) .nil)) (.ci 1))
def c__law_tr_drawn : S :=
 (.seq (.set 4 (.lc (.tup (.cons (.call "_law_pick" (.cons (.v 0) (.cons (.v 3) .nil)) []) (.cons (.call "_law_draw" (.cons (.v 0) (.cons (.v 1) .nil)) []) .nil))) (.gcons [6, 7] (.one 7) (.rng (.cons (.v 2) .nil)) .nil .nil)))
 (.seq (.whl c__law_tr_drawn_w1 c__law_tr_drawn_b1)
 (.seq (.ret (.ix (.v 4) (.ci 0))) .skip)))
def c__law_tr_unlike : S :=
 (.seq (.set 3 (.bin .Add (.ci 1) (.call "_law_draw" (.cons (.v 0) (.cons (.v 1) .nil)) [])))
 (.seq (.set 4 (.call "_law_tr_drawn" (.cons (.v 0) (.cons (.v 3) (.cons (.bin .Add (.ci 1) (.call "_law_draw" (.cons (.v 0) (.cons (.ci 10) .nil)) [])) (.cons (.v 2) .nil)))) []))
 (.seq (.ife (.cmp .Lt (.blt .lset (.cons (.call "_law_tr_bits" (.cons (.v 3) (.cons (.v 4) .nil)) []) .nil)) (.ci 2))
 (.seq (.set 4 (.tup (.cons (.call "_law_pick" (.cons (.v 0) (.cons (.v 2) .nil)) []) (.cons (.call "_law_draw" (.cons (.v 0) (.cons (.v 3) .nil)) []) .nil)))) .skip) .skip)
 (.seq (.ret (.tup (.cons (.v 3) (.cons (.v 4) .nil)))) .skip))))
def c__law_tr_stretched_b1 : S :=
 (.seq (.set 5 (.call "_law_draw" (.cons (.v 0) (.cons (.bin .Sub (.blt .len (.cons (.v 4) .nil)) (.ci 1)) .nil)) []))
 (.seq (.set 4 (.bin .Add (.bin .Add (.sl (.v 4) .nil (.cons (.v 5) .nil)) (.lst (.cons (.tup (.cons (.call "_law_pick" (.cons (.v 0) (.cons (.lst (.cons (.cs "and") (.cons (.cs "or") .nil))) .nil)) []) (.cons (.ix (.v 4) (.v 5)) (.cons (.ix (.v 4) (.bin .Add (.v 5) (.ci 1))) .nil)))) .nil))) (.sl (.v 4) (.cons (.bin .Add (.v 5) (.ci 2)) .nil) .nil))) .skip))
def c__law_tr_stretched_w1 : E :=
 (.cmp .Gt (.blt .len (.cons (.v 4) .nil)) (.ci 1))
def c__law_tr_stretched : S :=
 (.seq (.ife (.cmp .Eq (.blt .len (.cons (.v 1) .nil)) (.ci 3))
 (.seq (.set 3 (.call "_law_draw" (.cons (.v 0) (.cons (.bin .Add (.v 2) (.ci 1)) .nil)) []))
 (.seq (.ret (.tup (.cons (.ix (.v 1) (.ci 0)) (.cons (.call "_law_tr_stretched" (.cons (.v 0) (.cons (.ix (.v 1) (.ci 1)) (.cons (.v 3) .nil))) []) (.cons (.call "_law_tr_stretched" (.cons (.v 0) (.cons (.ix (.v 1) (.ci 2)) (.cons (.bin .Sub (.v 2) (.v 3)) .nil))) []) .nil))))) .skip)) .skip)
 (.seq (.set 4 (.bin .Mult (.lst (.cons (.v 1) .nil)) (.bin .Add (.v 2) (.ci 1))))
 (.seq (.whl c__law_tr_stretched_w1 c__law_tr_stretched_b1)
 (.seq (.ret (.ix (.v 4) (.ci 0))) .skip))))
def c__law_k81_pieces : S :=
 (.seq (.ife (.cmp .Eq (.blt .len (.cons (.v 0) .nil)) (.ci 2))
 (.seq (.ret (.lst (.cons (.tup (.cons (.blt .tuple (.cons (.v 1) .nil)) (.cons (.blt .tuple (.cons (.v 2) .nil)) (.cons (.ix (.v 0) (.ci 1)) .nil)))) .nil))) .skip) .skip)
 (.seq (.ife (.cmp .Eq (.ix (.v 0) (.ci 0)) (.cs "or"))
 (.seq (.set 3 (.lc (.v 5) (.gcons [4, 5] (.one 5) (.cons (.v 1) .nil) (.cons (.cmp .Eq (.call "_law_tr_bit" (.cons (.ix (.v 0) (.ci 1)) (.cons (.v 5) .nil)) []) (.ci 1)) .nil) .nil)))
 (.seq (.ret (.bin .Add (.call "_law_k81_pieces" (.cons (.ix (.v 0) (.ci 1)) (.cons (.v 3) (.cons (.v 2) .nil))) []) (.call "_law_k81_pieces" (.cons (.ix (.v 0) (.ci 2)) (.cons (.lc (.v 5) (.gcons [4, 5] (.one 5) (.cons (.v 1) .nil) (.cons (.cmp .NotIn (.v 5) (.v 3)) .nil) .nil)) (.cons (.v 2) .nil))) []))) .skip)) .skip)
 (.seq (.set 3 (.lc (.v 5) (.gcons [4, 5] (.one 5) (.cons (.v 2) .nil) (.cons (.cmp .Eq (.call "_law_tr_bit" (.cons (.ix (.v 0) (.ci 1)) (.cons (.v 5) .nil)) []) (.ci 0)) .nil) .nil)))
 (.seq (.ret (.bin .Add (.call "_law_k81_pieces" (.cons (.ix (.v 0) (.ci 1)) (.cons (.v 1) (.cons (.v 3) .nil))) []) (.call "_law_k81_pieces" (.cons (.ix (.v 0) (.ci 2)) (.cons (.v 1) (.cons (.lc (.v 5) (.gcons [4, 5] (.one 5) (.cons (.v 2) .nil) (.cons (.cmp .NotIn (.v 5) (.v 3)) .nil) .nil)) .nil))) []))) .skip))))
def ents : List Ent := [
 ⟨"is_whole", ["value"], [], [], ⟨["value"], 1, c_is_whole, false⟩⟩,
 ⟨"is_number", ["value", "least", "most"], [], [], ⟨["value", "least", "most"], 3, c_is_number, false⟩⟩,
 ⟨"need_many", ["many"], [], [], ⟨["many"], 1, c_need_many, false⟩⟩,
 ⟨"are_bits", ["many", "value", ".0", "bit"], [], [], ⟨["many", "value"], 4, c_are_bits, false⟩⟩,
 ⟨"corner_number", ["corner", "found", "bit"], [], [], ⟨["corner"], 3, c_corner_number, false⟩⟩,
 ⟨"corners_by", ["many", "found", "place", ".0", "corner", "bit"], [], [], ⟨["many"], 6, c_corners_by, false⟩⟩,
 ⟨"Function", ["self", "many", "bits"], [0], [], ⟨["many", "bits"], 3, c_Function, true⟩⟩,
 ⟨"need_function", ["function"], [], [], ⟨["function"], 1, c_need_function, false⟩⟩,
 ⟨"bit_at", ["function", "corner"], [], [], ⟨["function", "corner"], 2, c_bit_at, false⟩⟩,
 ⟨"word_of", ["value"], [], [], ⟨["value"], 1, c_word_of, false⟩⟩,
 ⟨"leaves_by", ["many", "value", "found", "line", "here", "word"], [3], [], ⟨["many", "value"], 6, c_leaves_by, false⟩⟩,
 ⟨"bit_of", ["tree", "corner", "one", "other"], [], [], ⟨["tree", "corner"], 4, c_bit_of, false⟩⟩,
 ⟨"bits_by", ["many", "tree", ".0", "corner"], [], [], ⟨["many", "tree"], 4, c_bits_by, false⟩⟩,
 ⟨"need_unlike", ["function"], [], [], ⟨["function"], 1, c_need_unlike, false⟩⟩,
 ⟨"need_telling", ["function", "tree"], [], [], ⟨["function", "tree"], 2, c_need_telling, false⟩⟩,
 ⟨"pieces_by", ["tree", "yes", "no", "first", ".0", "corner", "one"], [], [], ⟨["tree", "yes", "no"], 7, c_pieces_by, false⟩⟩,
 ⟨"pieces_of", ["function", "tree", "yes", "no", ".0", "corner"], [], [], ⟨["function", "tree"], 6, c_pieces_of, false⟩⟩,
 ⟨"_law_blended", ["state", "turn", "found", "prime", "blend", "cell"], [], [], ⟨["state"], 6, c__law_blended, false⟩⟩,
 ⟨"_law_draw", ["state", "size_here", "found"], [], [], ⟨["state", "size_here"], 3, c__law_draw, false⟩⟩,
 ⟨"_law_pick", ["state", "several"], [], [], ⟨["state", "several"], 2, c__law_pick, false⟩⟩,
 ⟨"_law_fn_corners", ["many", "found", "place", "longer", "corner"], [], [], ⟨["many"], 5, c__law_fn_corners, false⟩⟩,
 ⟨"_law_fn_number", ["corner", "found", "bit"], [], [], ⟨["corner"], 3, c__law_fn_number, false⟩⟩,
 ⟨"_law_fn_bit", ["bits", "corner"], [], [], ⟨["bits", "corner"], 2, c__law_fn_bit, false⟩⟩,
 ⟨"_law_fn_made", ["told_here"], [], [], ⟨["told_here"], 1, c__law_fn_made, false⟩⟩,
 ⟨"_law_bo_corners", ["told_here", "bit", ".0", "corner"], [], [], ⟨["told_here", "bit"], 4, c__law_bo_corners, false⟩⟩,
 ⟨"_law_tr_bit", ["tree", "corner", "both", ".0", "part"], [], [], ⟨["tree", "corner"], 5, c__law_tr_bit, false⟩⟩,
 ⟨"_law_tr_bits", ["many", "tree", ".0", "corner"], [], [], ⟨["many", "tree"], 4, c__law_tr_bits, false⟩⟩,
 ⟨"_law_tr_size", ["tree", "some", ".0", "part"], [], [], ⟨["tree"], 4, c__law_tr_size, false⟩⟩,
 ⟨"_law_tr_drawn", ["state", "many", "leaves_here", "words_here", "some", "at", ".0", "turn"], [], [], ⟨["state", "many", "leaves_here", "words_here"], 8, c__law_tr_drawn, false⟩⟩,
 ⟨"_law_tr_unlike", ["state", "most", "words_here", "many", "tree"], [], [], ⟨["state", "most", "words_here"], 5, c__law_tr_unlike, false⟩⟩,
 ⟨"_law_tr_stretched", ["state", "tree", "more", "left", "some", "at"], [], [], ⟨["state", "tree", "more"], 6, c__law_tr_stretched, false⟩⟩,
 ⟨"_law_k81_pieces", ["tree", "yes", "no", "first", ".0", "corner"], [], [], ⟨["tree", "yes", "no"], 6, c__law_k81_pieces, false⟩⟩]
def vals : List (Str × D) := [("MOST_PLACES", (.int 6)), ("CORNERS", (.tup [(.int 1), (.int 2), (.int 4), (.int 8), (.int 16), (.int 32), (.int 64)])), ("MOST_LEAVES", (.int 128)), ("LEAVES", (.tup [(.str "place"), (.str "not")])), ("SIGNS", (.tup [(.str "and"), (.str "or")]))]
def kws : List (Str × List Str) := [("pieces_of", ["tree", "function"])]
def cn : List Str := ["Function"]
def ex : List Str := ["LookError", "BadBits", "BadFunction", "BadMany", "BadTree", "IsConstant"]
def c_law_s1 : S :=
 (.set 4 (.call "_law_tr_stretched" (.cons (.v 1) (.cons (.v 4) (.cons (.bin .Sub (.ci 128) (.ix (.call "_law_tr_size" (.cons (.v 4) .nil) []) (.ci 1))) .nil))) []))
def c_law_s2 : S :=
 (.ife (.cmp .Eq (.ix (.v 13) (.v 12)) (.ix (.v 14) (.v 12)))
 (.seq (.ret (.cb false)) .skip) .skip)
def c_law_s3 : S :=
 (.sset 9 (.tup (.cons (.v 13) (.cons (.v 14) .nil))) (.bin .Add (.mth (.v 9) .get (.cons (.tup (.cons (.v 13) (.cons (.v 14) .nil))) (.cons (.ci 0) .nil))) (.ci 1)))
def c_law_b1 : S :=
 (.seq c_law_s3
 (.seq c_law_s2 .skip))
def c_law_s4 : S :=
 (.for (.one 14) (.cons (.v 11) .nil) c_law_b1)
def c_law_b2 : S :=
 (.seq c_law_s4 .skip)
def c_law_s5 : S :=
 (.ife (.and (.cmp .NotEq (.v 11) (.tup .nil)) (.cmp .Gt (.blt .lset (.cons (.lc (.ix (.v 13) (.v 12)) (.gcons [16, 13] (.one 13) (.cons (.v 10) .nil) .nil .nil)) .nil)) (.ci 1)))
 (.seq (.ret (.cb false)) .skip) .skip)
def c_law_s6 : S :=
 (.for (.one 13) (.cons (.v 10) .nil) c_law_b2)
def c_law_b3 : S :=
 (.seq c_law_s6
 (.seq c_law_s5 .skip))
def c_law_s7 : S :=
 (.ife (.cmp .Lt (.bin .Mult (.blt .len (.cons (.v 8) .nil)) (.v 15)) (.bin .Mult (.blt .len (.cons (.v 6) .nil)) (.blt .len (.cons (.v 7) .nil))))
 (.seq (.ret (.cb false)) .skip) .skip)
def c_law_s8 : S :=
 (.set 15 (.blt .max (.cons (.lc (.bin .Mult (.blt .len (.cons (.v 10) .nil)) (.blt .len (.cons (.v 11) .nil))) (.gcons [16, 10, 11, 12] (.many [10, 11, 12]) (.cons (.v 8) .nil) .nil .nil)) .nil)))
def c_law_s9 : S :=
 (.seq (.lck 9) (.ife (.or (.cmp .NotEq (.blt .len (.cons (.v 9) .nil)) (.bin .Mult (.blt .len (.cons (.v 6) .nil)) (.blt .len (.cons (.v 7) .nil)))) (.cmp .NotEq (.lc (.ci 1) (.gcons [16, 17] (.one 17) (.cons (.v 9) .nil) (.cons (.cmp .NotEq (.ix (.v 9) (.v 17)) (.ci 1)) .nil) .nil)) (.lst .nil)))
 (.seq (.ret (.cb false)) .skip) .skip))
def c_law_s10 : S :=
 (.for (.many [10, 11, 12]) (.cons (.v 8) .nil) c_law_b3)
def c_law_s11 : S :=
 (.ife (.or (.cmp .NotEq (.blt .repr (.cons (.v 8) .nil)) (.blt .repr (.cons (.blt .tuple (.cons (.call "_law_k81_pieces" (.cons (.v 4) (.cons (.v 6) (.cons (.v 7) .nil))) []) .nil)) .nil))) (.cmp .NotEq (.blt .len (.cons (.v 8) .nil)) (.ix (.call "_law_tr_size" (.cons (.v 4) .nil) []) (.ci 1))))
 (.seq (.ret (.cb false)) .skip) .skip)
def c_law_s12 : S :=
 (.set 8 (.call "pieces_of" (.cons (.v 4) (.cons (.call "_law_fn_made" (.cons (.v 5) .nil) []) .nil)) ["tree", "function"]))
def c_law_s13 : S :=
 (.par [(6, false), (7, false)] (.cons (.call "_law_bo_corners" (.cons (.v 5) (.cons (.ci 1) .nil)) []) (.cons (.call "_law_bo_corners" (.cons (.v 5) (.cons (.ci 0) .nil)) []) .nil)))
def c_law_s14 : S :=
 (.set 5 (.tup (.cons (.v 3) (.cons (.call "_law_tr_bits" (.cons (.v 3) (.cons (.v 4) .nil)) []) .nil))))
def c_law_s15 : S :=
 (.ife (.cmp .Eq (.v 2) (.ci 3))
 (.seq c_law_s1 .skip) .skip)
def c_law_s16 : S :=
 (.unp [3, 4] (.call "_law_tr_unlike" (.cons (.v 1) (.cons (.ife (.cmp .Lt (.v 2) (.ci 3)) (.call "_law_pick" (.cons (.v 1) (.cons (.lst (.cons (.ci 3) (.cons (.ci 5) (.cons (.ci 6) .nil)))) .nil)) []) (.ci 3)) (.cons (.lst (.cons (.cs "place") (.cons (.cs "not") .nil))) .nil))) []))
def c_law_b4 : S :=
 (.seq c_law_s16
 (.seq c_law_s15
 (.seq c_law_s14
 (.seq c_law_s13
 (.seq c_law_s12
 (.seq c_law_s11
 (.seq (.own 9 (.dct .nil))
 (.seq c_law_s10
 (.seq c_law_s9
 (.seq c_law_s8
 (.seq c_law_s7 .skip)))))))))))
def c_law_s17 : S :=
 (.for (.one 2) (.rng (.cons (.ci 4) .nil)) c_law_b4)
def c_law : S :=
 (.seq c_law_s17
 (.seq (.ret (.cb true)) .skip))
def nLaw : List Str := ["script", "state", "turn", "many", "tree", "told_here", "yes", "no", "found", "counted_here", "some", "others", "place", "one", "other", "greatest", ".0", "pair"]
-- own [9] dic [9] state 1
def PP : Pg := mkP ents vals kws
theorem f_is_whole : PP.fns "is_whole" = some ⟨["value"], 1, c_is_whole, false⟩ := by kernel_rfl
theorem f_is_number : PP.fns "is_number" = some ⟨["value", "least", "most"], 3, c_is_number, false⟩ := by kernel_rfl
theorem f_need_many : PP.fns "need_many" = some ⟨["many"], 1, c_need_many, false⟩ := by kernel_rfl
theorem f_are_bits : PP.fns "are_bits" = some ⟨["many", "value"], 4, c_are_bits, false⟩ := by kernel_rfl
theorem f_corner_number : PP.fns "corner_number" = some ⟨["corner"], 3, c_corner_number, false⟩ := by kernel_rfl
theorem f_corners_by : PP.fns "corners_by" = some ⟨["many"], 6, c_corners_by, false⟩ := by kernel_rfl
theorem f_Function : PP.fns "Function" = some ⟨["many", "bits"], 3, c_Function, true⟩ := by kernel_rfl
theorem f_need_function : PP.fns "need_function" = some ⟨["function"], 1, c_need_function, false⟩ := by kernel_rfl
theorem f_bit_at : PP.fns "bit_at" = some ⟨["function", "corner"], 2, c_bit_at, false⟩ := by kernel_rfl
theorem f_word_of : PP.fns "word_of" = some ⟨["value"], 1, c_word_of, false⟩ := by kernel_rfl
theorem f_leaves_by : PP.fns "leaves_by" = some ⟨["many", "value"], 6, c_leaves_by, false⟩ := by kernel_rfl
theorem f_bit_of : PP.fns "bit_of" = some ⟨["tree", "corner"], 4, c_bit_of, false⟩ := by kernel_rfl
theorem f_bits_by : PP.fns "bits_by" = some ⟨["many", "tree"], 4, c_bits_by, false⟩ := by kernel_rfl
theorem f_need_unlike : PP.fns "need_unlike" = some ⟨["function"], 1, c_need_unlike, false⟩ := by kernel_rfl
theorem f_need_telling : PP.fns "need_telling" = some ⟨["function", "tree"], 2, c_need_telling, false⟩ := by kernel_rfl
theorem f_pieces_by : PP.fns "pieces_by" = some ⟨["tree", "yes", "no"], 7, c_pieces_by, false⟩ := by kernel_rfl
theorem f_pieces_of : PP.fns "pieces_of" = some ⟨["function", "tree"], 6, c_pieces_of, false⟩ := by kernel_rfl
theorem f__law_blended : PP.fns "_law_blended" = some ⟨["state"], 6, c__law_blended, false⟩ := by kernel_rfl
theorem f__law_draw : PP.fns "_law_draw" = some ⟨["state", "size_here"], 3, c__law_draw, false⟩ := by kernel_rfl
theorem f__law_pick : PP.fns "_law_pick" = some ⟨["state", "several"], 2, c__law_pick, false⟩ := by kernel_rfl
theorem f__law_fn_corners : PP.fns "_law_fn_corners" = some ⟨["many"], 5, c__law_fn_corners, false⟩ := by kernel_rfl
theorem f__law_fn_number : PP.fns "_law_fn_number" = some ⟨["corner"], 3, c__law_fn_number, false⟩ := by kernel_rfl
theorem f__law_fn_bit : PP.fns "_law_fn_bit" = some ⟨["bits", "corner"], 2, c__law_fn_bit, false⟩ := by kernel_rfl
theorem f__law_fn_made : PP.fns "_law_fn_made" = some ⟨["told_here"], 1, c__law_fn_made, false⟩ := by kernel_rfl
theorem f__law_bo_corners : PP.fns "_law_bo_corners" = some ⟨["told_here", "bit"], 4, c__law_bo_corners, false⟩ := by kernel_rfl
theorem f__law_tr_bit : PP.fns "_law_tr_bit" = some ⟨["tree", "corner"], 5, c__law_tr_bit, false⟩ := by kernel_rfl
theorem f__law_tr_bits : PP.fns "_law_tr_bits" = some ⟨["many", "tree"], 4, c__law_tr_bits, false⟩ := by kernel_rfl
theorem f__law_tr_size : PP.fns "_law_tr_size" = some ⟨["tree"], 4, c__law_tr_size, false⟩ := by kernel_rfl
theorem f__law_tr_drawn : PP.fns "_law_tr_drawn" = some ⟨["state", "many", "leaves_here", "words_here"], 8, c__law_tr_drawn, false⟩ := by kernel_rfl
theorem f__law_tr_unlike : PP.fns "_law_tr_unlike" = some ⟨["state", "most", "words_here"], 5, c__law_tr_unlike, false⟩ := by kernel_rfl
theorem f__law_tr_stretched : PP.fns "_law_tr_stretched" = some ⟨["state", "tree", "more"], 6, c__law_tr_stretched, false⟩ := by kernel_rfl
theorem f__law_k81_pieces : PP.fns "_law_k81_pieces" = some ⟨["tree", "yes", "no"], 6, c__law_k81_pieces, false⟩ := by kernel_rfl
theorem v_MOST_PLACES : PP.val "MOST_PLACES" = some (.int 6) := by kernel_rfl
theorem v_CORNERS : PP.val "CORNERS" = some (.tup [(.int 1), (.int 2), (.int 4), (.int 8), (.int 16), (.int 32), (.int 64)]) := by kernel_rfl
theorem v_MOST_LEAVES : PP.val "MOST_LEAVES" = some (.int 128) := by kernel_rfl
theorem v_LEAVES : PP.val "LEAVES" = some (.tup [(.str "place"), (.str "not")]) := by kernel_rfl
theorem v_SIGNS : PP.val "SIGNS" = some (.tup [(.str "and"), (.str "or")]) := by kernel_rfl
end K81
end Lk
set_option autoImplicit false
set_option linter.all false
namespace Lk
namespace K81
open PySem
local macro_rules | `(tactic| walk_at "wp") => `(tactic| try simp only [exs, ev, evs, evo, evi, evc, evg, getV_v0, getV_o0, getV_s, getO_o0, getO_s, rtvD_v0, rtvD_o0, rtvD_s, frzD_v0, frzD_o0, bind_one, bind_many, bindMany, startR, wipeR, List.map_cons, List.map_nil, List.length_cons, List.length_nil, List.cons_append, List.nil_append, List.replicate, List.set, if_true, if_false, Bool.false_eq_true, bEx_nil, bEx_f, bEx_n, noB_nil, noB_f, noB_n, fnb, nnb, true_and, and_true, bindN, endF, valD, D.isNon, isStt, isLst, trD_bl, trD_non, trD_int, trD_lst, trD_tup, bin_add, bin_sub, bin_mul, bin_mod, bin_fdv, bin_pow, add_int, add_tup, add_lst, sub_int, mul_int, mod_int, fdv_int, cmp_eq, cmp_ne, cmp_in, cmp_ni, cmp_lt, cmp_le, cmp_gt, cmp_ge, eq_int, eq_str, ix_tup, ix_lst, ix_left, ix_turn, ix_cells, sts_turn, sts_left, len_tup, len_lst, len_dct, len_dcl, blt_abs, blt_int, blt_max, blt_min, blt_tupL, blt_tupT, blt_lstL, blt_lstT, it_tup, it_lst, it_dcl, rng_1, opt_n, opt_s, sl_tup, sl_lst, tn_int, tn_tup, tn_lst, tn_str, tn_non, tn_obj, Bool.not_true, Bool.not_false, List.foldr, Bool.or_false, Bool.or_true, Bool.false_or, Bool.true_or, Option.some.injEq, exists_eq_left', Nat.reduceAdd, Nat.reduceSub, forall_const, pow18, beq_self_eq_true, String.reduceBEq, String.reduceEq, ofStr_inj, Int.reduceNeg, Int.reduceAdd, Int.reduceSub, decide_eq_true_eq, bne_self_eq_false, reduceCtorEq, not_false_eq_true, ne_eq, Bool.and_false, Bool.false_and, Bool.and_true, Bool.true_and, or_true, true_or, decide_true, decide_false, or_false, false_or, sz0, sz1, sz2, sz3, sz4, in_int2, in_str2, it_eC, it_eCs, it_eCt, add_eC, add_eCs, len_eC, len_eCs, len_eCt, tup_eCs, eT_0p, eT_0n, eT_0a, eT_0o, eT_1l, eT_1n, eT_2n, eT_lenl, eT_lenn, eT_cut, eT_isT, Int.reduceEq, Int.reduceLT, Int.reduceLE, fset_slf, self_slf, putFD, endI, fld_many, fld_bits, isF, in_eC, eq_eC, isT_eC, isNewD, atI0, atI1, atI2])
section
variable {n : Nat} {t : Nat} {k : Kt} {x : XP}
theorem is_whole_int (i : Int) (h1 : -1000000000000000000 < i) (h2 : i < 1000000000000000000) (h : k t .f (.bl true)) : callN PP (n + 1) (.fn "is_whole") [.int i] [] t k x := by
  refine call_fn f_is_whole rfl rfl ?_
  unfold c_is_whole
  walk_at "wp"
  rw [if_pos h1]
  simpa [h2] using h
theorem is_number_int (i a b : Int) (h1 : -1000000000000000000 < i) (h2 : i < 1000000000000000000) (h : k t .f (.bl (decide (a ≤ i ∧ i ≤ b)))) : callN PP (n + 2) (.fn "is_number") [.int i, .int a, .int b] [] t k x := by
  refine call_fn f_is_number rfl rfl ?_
  unfold c_is_number
  walk_at "wp"
  refine is_whole_int i h1 h2 ?_
  walk_at "wp"
  by_cases h3 : a ≤ i
  · rw [if_pos h3]
    by_cases h4 : i ≤ b <;> simpa [h3, h4] using h
  · rw [if_neg h3]
    simpa [h3] using h
/-! ### draws -/
theorem bl_inner {T F p : Int} (hT : 0 ≤ T) (hp : 0 < p) (hp2 : p < 2 ^ 31) {e : En} : ∀ (ns : List Int), (∀ n ∈ ns, 0 ≤ n) → ∀ (b : Int) (v : Sv), 0 ≤ b → b < 2 ^ 60 → (∀ b' v', 0 ≤ b' → b' < 2 ^ 60 → e.nx t [.val .stt, .val (.int T), .val (.int F), .val (.int p), .val (.int b'), v']) →
    forL (fun ρ t e => exs PP.val (callN PP n) x c__law_blended_b1 ρ t e) (.one 5) (ns.map .int) [.val .stt, .val (.int T), .val (.int F), .val (.int p), .val (.int b), v] t e
  | [], _, b, v, h1, h2, h => by
    unfold forL
    exact h b v h1 h2
  | c :: ns, hn, b, v, h1, h2, h => by
    rw [List.map_cons]
    refine forL_step fun e' hr hx _ _ => ?_
    unfold c__law_blended_b1
    walk_at "wp"
    refine ⟨CMulW_small (by omega) (by decide), by omega, hx _ _ (bl_inner hT hp hp2 ns (fun n hn' => hn n (List.mem_cons_of_mem _ hn')) _ _ ?_ ?_ h)⟩
    · exact Int.fmod_nonneg_of_pos _ hp
    · have := Int.fmod_lt_of_pos (b * 69621 + c + T) hp
      omega
theorem bl_outer {T : Int} (hT : 0 ≤ T) (hT2 : T < 2 ^ 40) {e : En} : ∀ (ps : List Int), (∀ p ∈ ps, 0 < p ∧ p < 2 ^ 31) → ∀ (m : Nat) (F : Int) (v3 v4 v5 : Sv), m + ps.length < 100 → 0 ≤ F → F < 2 ^ (64 * m) → (∀ F' v3 v4 v5, 0 ≤ F' → e.nx t [.val .stt, .val (.int T), .val (.int F'), v3, v4, v5]) →
    forL (fun ρ t e => exs PP.val (callN PP n) x c__law_blended_b2 ρ t e) (.one 3) (ps.map .int) [.val .stt, .val (.int T), .val (.int F), v3, v4, v5] t e
  | [], _, m, F, v3, v4, v5, _, h1, h2, h => by
    unfold forL
    exact h F v3 v4 v5 h1
  | p :: ps, hp, m, F, v3, v4, v5, hm, h1, h2, h => by
    rw [List.map_cons]
    refine forL_step fun e' hr hx _ _ => ?_
    obtain ⟨q1, q2⟩ := hp p List.mem_cons_self
    unfold c__law_blended_b2
    walk_at "wp"
    have hq : 0 ≤ p.fdiv 67 := Int.fdiv_nonneg (by omega) (by omega)
    have hq2 : p.fdiv 67 < 2 ^ 31 := by
      have : p.fdiv 67 ≤ p := by
        rw [Int.fdiv_eq_ediv_of_nonneg _ (by omega)]
        exact Int.ediv_le_self _ (by omega)
      omega
    refine ⟨CMulW_small (by decide) (by omega), ⟨by decide, by decide⟩, fun ns hns => ?_⟩
    refine bl_inner hT q1 q2 ns hns _ _ (by omega) (by omega) fun b v hb1 hb2 => ?_
    walk_at "wp"
    simp only [List.length_cons] at hm
    have hF : (F.natAbs : Nat) < 2 ^ (64 * m) := by
      have : (F.natAbs : Int) < 2 ^ (64 * m) := by rw [Int.natAbs_of_nonneg h1]; exact h2
      exact_mod_cast this
    have hmod := Int.fmod_nonneg_of_pos (b ^ (5 : Int).toNat) q1
    have hmod2 := Int.fmod_lt_of_pos (b ^ (5 : Int).toNat) q1
    refine ⟨cmul_lt (64 * m) 64 hF (by decide) (by omega), ⟨⟨by decide, by decide, by omega⟩, ?_⟩⟩
    walk_at "wp"
    refine ⟨by omega, hx _ _ (bl_outer hT hT2 ps (fun p hp' => hp p (List.mem_cons_of_mem _ hp')) (m + 1) _ _ _ _ (by omega) (by omega) ?_ h)⟩
    have e : (2 : Int) ^ (64 * (m + 1)) = 2 ^ (64 * m) * 2 ^ 64 := by rw [← Int.pow_add]; congr 1
    rw [e]
    omega
theorem blended_ok (ht : t + 1 < 2 ^ 40) (h : ∀ i : Int, 0 ≤ i → ∀ t', t' ≤ t + 1 → k t' .f (.int i)) : callN PP (n + 1) (.fn "_law_blended") [.stt] [] t k x := by
  refine call_fn f__law_blended rfl rfl ?_
  unfold c__law_blended
  walk_at "wp"
  intro i h0 h1
  refine ⟨by omega, ?_⟩
  refine bl_outer (by omega) (by omega) [2147482343, 2147482327, 2147482291] (by simp) 0 0 _ _ _ (by simp) (by omega) (by simp) fun F v3 v4 v5 hF => ?_
  exact h F hF _ (by omega)
theorem draw_ok {m : Int} (hm : 0 < m) (hm2 : m < 1073741824) (ht : t + 1 < 2 ^ 40) (h : ∀ i : Int, 0 ≤ i → i < m → ∀ t', t' ≤ t + 1 → k t' .f (.int i)) : callN PP (n + 2) (.fn "_law_draw") [.stt, .int m] [] t k x := by
  refine call_fn f__law_draw rfl rfl ?_
  unfold c__law_draw
  walk_at "wp"
  have key : ∀ t', t' ≤ t + 1 → ∀ i : Int, 0 ≤ i → ¬m = 0 ∧ ∀ (i_1 : Int), 0 ≤ i_1 → L2.CDivN i_1 m ∧ 0 ≤ i_1.fdiv m ∧ k t' Fl.f (D.int (i.fmod m)) := fun t' ht' i hi =>
    ⟨by omega, fun j hj => ⟨⟨by omega, by omega⟩, Int.fdiv_nonneg hj (by omega), h _ (Int.fmod_nonneg_of_pos _ hm) (Int.fmod_lt_of_pos _ hm) t' ht'⟩⟩
  intro i hi
  split
  · refine ⟨key t (by omega), blended_ok ht fun i hi t' ht' => ?_⟩
    walk_at "wp"
    exact ⟨hi, key t' ht'⟩
  · exact key t (by omega)
theorem pick_ok {l : List D} (hl : l ≠ []) (hl2 : l.length < 1000) (ht : t + 1 < 2 ^ 40) (h : ∀ d ∈ l, ∀ t', t' ≤ t + 1 → k t' .f d) : callN PP (n + 3) (.fn "_law_pick") [.stt, .lst l] [] t k x := by
  refine call_fn f__law_pick rfl rfl ?_
  unfold c__law_pick
  walk_at "wp"
  have hp : 0 < l.length := List.length_pos_iff.mpr hl
  refine draw_ok (by omega) (by omega) ht fun i h0 h1 t' ht' => ?_
  walk_at "wp"
  obtain ⟨j, rfl⟩ : ∃ j : Nat, i = j := ⟨i.toNat, by omega⟩
  exact ⟨l[j]'(by omega), by rw [atI_nat _ _ (by omega), List.getElem?_eq_getElem (by omega)], h _ (List.getElem_mem _) t' ht'⟩
/-! ### corners -/
theorem two_lt {j : Nat} (h : j ≤ 6) : 2 ^ j ≤ 64 := by
  have := Nat.pow_le_pow_right (n := 2) (by omega) h
  omega
theorem corners_by_loop {m : Int} {e : En} : ∀ (its : List D) (j : Nat) (v2 v3 v4 v5 : Sv), j + its.length ≤ 6 → (∀ v2 v3 v4 v5, e.nx t [.val (.int m), .val (eCs (corners (j + its.length))), v2, v3, v4, v5]) →
    forL (fun ρ t e => exs PP.val (callN PP n) x c_corners_by_b1 ρ t e) (.one 2) its [.val (.int m), .val (eCs (corners j)), v2, v3, v4, v5] t e
  | [], j, v2, v3, v4, v5, hj, h => by
    unfold forL
    exact h v2 v3 v4 v5
  | d :: its, j, v2, v3, v4, v5, hj, h => by
    refine forL_step fun e' hr hx _ _ => ?_
    simp only [List.length_cons] at hj h
    unfold c_corners_by_b1
    walk_at "wp"
    have h2 := two_lt (j := j) (by omega)
    refine lcGo_flat eC (fun c => [eC (c ++ [0]), eC (c ++ [1])]) (corners j) [] ?_ (fun c hc acc k' hl hk => ?_) ?_
    · rw [List.length_nil, flat2_len, corners_len]
      exact sizeL (by omega)
    · simp only [List.length_cons, List.length_nil] at hl
      obtain ⟨hc1, hc2⟩ := corners_mem hc
      simp only [lcGo, bindT]
      walk_at "wp"
      have : c.length + 1 ≤ sizeLine := sizeL (by omega)
      refine ⟨this, by omega, this, by simp; omega, ?_⟩
      simpa using hk
    · refine hx _ _ ?_
      have := corners_by_loop (m := m) (e := e) its (j + 1) (.val d) v3 v4 v5 (by omega) (by rw [show j + 1 + its.length = j + (its.length + 1) from by omega]; exact h)
      rw [eCs, corners, List.map_flatMap] at this
      exact this
theorem corners_by_ok {m : Nat} (hm : m ≤ 6) (h : k t .f (eCs (corners m))) : callN PP (n + 1) (.fn "corners_by") [.int m] [] t k x := by
  refine call_fn f_corners_by rfl rfl ?_
  unfold c_corners_by
  walk_at "wp"
  refine ⟨by omega, by omega, corners_by_loop (rangeL 0 m) 0 _ _ _ _ (by rw [rangeL_len]; omega) fun v2 v3 v4 v5 => ?_⟩
  rw [rangeL_len, Nat.zero_add]
  exact h
theorem number_loop {c : List Int} {e : En} : ∀ (its : List Int) (a : Int) (v2 : Sv), (∀ v2, e.nx t [.val (eC c), .val (.int (its.foldl (fun a b => 2 * a + b) a)), v2]) → 0 ≤ a → a < 2 ^ (20 - its.length) → its.length ≤ 10 → (∀ b ∈ its, b = 0 ∨ b = 1) →
    forL (fun ρ t e => exs PP.val (callN PP n) x c_corner_number_b1 ρ t e) (.one 2) (its.map .int) [.val (eC c), .val (.int a), v2] t e
  | [], a, v2, h, _, _, _, _ => by
    unfold forL
    exact h v2
  | b :: its, a, v2, h, h0, h1, hl, h01 => by
    rw [List.map_cons]
    refine forL_step fun e' hr hx _ _ => ?_
    unfold c_corner_number_b1
    walk_at "wp"
    have hb := h01 b List.mem_cons_self
    simp only [List.length_cons] at h1 hl
    have e2 : (2 : Int) ^ (20 - its.length) = 2 * 2 ^ (20 - (its.length + 1)) := by
      rw [show 20 - its.length = 20 - (its.length + 1) + 1 from by omega, Int.pow_succ]
      omega
    have e3 : 2 ^ (20 - (its.length + 1)) ≤ 2 ^ 20 := Nat.pow_le_pow_right (n := 2) (by omega) (by omega)
    have e4 : (2 : Int) ^ (20 - (its.length + 1)) ≤ 2 ^ 20 := by exact_mod_cast e3
    have ha : a < 2 ^ 20 := by omega
    exact ⟨CMulW_small (by decide) (by omega), hx _ _ (number_loop its _ _ h (by omega) (by omega) (by omega) fun b hb => h01 b (List.mem_cons_of_mem _ hb))⟩
theorem number_ok {m : Nat} {c : List Int} (hm : m ≤ 6) (hc : c ∈ corners m) (h : k t .f (.int (num c))) : callN PP (n + 1) (.fn "corner_number") [eC c] [] t k x := by
  refine call_fn f_corner_number rfl rfl ?_
  unfold c_corner_number
  walk_at "wp"
  obtain ⟨h1, h2⟩ := corners_mem hc
  refine number_loop c 0 _ (fun v2 => ?_) (by omega) (Int.pow_pos (by omega)) (by omega) h2
  exact h
theorem fn_number_loop {c : List Int} {e : En} : ∀ (its : List Int) (a : Int) (v2 : Sv), (∀ v2, e.nx t [.val (eC c), .val (.int (its.foldl (fun a b => 2 * a + b) a)), v2]) →
    forL (fun ρ t e => exs PP.val (callN PP n) x c__law_fn_number_b1 ρ t e) (.one 2) (its.map .int) [.val (eC c), .val (.int a), v2] t e
  | [], a, v2, h => by
    unfold forL
    exact h v2
  | b :: its, a, v2, h => by
    rw [List.map_cons]
    refine forL_step fun e' hr hx _ _ => ?_
    unfold c__law_fn_number_b1
    walk_at "wp"
    refine hx _ _ (fn_number_loop its _ _ fun v2 => ?_)
    rw [show a + a + b = 2 * a + b from by omega]
    exact h v2
theorem fn_number_ok {c : List Int} (h : k t .f (.int (num c))) : callN PP (n + 1) (.fn "_law_fn_number") [eC c] [] t k x := by
  refine call_fn f__law_fn_number rfl rfl ?_
  unfold c__law_fn_number
  walk_at "wp"
  exact fn_number_loop c 0 _ (fun v2 => h)
theorem fn_corners_inner {m : Int} {l0 : List (List Int)} {e : En} {v2 : Sv} : ∀ (l : List (List Int)) (acc : List (List Int)) (v4 : Sv), (∀ c ∈ l, c.length ≤ 10) → acc.length + 2 * l.length ≤ 1000 → (∀ v4, e.nx t [.val (.int m), .val (eCs l0), v2, .val (eCs (acc ++ l.flatMap fun c => [c ++ [0], c ++ [1]])), v4]) →
    forL (fun ρ t e => exs PP.val (callN PP n) x c__law_fn_corners_b1 ρ t e) (.one 4) (l.map eC) [.val (.int m), .val (eCs l0), v2, .val (eCs acc), v4] t e
  | [], acc, v4, _, _, h => by
    unfold forL
    simpa using h v4
  | c :: l, acc, v4, hc, hl, h => by
    rw [List.map_cons]
    refine forL_step fun e' hr hx _ _ => ?_
    simp only [List.length_cons] at hl
    have hc0 := hc c List.mem_cons_self
    have := fn_corners_inner (e := e) (v2 := v2) (m := m) (l0 := l0) l (acc ++ [c ++ [0], c ++ [1]]) (.val (eC c)) (fun c hc' => hc c (List.mem_cons_of_mem _ hc')) (by simp only [List.length_append, List.length_cons, List.length_nil]; omega) (by simpa using h)
    unfold c__law_fn_corners_b1
    walk_at "wp"
    refine ⟨sizeL (by omega), sizeL (by omega), sizeL (by omega), ?_⟩
    exact hx _ _ this
theorem fn_corners_outer {m : Int} {e : En} : ∀ (its : List D) (j : Nat) (v2 v3 v4 : Sv), j + its.length ≤ 6 → (∀ v2 v3 v4, e.nx t [.val (.int m), .val (eCs (corners (j + its.length))), v2, v3, v4]) →
    forL (fun ρ t e => exs PP.val (callN PP n) x c__law_fn_corners_b2 ρ t e) (.one 2) its [.val (.int m), .val (eCs (corners j)), v2, v3, v4] t e
  | [], j, v2, v3, v4, hj, h => by
    unfold forL
    exact h v2 v3 v4
  | d :: its, j, v2, v3, v4, hj, h => by
    refine forL_step fun e' hr hx _ _ => ?_
    simp only [List.length_cons] at hj h
    have h2 := two_lt (j := j) (by omega)
    have key := fn_corners_outer (m := m) (e := e) its (j + 1)
    unfold c__law_fn_corners_b2
    walk_at "wp"
    rw [eCs_nil]
    refine fn_corners_inner (n := n) (x := x) (t := t) (m := m) (l0 := corners j) (v2 := .val d) (corners j) [] v4 (fun c hc => by rw [(corners_mem hc).1]; omega) (by rw [corners_len]; simp; omega) fun v4' => ?_
    walk_at "wp"
    refine hx _ _ (key _ _ _ (by omega) (by rw [show j + 1 + its.length = j + (its.length + 1) from by omega]; exact h))
theorem fn_corners_ok {m : Nat} (hm : m ≤ 6) (h : k t .f (eCs (corners m))) : callN PP (n + 1) (.fn "_law_fn_corners") [.int m] [] t k x := by
  refine call_fn f__law_fn_corners rfl rfl ?_
  unfold c__law_fn_corners
  walk_at "wp"
  refine ⟨by omega, by omega, fn_corners_outer (rangeL 0 m) 0 _ _ _ (by rw [rangeL_len]; omega) fun v2 v3 v4 => ?_⟩
  rw [rangeL_len, Nat.zero_add]
  exact h
/-! ### bits -/
theorem bit_of_ok {m : Nat} {c : List Int} (hc : c ∈ corners m) : ∀ (tr : Tr) (n : Nat) (t : Nat) (k : Kt) (x : XP), tr.on m → tr.dep < n → k t .f (.int (tr.bit c)) → callN PP n (.fn "bit_of") [tr.enc, eC c] [] t k x
  | .leaf neg p, n, t, k, x, ho, hn, h => by
    obtain ⟨n, rfl⟩ : ∃ j, n = j + 1 := ⟨n - 1, by omega⟩
    have hp : p < c.length := by rw [(corners_mem hc).1]; exact ho
    refine call_fn f_bit_of rfl rfl ?_
    unfold c_bit_of
    cases neg <;> walk_at "wp" <;> refine ix_eC hp ?_ <;> (try walk_at "wp") <;> exact h
  | .node o a b, n, t, k, x, ho, hn, h => by
    simp only [Tr.dep] at hn
    obtain ⟨n, rfl⟩ : ∃ j, n = j + 1 := ⟨n - 1, by omega⟩
    refine call_fn f_bit_of rfl rfl ?_
    unfold c_bit_of
    cases o <;> walk_at "wp"
    all_goals
      refine bit_of_ok hc a n t _ _ ho.1 (by omega) ?_
      walk_at "wp"
      refine bit_of_ok hc b n t _ _ ho.2 (by omega) ?_
      walk_at "wp"
      simp only [min_if, max_if]
      exact h
theorem tr_bit_ok {m : Nat} {c : List Int} (hc : c ∈ corners m) : ∀ (tr : Tr) (n : Nat) (t : Nat) (k : Kt) (x : XP), tr.on m → tr.dep < n → k t .f (.int (tr.bit c)) → callN PP n (.fn "_law_tr_bit") [tr.enc, eC c] [] t k x
  | .leaf neg p, n, t, k, x, ho, hn, h => by
    obtain ⟨n, rfl⟩ : ∃ j, n = j + 1 := ⟨n - 1, by omega⟩
    have hp : p < c.length := by rw [(corners_mem hc).1]; exact ho
    refine call_fn f__law_tr_bit rfl rfl ?_
    unfold c__law_tr_bit
    cases neg <;> walk_at "wp" <;> refine ix_eC hp ?_ <;> (try walk_at "wp") <;> exact h
  | .node o a b, n, t, k, x, ho, hn, h => by
    simp only [Tr.dep] at hn
    obtain ⟨n, rfl⟩ : ∃ j, n = j + 1 := ⟨n - 1, by omega⟩
    refine call_fn f__law_tr_bit rfl rfl ?_
    unfold c__law_tr_bit
    cases o <;> walk_at "wp" <;> simp only [lcGo] <;> walk_at "wp"
    all_goals
      refine tr_bit_ok hc a n t _ _ ho.1 (by omega) ?_
      walk_at "wp"
      refine ⟨by rw [sizeLine_eq]; omega, tr_bit_ok hc b n t _ _ ho.2 (by omega) ?_⟩
      walk_at "wp"
      refine ⟨by rw [sizeLine_eq]; omega, _, _, rfl, rfl, ?_⟩
      walk_at "wp"
      exact h
theorem bits_by_ok {m : Nat} (hm : m ≤ 6) (tr : Tr) (ho : tr.on m) (hn : tr.dep < n) (h : k t .f (eC (bitsOf m tr))) : callN PP (n + 1) (.fn "bits_by") [.int m, tr.enc] [] t k x := by
  refine call_fn f_bits_by rfl rfl ?_
  unfold c_bits_by
  walk_at "wp"
  obtain ⟨n, rfl⟩ : ∃ j, n = j + 1 := ⟨n - 1, by omega⟩
  refine corners_by_ok hm ?_
  walk_at "wp"
  refine lcGo_map eC (fun c => .int (tr.bit c)) (corners m) [] ?_ (fun c hc acc k' hl hk => ?_) ?_
  · rw [corners_len]; have := two_lt hm; exact sizeL (by simp; omega)
  · refine bit_of_ok hc tr _ _ _ _ ho hn ?_
    walk_at "wp"
    exact ⟨hl, hk⟩
  · walk_at "wp"
    rw [eC_of]
    exact h
theorem tr_bits_ok {m : Nat} (hm : m ≤ 6) (tr : Tr) (ho : tr.on m) (hn : tr.dep < n) (h : k t .f (eC (bitsOf m tr))) : callN PP (n + 1) (.fn "_law_tr_bits") [.int m, tr.enc] [] t k x := by
  refine call_fn f__law_tr_bits rfl rfl ?_
  unfold c__law_tr_bits
  walk_at "wp"
  obtain ⟨n, rfl⟩ : ∃ j, n = j + 1 := ⟨n - 1, by omega⟩
  refine fn_corners_ok hm ?_
  walk_at "wp"
  refine lcGo_map eC (fun c => .int (tr.bit c)) (corners m) [] ?_ (fun c hc acc k' hl hk => ?_) ?_
  · rw [corners_len]; have := two_lt hm; exact sizeL (by simp; omega)
  · refine tr_bit_ok hc tr _ _ _ _ ho hn ?_
    walk_at "wp"
    exact ⟨hl, hk⟩
  · walk_at "wp"
    rw [eC_of]
    exact h
/-! ### functions -/
theorem need_many_ok {m : Nat} (hm : m ≤ 6) (h : k t .f .non) : callN PP (n + 3) (.fn "need_many") [.int m] [] t k x := by
  refine call_fn f_need_many rfl rfl ?_
  unfold c_need_many
  walk_at "wp"
  rw [v_MOST_PLACES]
  walk_at "wp"
  refine is_number_int _ _ _ (by omega) (by omega) ?_
  have : (0 : Int) ≤ m ∧ (m : Int) ≤ 6 := by omega
  simp only [this, and_self]
  walk_at "wp"
  exact h
theorem are_bits_ok {l : List Int} (hl : l.length ≤ 64) (h01 : ∀ b ∈ l, b = 0 ∨ b = 1) (h : k t .f (.bl true)) : callN PP (n + 3) (.fn "are_bits") [.int l.length, eC l] [] t k x := by
  refine call_fn f_are_bits rfl rfl ?_
  unfold c_are_bits
  walk_at "wp"
  refine lcGo_map D.int (fun _ => .bl true) l [] (sizeL (by simp; omega)) (fun b hb acc k' hl hk => ?_) ?_
  · have := h01 b hb
    refine is_number_int _ _ _ (by omega) (by omega) ?_
    walk_at "wp"
    refine ⟨hl, ?_⟩
    have : (0 : Int) ≤ b ∧ b ≤ 1 := by omega
    simp only [this, and_self]
    exact hk
  · refine ⟨_, blsOf_map _ l, ?_⟩
    have : (l.map fun _ => true).all id = true := by simp
    rw [this]
    walk_at "wp"
    exact h
theorem Function_ok {m : Nat} {l : List Int} (hm : m ≤ 6) (hl : l.length = 2 ^ m) (h01 : ∀ b ∈ l, b = 0 ∨ b = 1) (h : k t .n (eF m l)) : callN PP (n + 5) (.fn "Function") [.int m, eC l] [] t k x := by
  refine call_cl f_Function rfl rfl fun p => ?_
  unfold c_Function
  walk_at "wp"
  refine need_many_ok hm ?_
  walk_at "wp"
  rw [v_CORNERS]
  walk_at "wp"
  refine ix_cor (t := 0) hm ?_
  rw [← hl]
  refine are_bits_ok (by rw [hl]; exact two_lt hm) h01 ?_
  walk_at "wp"
  exact ⟨by omega, by omega, h⟩
theorem fn_made_ok {m : Nat} {l : List Int} (hm : m ≤ 6) (hl : l.length = 2 ^ m) (h01 : ∀ b ∈ l, b = 0 ∨ b = 1) (h : k t .n (eF m l)) : callN PP (n + 6) (.fn "_law_fn_made") [.tup [.int m, eC l]] [] t k x := by
  refine call_fn f__law_fn_made rfl rfl ?_
  unfold c__law_fn_made
  walk_at "wp"
  refine Function_ok hm hl h01 ?_
  walk_at "wp"
  exact h
theorem bit_at_ok {m : Nat} {c : List Int} {tr : Tr} (hm : m ≤ 6) (hc : c ∈ corners m) (h : k t .f (.int (tr.bit c))) : callN PP (n + 2) (.fn "bit_at") [eF m (bitsOf m tr), eC c] [] t k x := by
  refine call_fn f_bit_at rfl rfl ?_
  unfold c_bit_at
  walk_at "wp"
  refine number_ok hm hc ?_
  walk_at "wp"
  exact ⟨_, atI_map (corners_num hc).1 (bitsOf_num tr hc), h⟩
theorem fn_bit_ok {m : Nat} {c : List Int} {tr : Tr} (hc : c ∈ corners m) (h : k t .f (.int (tr.bit c))) : callN PP (n + 2) (.fn "_law_fn_bit") [eC (bitsOf m tr), eC c] [] t k x := by
  refine call_fn f__law_fn_bit rfl rfl ?_
  unfold c__law_fn_bit
  walk_at "wp"
  refine fn_number_ok ?_
  walk_at "wp"
  exact ⟨_, atI_map (corners_num hc).1 (bitsOf_num tr hc), h⟩
theorem need_function_ok {m : Nat} {l : List Int} (h : k t .f .non) : callN PP (n + 1) (.fn "need_function") [eF m l] [] t k x := by
  refine call_fn f_need_function rfl rfl ?_
  unfold c_need_function
  walk_at "wp"
  exact h
theorem need_unlike_ok {m : Nat} {l : List Int} (h0 : (0 : Int) ∈ l) (h1 : (1 : Int) ∈ l) (h : k t .f .non) : callN PP (n + 2) (.fn "need_unlike") [eF m l] [] t k x := by
  refine call_fn f_need_unlike rfl rfl ?_
  unfold c_need_unlike
  walk_at "wp"
  refine need_function_ok ?_
  walk_at "wp"
  simp only [h0, h1]
  walk_at "wp"
  exact h
def word : Tr → Str
  | .leaf false _ => "place"
  | .leaf true _ => "not"
  | .node false _ _ => "and"
  | .node true _ _ => "or"
theorem word_of_ok (tr : Tr) (h : k t .f (.str (word tr))) : callN PP (n + 1) (.fn "word_of") [tr.enc] [] t k x := by
  refine call_fn f_word_of rfl rfl ?_
  unfold c_word_of
  cases tr with
  | leaf neg p => cases neg <;> walk_at "wp" <;> exact h
  | node o a b => cases o <;> walk_at "wp" <;> exact h
def stkL (l : List Tr) : Nat := (l.map Tr.leaves).sum
def tsize : Tr → Nat
  | .leaf _ _ => 1
  | .node _ a b => 1 + tsize a + tsize b
def stkS (l : List Tr) : Nat := (l.map tsize).sum
theorem len_stkL : ∀ l : List Tr, l.length ≤ stkL l
  | [] => Nat.zero_le _
  | a :: l => by
    have := a.leaves_pos
    have := len_stkL l
    simp only [stkL, List.map_cons, List.sum_cons, List.length_cons] at this ⊢
    omega
theorem stk_last (a : Tr) (r : List Tr) : ((a :: r).reverse.map Tr.enc).getLast? = some a.enc := by simp
theorem stk_drop (a : Tr) (r : List Tr) : ((a :: r).reverse.map Tr.enc).dropLast = r.reverse.map Tr.enc := by simp
theorem leaves_by_ok {m : Nat} (hm : m ≤ 6) (tr : Tr) (ho : tr.on m) (hl : tr.leaves ≤ 128) (h : k t .f (.int tr.leaves)) : callN PP (n + 4) (.fn "leaves_by") [.int m, tr.enc] [] t k x := by
  refine call_fn f_leaves_by rfl rfl ?_
  unfold c_leaves_by
  walk_at "wp"
  refine ⟨tsize tr + 1, whl_ind (fun sz ρ t' => t' = t ∧ ∃ (stk : List Tr) (f : Nat) (v4 v5 : Sv), ρ = [.val (.int m), .val tr.enc, .val (.int f), .own (.lst (stk.reverse.map Tr.enc)), v4, v5] ∧ (∀ a ∈ stk, a.on m) ∧ f + stkL stk = tr.leaves ∧ sz = stkS stk) ?_ _ (tsize tr) _ t (by omega) ⟨rfl, [tr], 0, .non, .non, rfl, by simpa using ho, by simp [stkL], by simp [stkS]⟩⟩
  rintro sz ρ t' ⟨rfl, stk, f, v4, v5, rfl, hon, hf, rfl⟩ e' hr hx
  unfold c_leaves_by_w1
  walk_at "wp"
  refine eq_nilL (pureT _) ?_
  cases stk with
  | nil =>
    walk_at "wp"
    simp only [stkL, List.map_nil, List.sum_nil, Nat.add_zero] at hf
    simp only [List.reverse_nil, List.map_nil, List.isEmpty_nil]
    walk_at "wp"
    rw [hf]
    exact h
  | cons a stk =>
    have he : ((a :: stk).reverse.map Tr.enc).isEmpty = false := by simp
    rw [he]
    unfold c_leaves_by_b1
    walk_at "wp"
    have ha := hon a List.mem_cons_self
    have hon' : ∀ b ∈ stk, b.on m := fun b hb => hon b (List.mem_cons_of_mem _ hb)
    have hlen := len_stkL stk
    simp only [stkL, stkS, List.map_cons, List.sum_cons] at hf hx hlen
    refine ⟨_, stk_last a stk, by omega, ?_⟩
    rw [stk_drop]
    walk_at "wp"
    refine word_of_ok a ?_
    walk_at "wp"
    simp only [v_LEAVES, v_SIGNS, v_MOST_LEAVES]
    cases a with
    | leaf neg p =>
      have hp : (p : Int) < m := by have : p < m := ha; omega
      simp only [Tr.leaves] at hf
      have key : e'.nx t' [.val (.int m), .val tr.enc, .val (.int ((f : Int) + 1)), .own (.lst (stk.reverse.map Tr.enc)), .val (Tr.leaf neg p).enc, .val (.str (word (.leaf neg p)))] := hx (stkS stk) _ _ (by simp only [tsize, stkS]; omega) ⟨rfl, stk, f + 1, .val (Tr.leaf neg p).enc, .val (.str (word (.leaf neg p))), by simp, hon', by omega, rfl⟩
      cases neg <;> simp only [word] <;> walk_at "wp" <;> refine is_number_int _ _ _ (by omega) (by omega) ?_ <;> walk_at "wp"
      all_goals
        rw [if_pos (by omega)]
        walk_at "wp"
        rw [if_neg (by omega)]
        exact key
    | node o a b =>
      simp only [Tr.leaves] at hf
      have := a.leaves_pos
      have := b.leaves_pos
      have key : e'.nx t' [.val (.int m), .val tr.enc, .val (.int f), .own (.lst (stk.reverse.map Tr.enc ++ [a.enc, b.enc])), .val (Tr.node o a b).enc, .val (.str (word (.node o a b)))] := hx (stkS (b :: a :: stk)) _ _ (by simp only [tsize, stkS, List.map_cons, List.sum_cons]; omega) ⟨rfl, b :: a :: stk, f, .val (Tr.node o a b).enc, .val (.str (word (.node o a b))), by simp, fun c hc => by
          rcases List.mem_cons.mp hc with rfl | hc
          · exact ha.2
          · rcases List.mem_cons.mp hc with rfl | hc
            · exact ha.1
            · exact hon' c hc, by simp only [List.map_cons, List.sum_cons]; omega, rfl⟩
      cases o <;> simp only [word] <;> walk_at "wp"
      all_goals
        have hL : (stk.reverse.map Tr.enc).length = stk.length := by simp
        rw [if_pos (by rw [hL]; omega)]
        simp only [extD]
        refine ⟨by rw [hL]; exact sizeL (by simp; omega), ?_⟩
        rw [if_neg (by omega)]
        exact key
theorem need_telling_ok {m : Nat} (hm : m ≤ 6) (tr : Tr) (ho : tr.on m) (hl : tr.leaves ≤ 128) (hn : tr.dep < n) (h0 : (0 : Int) ∈ bitsOf m tr) (h1 : (1 : Int) ∈ bitsOf m tr) (h : k t .f .non) : callN PP (n + 5) (.fn "need_telling") [eF m (bitsOf m tr), tr.enc] [] t k x := by
  refine call_fn f_need_telling rfl rfl ?_
  unfold c_need_telling
  walk_at "wp"
  refine need_unlike_ok h0 h1 ?_
  walk_at "wp"
  refine leaves_by_ok hm tr ho hl ?_
  walk_at "wp"
  refine bits_by_ok (n := n + 3) hm tr ho (by omega) ?_
  walk_at "wp"
  exact h
end
end K81
end Lk
set_option autoImplicit false
set_option linter.all false
namespace Lk
namespace K81
open PySem
local macro_rules | `(tactic| walk_at "wp") => `(tactic| try simp only [exs, ev, evs, evo, evi, evc, evg, getV_v0, getV_o0, getV_s, getO_o0, getO_s, rtvD_v0, rtvD_o0, rtvD_s, frzD_v0, frzD_o0, bind_one, bind_many, bindMany, startR, wipeR, List.map_cons, List.map_nil, List.length_cons, List.length_nil, List.cons_append, List.nil_append, List.replicate, List.set, if_true, if_false, Bool.false_eq_true, bEx_nil, bEx_f, bEx_n, noB_nil, noB_f, noB_n, fnb, nnb, true_and, and_true, bindN, endF, valD, D.isNon, isStt, isLst, trD_bl, trD_non, trD_int, trD_lst, trD_tup, bin_add, bin_sub, bin_mul, bin_mod, bin_fdv, bin_pow, add_int, add_tup, add_lst, sub_int, mul_int, mod_int, fdv_int, cmp_eq, cmp_ne, cmp_in, cmp_ni, cmp_lt, cmp_le, cmp_gt, cmp_ge, eq_int, eq_str, ix_tup, ix_lst, ix_left, ix_turn, ix_cells, sts_turn, sts_left, len_tup, len_lst, len_dct, len_dcl, blt_abs, blt_int, blt_max, blt_min, blt_tupL, blt_tupT, blt_lstL, blt_lstT, it_tup, it_lst, it_dcl, rng_1, opt_n, opt_s, sl_tup, sl_lst, tn_int, tn_tup, tn_lst, tn_str, tn_non, tn_obj, Bool.not_true, Bool.not_false, List.foldr, Bool.or_false, Bool.or_true, Bool.false_or, Bool.true_or, Option.some.injEq, exists_eq_left', Nat.reduceAdd, Nat.reduceSub, forall_const, pow18, beq_self_eq_true, String.reduceBEq, String.reduceEq, ofStr_inj, Int.reduceNeg, Int.reduceAdd, Int.reduceSub, decide_eq_true_eq, bne_self_eq_false, reduceCtorEq, not_false_eq_true, ne_eq, Bool.and_false, Bool.false_and, Bool.and_true, Bool.true_and, or_true, true_or, decide_true, decide_false, or_false, false_or, sz0, sz1, sz2, sz3, sz4, in_int2, in_str2, it_eC, it_eCs, it_eCt, add_eC, add_eCs, len_eC, len_eCs, len_eCt, tup_eCs, eT_0p, eT_0n, eT_0a, eT_0o, eT_1l, eT_1n, eT_2n, eT_lenl, eT_lenn, eT_cut, eT_isT, Int.reduceEq, Int.reduceLT, Int.reduceLE, fset_slf, self_slf, putFD, endI, fld_many, fld_bits, isF, in_eC, eq_eC, isT_eC, isNewD, atI0, atI1, atI2])
/-! ### pieces -/
abbrev Pc := List (List Int) × List (List Int) × Nat
def eP (p : Pc) : D := .tup [eCt p.1, eCt p.2.1, .int p.2.2]
def pieces : Tr → List (List Int) → List (List Int) → List Pc
  | .leaf _ p, y, z => [(y, z, p)]
  | .node true a b, y, z => pieces a (y.filter fun c => decide (a.bit c = 1)) z ++ pieces b (y.filter fun c => !decide (c ∈ y.filter fun c => decide (a.bit c = 1))) z
  | .node false a b, y, z => pieces a y (z.filter fun c => decide (a.bit c = 0)) ++ pieces b y (z.filter fun c => !decide (c ∈ z.filter fun c => decide (a.bit c = 0)))
theorem pieces_len : ∀ (tr : Tr) (y z : List (List Int)), (pieces tr y z).length = tr.leaves
  | .leaf _ p, y, z => rfl
  | .node true a b, y, z => by simp only [pieces, List.length_append, pieces_len a, pieces_len b, Tr.leaves]
  | .node false a b, y, z => by simp only [pieces, List.length_append, pieces_len a, pieces_len b, Tr.leaves]
theorem add_pcs {l r : List Pc} {k : K1} : addD (.lst (l.map eP)) (.lst (r.map eP)) k = (l.length + r.length ≤ sizeLine ∧ k .n (.lst ((l ++ r).map eP))) := by
  simp [addD]
theorem in_eCs {c : List Int} {l : List (List Int)} {kb : Bool → Prop} : inD (eC c) (eCs l) kb = kb (decide (c ∈ l)) := by
  refine propext ⟨fun h => ?_, fun h => cod_eC.memL (by omega) c l kb h⟩
  have := h.2.2.2
  rwa [cod_eC.anyEq c l] at this
section
variable {n : Nat} {t : Nat} {k : Kt} {x : XP}
theorem pieces_by_ok {m : Nat} (hm : m ≤ 6) : ∀ (tr : Tr) (y z : List (List Int)) (n : Nat) (t : Nat) (k : Kt) (x : XP), tr.on m → tr.leaves ≤ 128 → tr.dep + 1 < n → y.length ≤ 64 → z.length ≤ 64 → (∀ c ∈ y, c ∈ corners m) → (∀ c ∈ z, c ∈ corners m) → k t .n (.lst ((pieces tr y z).map eP)) → callN PP n (.fn "pieces_by") [tr.enc, eCs y, eCs z] [] t k x
  | .leaf neg p, y, z, n, t, k, x, ho, hlv, hn, hy1, hz1, hy, hz, h => by
    obtain ⟨n, rfl⟩ : ∃ j, n = j + 1 := ⟨n - 1, by omega⟩
    refine call_fn f_pieces_by rfl rfl ?_
    unfold c_pieces_by
    walk_at "wp"
    exact h
  | .node true a b, y, z, n, t, k, x, ho, hlv, hn, hy1, hz1, hy, hz, h => by
    obtain ⟨n, rfl⟩ : ∃ j, n = j + 1 := ⟨n - 1, by omega⟩
    simp only [Tr.dep] at hn
    simp only [Tr.leaves] at hlv
    refine call_fn f_pieces_by rfl rfl ?_
    unfold c_pieces_by
    walk_at "wp"
    refine lcGo_filter eC eC (fun c => decide (a.bit c = 1)) y [] (sizeL (by simp; omega)) (fun c hc acc k' hl hk => ?_) ?_
    · walk_at "wp"
      refine bit_of_ok (hy c hc) a _ _ _ _ ho.1 (by omega) ?_
      walk_at "wp"
      by_cases hb : a.bit c = 1 <;> simp only [hb, decide_true, decide_false] at hk ⊢ <;> simpa [hl] using hk
    · walk_at "wp"
      have h1 : (y.filter fun c => decide (a.bit c = 1)).length ≤ 64 := Nat.le_trans (List.length_filter_le _ _) hy1
      refine pieces_by_ok hm a _ z _ _ _ _ ho.1 (by omega) (by omega) h1 hz1 (fun c hc => hy c ((List.mem_filter.mp hc).1)) hz ?_
      walk_at "wp"
      refine lcGo_filter eC eC (fun c => !decide (c ∈ y.filter fun c => decide (a.bit c = 1))) y [] (sizeL (by simp; omega)) (fun c hc acc k' hl hk => ?_) ?_
      · refine cod_eC.memL (by omega) c _ _ ?_
        by_cases hb : c ∈ y.filter (fun c => decide (a.bit c = 1)) <;> simp only [hb, decide_true, decide_false] at hk ⊢ <;> simpa [hl] using hk
      · walk_at "wp"
        refine pieces_by_ok hm b _ z _ _ _ _ ho.2 (by omega) (by omega) (Nat.le_trans (List.length_filter_le _ _) hy1) hz1 (fun c hc => hy c ((List.mem_filter.mp hc).1)) hz ?_
        walk_at "wp"
        refine ⟨by simp only [List.length_map, pieces_len]; exact sizeL (by omega), ?_⟩
        rw [← List.map_append]
        exact h
  | .node false a b, y, z, n, t, k, x, ho, hlv, hn, hy1, hz1, hy, hz, h => by
    obtain ⟨n, rfl⟩ : ∃ j, n = j + 1 := ⟨n - 1, by omega⟩
    simp only [Tr.dep] at hn
    simp only [Tr.leaves] at hlv
    refine call_fn f_pieces_by rfl rfl ?_
    unfold c_pieces_by
    walk_at "wp"
    refine lcGo_filter eC eC (fun c => decide (a.bit c = 0)) z [] (sizeL (by simp; omega)) (fun c hc acc k' hl hk => ?_) ?_
    · walk_at "wp"
      refine bit_of_ok (hz c hc) a _ _ _ _ ho.1 (by omega) ?_
      walk_at "wp"
      by_cases hb : a.bit c = 0 <;> simp only [hb, decide_true, decide_false] at hk ⊢ <;> simpa [hl] using hk
    · walk_at "wp"
      have h1 : (z.filter fun c => decide (a.bit c = 0)).length ≤ 64 := Nat.le_trans (List.length_filter_le _ _) hz1
      refine pieces_by_ok hm a y _ _ _ _ _ ho.1 (by omega) (by omega) hy1 h1 hy (fun c hc => hz c ((List.mem_filter.mp hc).1)) ?_
      walk_at "wp"
      refine lcGo_filter eC eC (fun c => !decide (c ∈ z.filter fun c => decide (a.bit c = 0))) z [] (sizeL (by simp; omega)) (fun c hc acc k' hl hk => ?_) ?_
      · refine cod_eC.memL (by omega) c _ _ ?_
        by_cases hb : c ∈ z.filter (fun c => decide (a.bit c = 0)) <;> simp only [hb, decide_true, decide_false] at hk ⊢ <;> simpa [hl] using hk
      · walk_at "wp"
        refine pieces_by_ok hm b y _ _ _ _ _ ho.2 (by omega) (by omega) hy1 (Nat.le_trans (List.length_filter_le _ _) hz1) hy (fun c hc => hz c ((List.mem_filter.mp hc).1)) ?_
        walk_at "wp"
        refine ⟨by simp only [List.length_map, pieces_len]; exact sizeL (by omega), ?_⟩
        rw [← List.map_append]
        exact h
theorem law_pieces_ok {m : Nat} (hm : m ≤ 6) : ∀ (tr : Tr) (y z : List (List Int)) (n : Nat) (t : Nat) (k : Kt) (x : XP), tr.on m → tr.leaves ≤ 128 → tr.dep + 1 < n → y.length ≤ 64 → z.length ≤ 64 → (∀ c ∈ y, c ∈ corners m) → (∀ c ∈ z, c ∈ corners m) → k t .n (.lst ((pieces tr y z).map eP)) → callN PP n (.fn "_law_k81_pieces") [tr.enc, eCs y, eCs z] [] t k x
  | .leaf neg p, y, z, n, t, k, x, ho, hlv, hn, hy1, hz1, hy, hz, h => by
    obtain ⟨n, rfl⟩ : ∃ j, n = j + 1 := ⟨n - 1, by omega⟩
    refine call_fn f__law_k81_pieces rfl rfl ?_
    unfold c__law_k81_pieces
    walk_at "wp"
    exact h
  | .node true a b, y, z, n, t, k, x, ho, hlv, hn, hy1, hz1, hy, hz, h => by
    obtain ⟨n, rfl⟩ : ∃ j, n = j + 1 := ⟨n - 1, by omega⟩
    simp only [Tr.dep] at hn
    simp only [Tr.leaves] at hlv
    refine call_fn f__law_k81_pieces rfl rfl ?_
    unfold c__law_k81_pieces
    walk_at "wp"
    refine lcGo_filter eC eC (fun c => decide (a.bit c = 1)) y [] (sizeL (by simp; omega)) (fun c hc acc k' hl hk => ?_) ?_
    · walk_at "wp"
      refine tr_bit_ok (hy c hc) a _ _ _ _ ho.1 (by omega) ?_
      walk_at "wp"
      by_cases hb : a.bit c = 1 <;> simp only [hb, decide_true, decide_false] at hk ⊢ <;> simpa [hl] using hk
    · walk_at "wp"
      have h1 : (y.filter fun c => decide (a.bit c = 1)).length ≤ 64 := Nat.le_trans (List.length_filter_le _ _) hy1
      refine law_pieces_ok hm a _ z _ _ _ _ ho.1 (by omega) (by omega) h1 hz1 (fun c hc => hy c ((List.mem_filter.mp hc).1)) hz ?_
      walk_at "wp"
      refine lcGo_filter eC eC (fun c => !decide (c ∈ y.filter fun c => decide (a.bit c = 1))) y [] (sizeL (by simp; omega)) (fun c hc acc k' hl hk => ?_) ?_
      · refine cod_eC.memL (by omega) c _ _ ?_
        by_cases hb : c ∈ y.filter (fun c => decide (a.bit c = 1)) <;> simp only [hb, decide_true, decide_false] at hk ⊢ <;> simpa [hl] using hk
      · walk_at "wp"
        refine law_pieces_ok hm b _ z _ _ _ _ ho.2 (by omega) (by omega) (Nat.le_trans (List.length_filter_le _ _) hy1) hz1 (fun c hc => hy c ((List.mem_filter.mp hc).1)) hz ?_
        walk_at "wp"
        refine ⟨by simp only [List.length_map, pieces_len]; exact sizeL (by omega), ?_⟩
        rw [← List.map_append]
        exact h
  | .node false a b, y, z, n, t, k, x, ho, hlv, hn, hy1, hz1, hy, hz, h => by
    obtain ⟨n, rfl⟩ : ∃ j, n = j + 1 := ⟨n - 1, by omega⟩
    simp only [Tr.dep] at hn
    simp only [Tr.leaves] at hlv
    refine call_fn f__law_k81_pieces rfl rfl ?_
    unfold c__law_k81_pieces
    walk_at "wp"
    refine lcGo_filter eC eC (fun c => decide (a.bit c = 0)) z [] (sizeL (by simp; omega)) (fun c hc acc k' hl hk => ?_) ?_
    · walk_at "wp"
      refine tr_bit_ok (hz c hc) a _ _ _ _ ho.1 (by omega) ?_
      walk_at "wp"
      by_cases hb : a.bit c = 0 <;> simp only [hb, decide_true, decide_false] at hk ⊢ <;> simpa [hl] using hk
    · walk_at "wp"
      have h1 : (z.filter fun c => decide (a.bit c = 0)).length ≤ 64 := Nat.le_trans (List.length_filter_le _ _) hz1
      refine law_pieces_ok hm a y _ _ _ _ _ ho.1 (by omega) (by omega) hy1 h1 hy (fun c hc => hz c ((List.mem_filter.mp hc).1)) ?_
      walk_at "wp"
      refine lcGo_filter eC eC (fun c => !decide (c ∈ z.filter fun c => decide (a.bit c = 0))) z [] (sizeL (by simp; omega)) (fun c hc acc k' hl hk => ?_) ?_
      · refine cod_eC.memL (by omega) c _ _ ?_
        by_cases hb : c ∈ z.filter (fun c => decide (a.bit c = 0)) <;> simp only [hb, decide_true, decide_false] at hk ⊢ <;> simpa [hl] using hk
      · walk_at "wp"
        refine law_pieces_ok hm b y _ _ _ _ _ ho.2 (by omega) (by omega) hy1 (Nat.le_trans (List.length_filter_le _ _) hz1) hy (fun c hc => hz c ((List.mem_filter.mp hc).1)) ?_
        walk_at "wp"
        refine ⟨by simp only [List.length_map, pieces_len]; exact sizeL (by omega), ?_⟩
        rw [← List.map_append]
        exact h
theorem filt_ok {m : Nat} {tr : Tr} {v : Int} {l : List (List Int)} (h : l = (corners m).filter fun c => decide (tr.bit c = v)) : l.length ≤ 2 ^ m ∧ ∀ c ∈ l, c ∈ corners m := by
  subst h
  exact ⟨by rw [← corners_len m]; exact List.length_filter_le _ _, fun c hc => (List.mem_filter.mp hc).1⟩
def yes (m : Nat) (tr : Tr) : List (List Int) := (corners m).filter fun c => decide (tr.bit c = 1)
def noL (m : Nat) (tr : Tr) : List (List Int) := (corners m).filter fun c => decide (tr.bit c = 0)
theorem kw_of {fn tr : D} (h : callN PP n (.fn "pieces_of") [fn, tr] [] t k x) : callN PP n (.fn "pieces_of") [tr, fn] ["tree", "function"] t k x := by
  cases n with
  | zero => exact h.elim
  | succ n =>
    unfold callN at h ⊢
    simp only [f_pieces_of] at h ⊢
    exact h
theorem pieces_of_ok {m : Nat} (hm : m ≤ 6) (tr : Tr) (ho : tr.on m) (hl : tr.leaves ≤ 128) (hn : tr.dep + 1 < n) (h0 : (0 : Int) ∈ bitsOf m tr) (h1 : (1 : Int) ∈ bitsOf m tr) (h : k t .f (.tup ((pieces tr (yes m tr) (noL m tr)).map eP))) : callN PP (n + 6) (.fn "pieces_of") [eF m (bitsOf m tr), tr.enc] [] t k x := by
  refine call_fn f_pieces_of rfl rfl ?_
  unfold c_pieces_of
  have hle := two_lt hm
  walk_at "wp"
  refine need_telling_ok hm tr ho hl (by omega) h0 h1 ?_
  walk_at "wp"
  refine corners_by_ok (n := n + 4) hm ?_
  walk_at "wp"
  refine lcGo_filter eC eC (fun c => decide (tr.bit c = 1)) (corners m) [] (by rw [corners_len]; exact sizeL (by simp; omega)) (fun c hc acc k' hl hk => ?_) ?_
  · walk_at "wp"
    refine bit_at_ok (n := n + 3) hm hc ?_
    walk_at "wp"
    by_cases hb : tr.bit c = 1 <;> simp only [hb, decide_true, decide_false] at hk ⊢ <;> simpa [hl] using hk
  · walk_at "wp"
    refine corners_by_ok (n := n + 4) hm ?_
    walk_at "wp"
    refine lcGo_filter eC eC (fun c => decide (tr.bit c = 0)) (corners m) [] (by rw [corners_len]; exact sizeL (by simp; omega)) (fun c hc acc k' hl hk => ?_) ?_
    · walk_at "wp"
      refine bit_at_ok (n := n + 3) hm hc ?_
      walk_at "wp"
      by_cases hb : tr.bit c = 0 <;> simp only [hb, decide_true, decide_false] at hk ⊢ <;> simpa [hl] using hk
    · walk_at "wp"
      obtain ⟨y1, y2⟩ := filt_ok (m := m) (tr := tr) (v := 1) rfl
      obtain ⟨z1, z2⟩ := filt_ok (m := m) (tr := tr) (v := 0) rfl
      refine pieces_by_ok hm tr _ _ _ _ _ _ ho hl (by omega) (by omega) (by omega) y2 z2 ?_
      walk_at "wp"
      exact h
theorem bo_corners_ok {m : Nat} (hm : m ≤ 6) (tr : Tr) (v : Int) (h : k t .n (eCs ((corners m).filter fun c => decide (tr.bit c = v)))) : callN PP (n + 3) (.fn "_law_bo_corners") [.tup [.int m, eC (bitsOf m tr)], .int v] [] t k x := by
  refine call_fn f__law_bo_corners rfl rfl ?_
  unfold c__law_bo_corners
  have hle := two_lt hm
  walk_at "wp"
  refine fn_corners_ok (n := n + 1) hm ?_
  walk_at "wp"
  refine lcGo_filter eC eC (fun c => decide (tr.bit c = v)) (corners m) [] (by rw [corners_len]; exact sizeL (by simp; omega)) (fun c hc acc k' hl hk => ?_) ?_
  · walk_at "wp"
    refine fn_bit_ok hc ?_
    walk_at "wp"
    by_cases hb : tr.bit c = v <;> simp only [hb, decide_true, decide_false] at hk ⊢ <;> simpa [hl] using hk
  · walk_at "wp"
    exact h
theorem tr_size_ok : ∀ (tr : Tr) (n : Nat) (t : Nat) (k : Kt) (x : XP), tr.dep < n → k t .f (.tup [.int tr.dep, .int tr.leaves]) → callN PP n (.fn "_law_tr_size") [tr.enc] [] t k x
  | .leaf neg p, n, t, k, x, hn, h => by
    obtain ⟨n, rfl⟩ : ∃ j, n = j + 1 := ⟨n - 1, by omega⟩
    refine call_fn f__law_tr_size rfl rfl ?_
    unfold c__law_tr_size
    walk_at "wp"
    exact h
  | .node o a b, n, t, k, x, hn, h => by
    obtain ⟨n, rfl⟩ : ∃ j, n = j + 1 := ⟨n - 1, by omega⟩
    simp only [Tr.dep] at hn
    refine call_fn f__law_tr_size rfl rfl ?_
    unfold c__law_tr_size
    walk_at "wp"
    simp only [lcGo]
    walk_at "wp"
    refine tr_size_ok a _ _ _ _ (by omega) ?_
    walk_at "wp"
    refine ⟨by rw [sizeLine_eq]; omega, tr_size_ok b _ _ _ _ (by omega) ?_⟩
    walk_at "wp"
    refine ⟨by rw [sizeLine_eq]; omega, ?_⟩
    rw [max_if]
    have e1 : 1 + max (a.dep : Int) b.dep = ((1 + max a.dep b.dep : Nat) : Int) := by omega
    have e2 : (a.leaves : Int) + b.leaves = ((a.leaves + b.leaves : Nat) : Int) := by omega
    rw [e1, e2]
    exact h
end
end K81
end Lk
set_option autoImplicit false
set_option linter.all false
namespace Lk
namespace K81
open PySem
local macro_rules | `(tactic| walk_at "wp") => `(tactic| try simp only [exs, ev, evs, evo, evi, evc, evg, getV_v0, getV_o0, getV_s, getO_o0, getO_s, rtvD_v0, rtvD_o0, rtvD_s, frzD_v0, frzD_o0, bind_one, bind_many, bindMany, startR, wipeR, List.map_cons, List.map_nil, List.length_cons, List.length_nil, List.cons_append, List.nil_append, List.replicate, List.set, if_true, if_false, Bool.false_eq_true, bEx_nil, bEx_f, bEx_n, noB_nil, noB_f, noB_n, fnb, nnb, true_and, and_true, bindN, endF, valD, D.isNon, isStt, isLst, trD_bl, trD_non, trD_int, trD_lst, trD_tup, bin_add, bin_sub, bin_mul, bin_mod, bin_fdv, bin_pow, add_int, add_tup, add_lst, sub_int, mul_int, mod_int, fdv_int, cmp_eq, cmp_ne, cmp_in, cmp_ni, cmp_lt, cmp_le, cmp_gt, cmp_ge, eq_int, eq_str, ix_tup, ix_lst, ix_left, ix_turn, ix_cells, sts_turn, sts_left, len_tup, len_lst, len_dct, len_dcl, blt_abs, blt_int, blt_max, blt_min, blt_tupL, blt_tupT, blt_lstL, blt_lstT, it_tup, it_lst, it_dcl, rng_1, opt_n, opt_s, sl_tup, sl_lst, tn_int, tn_tup, tn_lst, tn_str, tn_non, tn_obj, Bool.not_true, Bool.not_false, List.foldr, Bool.or_false, Bool.or_true, Bool.false_or, Bool.true_or, Option.some.injEq, exists_eq_left', Nat.reduceAdd, Nat.reduceSub, forall_const, pow18, beq_self_eq_true, String.reduceBEq, String.reduceEq, ofStr_inj, Int.reduceNeg, Int.reduceAdd, Int.reduceSub, decide_eq_true_eq, bne_self_eq_false, reduceCtorEq, not_false_eq_true, ne_eq, Bool.and_false, Bool.false_and, Bool.and_true, Bool.true_and, or_true, true_or, decide_true, decide_false, or_false, false_or, sz0, sz1, sz2, sz3, sz4, in_int2, in_str2, it_eC, it_eCs, it_eCt, add_eC, add_eCs, len_eC, len_eCs, len_eCt, tup_eCs, eT_0p, eT_0n, eT_0a, eT_0o, eT_1l, eT_1n, eT_2n, eT_lenl, eT_lenn, eT_cut, eT_isT, Int.reduceEq, Int.reduceLT, Int.reduceLE, fset_slf, self_slf, putFD, endI, fld_many, fld_bits, isF, in_eC, eq_eC, isT_eC, isNewD, atI0, atI1, atI2])
/-! ### drawn formulas -/
def sumL (l : List Tr) : Nat := (l.map Tr.leaves).sum
theorem sumL_cut : ∀ (l : List Tr) (i : Nat) (a b : Tr), l[i]? = some a → l[i + 1]? = some b → sumL (l.take i) + (a.leaves + b.leaves) + sumL (l.drop (i + 2)) = sumL l
  | [], i, a, b, h, _ => by simp at h
  | c :: l, 0, a, b, h1, h2 => by
    cases l with
    | nil => simp at h2
    | cons d l =>
      simp at h1 h2
      subst h1 h2
      simp [sumL]; omega
  | c :: l, i + 1, a, b, h1, h2 => by
    simp only [List.getElem?_cons_succ] at h1 h2
    have := sumL_cut l i a b h1 h2
    simp only [sumL, List.take_succ_cons, List.map_cons, List.sum_cons] at this ⊢
    rw [show i + 1 + 2 = (i + 2) + 1 from by omega, List.drop_succ_cons]
    omega
theorem sumL_app (l r : List Tr) : sumL (l ++ r) = sumL l + sumL r := by simp [sumL]
theorem sumL_cons (a : Tr) (r : List Tr) : sumL (a :: r) = a.leaves + sumL r := by simp [sumL]
theorem sumL_len (l : List Tr) : l.length ≤ sumL l := len_stkL l
def signD (o : Bool) : D := .str (if o = true then "or" else "and")
def wordD (o : Bool) : D := .str (if o = true then "not" else "place")
theorem enc_leaf (o : Bool) (p : Nat) : (Tr.leaf o p).enc = .tup [wordD o, .int p] := by cases o <;> rfl
theorem enc_node (o : Bool) (a b : Tr) : (Tr.node o a b).enc = .tup [signD o, a.enc, b.enc] := by cases o <;> rfl
section
variable {n : Nat} {t : Nat} {k : Kt} {x : XP}
theorem merge_list {l : List Tr} {i : Nat} {o : Bool} {a b : Tr} (ha : l[i]? = some a) (hb : l[i + 1]? = some b) : (l.map Tr.enc).take i ++ [D.tup [signD o, a.enc, b.enc]] ++ (l.map Tr.enc).drop (i + 2) = (l.take i ++ [Tr.node o a b] ++ l.drop (i + 2)).map Tr.enc := by
  simp [enc_node]
theorem tr_drawn_ok {m L : Nat} (hm : 0 < m) (hm2 : m < 1000) (hL : 0 < L) (hL2 : L < 1000) {ws : List Bool} (hw : ws ≠ []) (hw2 : ws.length < 1000) (ht : t + 4 * L < 2 ^ 39) (h : ∀ tr : Tr, tr.on m → tr.leaves = L → ∀ t', t' ≤ t + 4 * L → k t' .f tr.enc) :
    callN PP (n + 4) (.fn "_law_tr_drawn") [.stt, .int m, .int L, .lst (ws.map wordD)] [] t k x := by
  refine call_fn f__law_tr_drawn rfl rfl ?_
  unfold c__law_tr_drawn
  walk_at "wp"
  refine ⟨by omega, by omega, ?_⟩
  refine lcGo_ind (fun r acc t' => ∃ l : List Tr, acc = l.map Tr.enc ∧ l.length + r.length = L ∧ (∀ a ∈ l, a.on m) ∧ sumL l = l.length ∧ t' ≤ t + 2 * l.length) ?_ ?_ _ _ _ ⟨[], rfl, by rw [rangeL_len]; simp, by simp, by simp [sumL], by simp⟩
  · rintro d r acc t' k' ⟨l, rfl, hl, hon, hsum, htl⟩ hk
    simp only [List.length_cons] at hl
    walk_at "wp"
    refine pick_ok (by simpa using hw) (by simpa using hw2) (by omega) fun w hw t1 h1 => ?_
    obtain ⟨o, ho, rfl⟩ := List.mem_map.mp hw
    walk_at "wp"
    refine draw_ok (by omega) (by omega) (by omega) fun p hp0 hp1 t2 h2 => ?_
    walk_at "wp"
    obtain ⟨p, rfl⟩ : ∃ j : Nat, p = j := ⟨p.toNat, by omega⟩
    refine ⟨by rw [List.length_map, sizeLine_eq]; omega, hk _ _ ⟨l ++ [.leaf o p], by simp [enc_leaf], by simp; omega, fun a ha => ?_, ?_, by simp; omega⟩⟩
    · rcases List.mem_append.mp ha with ha | ha
      · exact hon a ha
      · simp at ha
        subst ha
        show p < m
        omega
    · rw [sumL_app, hsum, sumL_cons]; simp [sumL, Tr.leaves]
  · rintro acc t' ⟨l, rfl, hl, hon, hsum, htl⟩
    simp only [List.length_nil] at hl
    walk_at "wp"
    refine ⟨L + 1, whl_ind (fun sz ρ t' => ∃ (l : List Tr) (v5 v6 v7 : Sv), ρ = [.val .stt, .val (.int m), .val (.int L), .val (.lst (ws.map wordD)), .val (.lst (l.map Tr.enc)), v5, v6, v7] ∧ (∀ a ∈ l, a.on m) ∧ sumL l = L ∧ 0 < l.length ∧ sz = l.length ∧ t' + 2 * l.length ≤ t + 4 * L) ?_ _ L _ t' (by omega) ⟨l, .non, .non, .non, rfl, hon, by omega, by omega, by omega, by omega⟩⟩
    rintro sz ρ t' ⟨l, v5, v6, v7, rfl, hon, hsum, hpos, rfl, htl⟩ e' hr hx
    unfold c__law_tr_drawn_w1
    have hle := sumL_len l
    walk_at "wp"
    rw [List.length_map]
    split
    · unfold c__law_tr_drawn_b1
      walk_at "wp"
      rw [List.length_map]
      refine draw_ok (by omega) (by omega) (by omega) fun i hi0 hi1 t1 h1 => ?_
      obtain ⟨i, rfl⟩ : ∃ j : Nat, i = j := ⟨i.toNat, by omega⟩
      walk_at "wp"
      refine pick_ok (l := [.str "and", .str "or"]) (by simp) (by simp) (by omega) fun w hw t2 h2 => ?_
      have hi : i + 1 < l.length := by omega
      obtain ⟨o, rfl⟩ : ∃ o, w = signD o := by
        simp at hw
        rcases hw with rfl | rfl
        · exact ⟨false, rfl⟩
        · exact ⟨true, rfl⟩
      walk_at "wp"
      have ea : l[i]? = some l[i] := List.getElem?_eq_getElem (by omega)
      have eb : l[i + 1]? = some l[i + 1] := List.getElem?_eq_getElem hi
      refine ⟨_, atI_map (by omega) (by rw [Int.toNat_natCast]; exact ea), _, atI_map (i := (i : Int) + 1) (by omega) (by rw [show ((i : Int) + 1).toNat = i + 1 from by omega]; exact eb), ?_⟩
      rw [cut_to, show ((i : Int) + 2) = ((i + 2 : Nat) : Int) from by omega, cut_from]
      refine ⟨sizeL (by simp; omega), sizeL (by simp; omega), ?_⟩
      rw [merge_list ea eb]
      refine hx _ _ _ ?_ ⟨_, _, _, _, rfl, fun c hc => ?_, ?_, ?_, rfl, ?_⟩
      · simp; omega
      · simp only [List.mem_append, List.mem_cons, List.not_mem_nil, or_false] at hc
        rcases hc with (hc | rfl) | hc
        · exact hon c (List.mem_of_mem_take hc)
        · exact ⟨hon _ (List.getElem_mem _), hon _ (List.getElem_mem _)⟩
        · exact hon c (List.mem_of_mem_drop hc)
      · have := sumL_cut l i _ _ ea eb
        rw [sumL_app, sumL_app, sumL_cons]
        simp only [Tr.leaves]
        have e0 : sumL [] = 0 := rfl
        omega
      · simp; omega
      · simp; omega
    · walk_at "wp"
      match l, hpos with
      | [a], _ =>
        walk_at "wp"
        simp only [sumL_cons] at hsum
        have e0 : sumL [] = 0 := rfl
        exact h a (hon a List.mem_cons_self) (by omega) t' (by omega)
      | a :: b :: r, _ =>
        rename_i hc
        exact absurd (by simp only [List.length_cons]; omega) hc
theorem unlike_const {v : Int} : ∀ {l : List Int}, (∀ b ∈ l, b = v) → unlike l ≤ 1
  | [], _ => by simp [unlike]
  | [b], _ => by simp [unlike]
  | b :: d :: r, h => by
    have h1 := h b (by simp)
    have h2 := h d (by simp)
    have := unlike_const (l := d :: r) fun c hc => h c (List.mem_cons_of_mem _ hc)
    rw [unlike, if_pos (by rw [h1, ← h2]; simp)]
    omega
theorem unlike_both {l : List Int} (h : ∀ b ∈ l, b = 0 ∨ b = 1) (h2 : 2 ≤ unlike l) : (0 : Int) ∈ l ∧ (1 : Int) ∈ l := by
  refine ⟨Decidable.byContradiction fun z => ?_, Decidable.byContradiction fun z => ?_⟩
  · have := unlike_const (v := 1) (l := l) fun b hb => (h b hb).resolve_left fun e => z (e ▸ hb)
    omega
  · have := unlike_const (v := 0) (l := l) fun b hb => (h b hb).resolve_right fun e => z (e ▸ hb)
    omega
theorem rep_corner {v : Int} (hv : v = 0 ∨ v = 1) : ∀ m, List.replicate m v ∈ corners m
  | 0 => by simp [corners]
  | m + 1 => by
    rw [corners, List.mem_flatMap]
    refine ⟨_, rep_corner hv m, ?_⟩
    rw [List.replicate_succ']
    rcases hv with rfl | rfl <;> simp
theorem bits_01 {m : Nat} {tr : Tr} (ho : tr.on m) : ∀ b ∈ bitsOf m tr, b = 0 ∨ b = 1 := fun b hb => by
  obtain ⟨c, hc, rfl⟩ := List.mem_map.mp hb
  exact Tr.bit_01 hc ho
theorem leaf_both {m p : Nat} (o : Bool) (hp : p < m) : (0 : Int) ∈ bitsOf m (.leaf o p) ∧ (1 : Int) ∈ bitsOf m (.leaf o p) := by
  have key : ∀ v : Int, v = 0 ∨ v = 1 → (List.replicate m v).getD p 0 = v := fun v hv => by
    rw [List.getD_eq_getElem?_getD, List.getElem?_replicate, if_pos hp]
    rfl
  have mem : ∀ v : Int, v = 0 ∨ v = 1 → (Tr.leaf o p).bit (List.replicate m v) ∈ bitsOf m (.leaf o p) := fun v hv => List.mem_map.mpr ⟨_, rep_corner hv m, rfl⟩
  have h0 := mem 0 (.inl rfl)
  have h1 := mem 1 (.inr rfl)
  cases o <;> simp only [Tr.bit, key 0 (.inl rfl), key 1 (.inr rfl)] at h0 h1
  · exact ⟨h0, h1⟩
  · exact ⟨h1, h0⟩
theorem tr_unlike_ok {M : Nat} (hM : 0 < M) (hM2 : M ≤ 6) {ws : List Bool} (hw : ws ≠ []) (hw2 : ws.length < 1000) (hn : 20 ≤ n) (ht : t + 100 < 2 ^ 39)
    (h : ∀ (m : Nat) (tr : Tr), 0 < m → m ≤ M → tr.on m → tr.leaves ≤ 10 → (0 : Int) ∈ bitsOf m tr → (1 : Int) ∈ bitsOf m tr → ∀ t', t' ≤ t + 44 → k t' .f (.tup [.int m, tr.enc])) :
    callN PP (n + 1) (.fn "_law_tr_unlike") [.stt, .int M, .lst (ws.map wordD)] [] t k x := by
  refine call_fn f__law_tr_unlike rfl rfl ?_
  unfold c__law_tr_unlike
  obtain ⟨n, rfl⟩ : ∃ j, n = j + 20 := ⟨n - 20, by omega⟩
  walk_at "wp"
  refine draw_ok (by omega) (by omega) (by omega) fun i hi0 hi1 t1 h1 => ?_
  walk_at "wp"
  refine draw_ok (by omega) (by omega) (by omega) fun j hj0 hj1 t2 h2 => ?_
  walk_at "wp"
  obtain ⟨i, rfl⟩ : ∃ z : Nat, i = z := ⟨i.toNat, by omega⟩
  obtain ⟨j, rfl⟩ : ∃ z : Nat, j = z := ⟨j.toNat, by omega⟩
  rw [show (1 : Int) + i = ((i + 1 : Nat) : Int) from by omega, show (1 : Int) + j = ((j + 1 : Nat) : Int) from by omega]
  refine tr_drawn_ok (by omega) (by omega) (by omega) (by omega) hw hw2 (by omega) fun tr ho hL t3 h3 => ?_
  walk_at "wp"
  have := tr.dep_lt
  refine tr_bits_ok (n := n + 19) (by omega) tr ho (by omega) ?_
  walk_at "wp"
  refine ⟨_, _, rfl, intsOf_map _, by unfold bitsOf; rw [List.length_map, corners_len]; have := two_lt (j := i + 1) (by omega); omega, ?_⟩
  walk_at "wp"
  split
  · refine pick_ok (by simpa using hw) (by simpa using hw2) (by omega) fun w hw t4 h4 => ?_
    obtain ⟨o, ho, rfl⟩ := List.mem_map.mp hw
    walk_at "wp"
    refine draw_ok (by omega) (by omega) (by omega) fun p hp0 hp1 t5 h5 => ?_
    walk_at "wp"
    obtain ⟨p, rfl⟩ : ∃ j : Nat, p = j := ⟨p.toNat, by omega⟩
    rw [← enc_leaf]
    obtain ⟨q1, q2⟩ := leaf_both (m := i + 1) o (p := p) (by omega)
    exact h (i + 1) (.leaf o p) (by omega) (by omega) (show p < i + 1 by omega) (by simp [Tr.leaves]) q1 q2 t5 (by omega)
  · rename_i hu
    obtain ⟨q1, q2⟩ := unlike_both (bits_01 ho) (by omega)
    exact h (i + 1) tr (by omega) (by omega) ho (by omega) q1 q2 t3 (by omega)
theorem stretched_ok {m : Nat} : ∀ (tr : Tr) (more n : Nat) (t : Nat) (k : Kt) (x : XP), tr.on m → more < 1000 → tr.dep + 5 < n → t + tsize tr + 2 * more < 2 ^ 39 →
    (∀ tr' : Tr, tr'.on m → tr'.leaves = tr.leaves + more → (∀ c, tr'.bit c = tr.bit c) → ∀ t', t' ≤ t + tsize tr + 2 * more → k t' .f tr'.enc) → callN PP n (.fn "_law_tr_stretched") [.stt, tr.enc, .int more] [] t k x
  | .node o a b, more, n, t, k, x, ho, hmore, hn, ht, h => by
    obtain ⟨n, rfl⟩ : ∃ j, n = j + 6 := ⟨n - 6, by omega⟩
    simp only [Tr.dep] at hn
    simp only [tsize] at ht h
    refine call_fn f__law_tr_stretched rfl rfl ?_
    unfold c__law_tr_stretched
    walk_at "wp"
    refine draw_ok (by omega) (by omega) (by omega) fun i hi0 hi1 t1 h1 => ?_
    obtain ⟨i, rfl⟩ : ∃ j : Nat, i = j := ⟨i.toNat, by omega⟩
    have e0 : ∀ {kd : D → Prop} {t : Nat}, kd (signD o) → ixD t (Tr.node o a b).enc (.int 0) kd := fun {kd t} hk => by
      rw [enc_node, ix_tup]
      exact ⟨_, atI0, hk⟩
    walk_at "wp"
    refine e0 ?_
    refine stretched_ok a i _ _ _ _ ho.1 (by omega) (by omega) (by omega) fun a' oa la ba t2 h2 => ?_
    walk_at "wp"
    rw [show (more : Int) - i = ((more - i : Nat) : Int) from by omega]
    refine stretched_ok b (more - i) _ _ _ _ ho.2 (by omega) (by omega) (by omega) fun b' ob lb bb t3 h3 => ?_
    walk_at "wp"
    rw [← enc_node]
    refine h (.node o a' b') ⟨oa, ob⟩ (by simp only [Tr.leaves]; omega) (fun c => ?_) t3 (by omega)
    cases o <;> simp only [Tr.bit, ba, bb]
  | .leaf o p, more, n, t, k, x, ho, hmore, hn, ht, h => by
    obtain ⟨n, rfl⟩ : ∃ j, n = j + 6 := ⟨n - 6, by omega⟩
    simp only [tsize] at ht h
    refine call_fn f__law_tr_stretched rfl rfl ?_
    unfold c__law_tr_stretched
    walk_at "wp"
    simp only [mulD]
    refine ⟨by simp only [List.length_cons, List.length_nil]; exact sizeL (by omega), by omega, by omega, ?_⟩
    have e1 : (List.replicate ((more : Int) + 1).toNat [(Tr.leaf o p).enc]).flatten = (List.replicate (more + 1) (Tr.leaf o p)).map Tr.enc := by
      rw [show ((more : Int) + 1).toNat = more + 1 from by omega, List.map_replicate]
      generalize more + 1 = z
      induction z with
      | zero => rfl
      | succ z ih => simp [List.replicate_succ, ih]
    rw [e1]
    obtain ⟨l0, hl0, hs0, hm0⟩ : ∃ l0 : List Tr, List.replicate (more + 1) (Tr.leaf o p) = l0 ∧ (sumL l0 = more + 1 ∧ l0.length = more + 1) ∧ ∀ a ∈ l0, a = Tr.leaf o p := ⟨_, rfl, ⟨by simp [sumL, Tr.leaves], by simp⟩, fun a ha => List.eq_of_mem_replicate ha⟩
    rw [hl0]
    walk_at "wp"
    refine ⟨more + 2, whl_ind (fun sz ρ t' => ∃ (l : List Tr) (v5 : Sv), ρ = [.val .stt, .val (Tr.leaf o p).enc, .val (.int more), .non, .val (.lst (l.map Tr.enc)), v5] ∧ (∀ a ∈ l, a.on m ∧ ∀ c, a.bit c = (Tr.leaf o p).bit c) ∧ sumL l = more + 1 ∧ 0 < l.length ∧ sz = l.length ∧ t' + 2 * l.length ≤ t + 2 * (more + 1)) ?_ _ (more + 1) _ t (by omega) ⟨l0, .non, rfl, fun a ha => ?_, hs0.1, by omega, by omega, by omega⟩⟩
    · rintro sz ρ t' ⟨l, v5, rfl, hon, hsum, hpos, rfl, htl⟩ e' hr hx
      unfold c__law_tr_stretched_w1
      have hle := sumL_len l
      walk_at "wp"
      rw [List.length_map]
      split
      · unfold c__law_tr_stretched_b1
        walk_at "wp"
        rw [List.length_map]
        refine draw_ok (by omega) (by omega) (by omega) fun i hi0 hi1 t1 h1 => ?_
        obtain ⟨i, rfl⟩ : ∃ j : Nat, i = j := ⟨i.toNat, by omega⟩
        walk_at "wp"
        refine pick_ok (l := [.str "and", .str "or"]) (by simp) (by simp) (by omega) fun w hw t2 h2 => ?_
        have hi : i + 1 < l.length := by omega
        obtain ⟨o', rfl⟩ : ∃ o, w = signD o := by
          simp at hw
          rcases hw with rfl | rfl
          · exact ⟨false, rfl⟩
          · exact ⟨true, rfl⟩
        walk_at "wp"
        have ea : l[i]? = some l[i] := List.getElem?_eq_getElem (by omega)
        have eb : l[i + 1]? = some l[i + 1] := List.getElem?_eq_getElem hi
        refine ⟨_, atI_map (by omega) (by rw [Int.toNat_natCast]; exact ea), _, atI_map (i := (i : Int) + 1) (by omega) (by rw [show ((i : Int) + 1).toNat = i + 1 from by omega]; exact eb), ?_⟩
        rw [cut_to, show ((i : Int) + 2) = ((i + 2 : Nat) : Int) from by omega, cut_from]
        refine ⟨sizeL (by simp; omega), sizeL (by simp; omega), ?_⟩
        rw [merge_list ea eb]
        have ha := hon l[i] (List.getElem_mem _)
        have hb := hon l[i + 1] (List.getElem_mem _)
        refine hx _ _ _ ?_ ⟨_, _, rfl, fun c hc => ?_, ?_, ?_, rfl, ?_⟩
        · simp; omega
        · simp only [List.mem_append, List.mem_cons, List.not_mem_nil, or_false] at hc
          rcases hc with (hc | rfl) | hc
          · exact hon c (List.mem_of_mem_take hc)
          · refine ⟨⟨ha.1, hb.1⟩, fun c => ?_⟩
            cases o' <;> simp only [Tr.bit, ha.2, hb.2] <;> omega
          · exact hon c (List.mem_of_mem_drop hc)
        · have := sumL_cut l i _ _ ea eb
          rw [sumL_app, sumL_app, sumL_cons]
          simp only [Tr.leaves]
          have e0 : sumL [] = 0 := rfl
          omega
        · simp; omega
        · simp; omega
      · walk_at "wp"
        match l, hpos with
        | [a], _ =>
          walk_at "wp"
          simp only [sumL_cons] at hsum
          have e0 : sumL [] = 0 := rfl
          obtain ⟨q1, q2⟩ := hon a List.mem_cons_self
          exact h a q1 (by simp only [Tr.leaves]; omega) q2 t' (by omega)
        | a :: b :: r, _ =>
          rename_i hc
          exact absurd (by simp only [List.length_cons]; omega) hc
    · obtain rfl := hm0 a ha
      exact ⟨ho, fun _ => rfl⟩
end
end K81
end Lk
set_option autoImplicit false
set_option linter.all false
namespace Lk
namespace K81
open PySem
/-! ### what the pieces are -/
def prs (p : Pc) : List (List Int × List Int) := p.1.flatMap fun a => p.2.1.map fun b => (a, b)
def prsL (l : List Pc) : List (List Int × List Int) := l.flatMap prs
theorem prsL_app (l r : List Pc) : prsL (l ++ r) = prsL l ++ prsL r := by simp [prsL]
theorem mem_prs {p : Pc} {q : List Int × List Int} : q ∈ prs p ↔ q.1 ∈ p.1 ∧ q.2 ∈ p.2.1 := by
  obtain ⟨a, b⟩ := q
  simp [prs]
theorem mem_prsL {l : List Pc} {q : List Int × List Int} : q ∈ prsL l ↔ ∃ p ∈ l, q.1 ∈ p.1 ∧ q.2 ∈ p.2.1 := by
  simp only [prsL, List.mem_flatMap, mem_prs]
theorem filt_len {α : Type} (p q : α → Bool) : ∀ l : List α, (∀ a ∈ l, q a = !p a) → (l.filter p).length + (l.filter q).length = l.length
  | [], _ => rfl
  | a :: l, h => by
    have ih := filt_len p q l fun b hb => h b (List.mem_cons_of_mem _ hb)
    have := h a List.mem_cons_self
    cases e : p a <;> simp [e, this] <;> omega
theorem notin_f {y : List (List Int)} {p : List Int → Bool} : ∀ a ∈ y, (!decide (a ∈ y.filter p)) = !p a := fun a ha => by
  simp [ha]
theorem pieces_sub : ∀ (tr : Tr) (y z : List (List Int)), ∀ p ∈ pieces tr y z, (∀ a ∈ p.1, a ∈ y) ∧ ∀ b ∈ p.2.1, b ∈ z
  | .leaf _ p, y, z, q, h => by
    simp only [pieces, List.mem_singleton] at h
    subst h
    exact ⟨fun _ h => h, fun _ h => h⟩
  | .node true a b, y, z, q, h => by
    simp only [pieces, List.mem_append] at h
    rcases h with h | h
    · obtain ⟨h1, h2⟩ := pieces_sub a _ _ q h
      exact ⟨fun c hc => (List.mem_filter.mp (h1 c hc)).1, h2⟩
    · obtain ⟨h1, h2⟩ := pieces_sub b _ _ q h
      exact ⟨fun c hc => (List.mem_filter.mp (h1 c hc)).1, h2⟩
  | .node false a b, y, z, q, h => by
    simp only [pieces, List.mem_append] at h
    rcases h with h | h
    · obtain ⟨h1, h2⟩ := pieces_sub a _ _ q h
      exact ⟨h1, fun c hc => (List.mem_filter.mp (h2 c hc)).1⟩
    · obtain ⟨h1, h2⟩ := pieces_sub b _ _ q h
      exact ⟨h1, fun c hc => (List.mem_filter.mp (h2 c hc)).1⟩
theorem pieces_nodup : ∀ (tr : Tr) (y z : List (List Int)), y.Nodup → z.Nodup → ∀ p ∈ pieces tr y z, p.1.Nodup ∧ p.2.1.Nodup
  | .leaf _ p, y, z, hy, hz, q, h => by
    simp only [pieces, List.mem_singleton] at h
    subst h
    exact ⟨hy, hz⟩
  | .node true a b, y, z, hy, hz, q, h => by
    simp only [pieces, List.mem_append] at h
    rcases h with h | h
    · exact pieces_nodup a _ _ (hy.filter _) hz q h
    · exact pieces_nodup b _ _ (hy.filter _) hz q h
  | .node false a b, y, z, hy, hz, q, h => by
    simp only [pieces, List.mem_append] at h
    rcases h with h | h
    · exact pieces_nodup a _ _ hy (hz.filter _) q h
    · exact pieces_nodup b _ _ hy (hz.filter _) q h
theorem prs_nodup {p : Pc} (h1 : p.1.Nodup) (h2 : p.2.1.Nodup) : (prs p).Nodup := by
  obtain ⟨y, z, i⟩ := p
  simp only [prs] at *
  induction y with
  | nil => simp
  | cons a y ih =>
    rw [List.nodup_cons] at h1
    rw [List.flatMap_cons, List.nodup_append]
    refine ⟨?_, ih h1.2, ?_⟩
    · exact List.Pairwise.map _ (fun b c hbc e => hbc (by cases e; rfl)) h2
    · intro q hq r hr e
      subst e
      obtain ⟨b, _, rfl⟩ := List.mem_map.mp hq
      obtain ⟨a', ha', hb'⟩ := List.mem_flatMap.mp hr
      obtain ⟨c, _, e⟩ := List.mem_map.mp hb'
      cases e
      exact h1.1 ha'
theorem prsL_nodup : ∀ (tr : Tr) (y z : List (List Int)), y.Nodup → z.Nodup → (prsL (pieces tr y z)).Nodup
  | .leaf _ p, y, z, hy, hz => by
    simp only [pieces, prsL, List.flatMap_cons, List.flatMap_nil, List.append_nil]
    exact prs_nodup hy hz
  | .node true a b, y, z, hy, hz => by
    simp only [pieces]
    rw [prsL_app, List.nodup_append]
    refine ⟨prsL_nodup a _ _ (hy.filter _) hz, prsL_nodup b _ _ (hy.filter _) hz, fun q hq r hr e => ?_⟩
    subst e
    obtain ⟨p, hp, h1, h2⟩ := mem_prsL.mp hq
    obtain ⟨p', hp', h1', h2'⟩ := mem_prsL.mp hr
    have k1 := (pieces_sub _ _ _ p hp).1 _ h1
    have k2 := (List.mem_filter.mp ((pieces_sub _ _ _ p' hp').1 _ h1')).2
    simp [k1] at k2
  | .node false a b, y, z, hy, hz => by
    simp only [pieces]
    rw [prsL_app, List.nodup_append]
    refine ⟨prsL_nodup a _ _ hy (hz.filter _), prsL_nodup b _ _ hy (hz.filter _), fun q hq r hr e => ?_⟩
    subst e
    obtain ⟨p, hp, h1, h2⟩ := mem_prsL.mp hq
    obtain ⟨p', hp', h1', h2'⟩ := mem_prsL.mp hr
    have k1 := (pieces_sub _ _ _ p hp).2 _ h2
    have k2 := (List.mem_filter.mp ((pieces_sub _ _ _ p' hp').2 _ h2')).2
    simp [k1] at k2
theorem prs_len (p : Pc) : (prs p).length = p.1.length * p.2.1.length := by
  obtain ⟨y, z, i⟩ := p
  simp only [prs]
  induction y with
  | nil => simp
  | cons a y ih => simp only [List.flatMap_cons, List.length_append, List.length_map, ih, List.length_cons, Nat.succ_mul]; omega
theorem prsL_len : ∀ (tr : Tr) (y z : List (List Int)), (prsL (pieces tr y z)).length = y.length * z.length
  | .leaf _ p, y, z => by
    simp only [pieces, prsL, List.flatMap_cons, List.flatMap_nil, List.append_nil]
    exact prs_len _
  | .node true a b, y, z => by
    simp only [pieces]
    rw [prsL_app, List.length_append, prsL_len a, prsL_len b, ← Nat.add_mul, filt_len _ _ _ notin_f]
  | .node false a b, y, z => by
    simp only [pieces]
    rw [prsL_app, List.length_append, prsL_len a, prsL_len b, ← Nat.mul_add, filt_len _ _ _ notin_f]
/-- each piece: one leaf's place tells its corners apart -/
theorem pieces_part {m : Nat} : ∀ (tr : Tr) (y z : List (List Int)), tr.on m → (∀ c ∈ y, c ∈ corners m ∧ tr.bit c = 1) → (∀ c ∈ z, c ∈ corners m ∧ tr.bit c = 0) →
    ∀ p ∈ pieces tr y z, p.2.2 < m ∧ ∃ v : Int, (∀ a ∈ p.1, a.getD p.2.2 0 = v) ∧ ∀ b ∈ p.2.1, b.getD p.2.2 0 = 1 - v
  | .leaf false p, y, z, ho, hy, hz, q, h => by
    simp only [pieces, List.mem_singleton] at h
    subst h
    exact ⟨ho, 1, fun a ha => (hy a ha).2, fun b hb => (hz b hb).2⟩
  | .leaf true p, y, z, ho, hy, hz, q, h => by
    simp only [pieces, List.mem_singleton] at h
    subst h
    refine ⟨ho, 0, fun a ha => ?_, fun b hb => ?_⟩
    · have := (hy a ha).2
      simp only [Tr.bit] at this
      show a.getD p 0 = 0
      omega
    · have := (hz b hb).2
      simp only [Tr.bit] at this
      show b.getD p 0 = 1 - 0
      omega
  | .node true a b, y, z, ho, hy, hz, q, h => by
    simp only [pieces, List.mem_append] at h
    have hz' : ∀ c ∈ z, c ∈ corners m ∧ a.bit c = 0 ∧ b.bit c = 0 := fun c hc => by
      obtain ⟨h1, h2⟩ := hz c hc
      have qa := Tr.bit_01 h1 ho.1
      have qb := Tr.bit_01 h1 ho.2
      simp only [Tr.bit] at h2
      exact ⟨h1, by omega, by omega⟩
    rcases h with h | h
    · exact pieces_part a _ _ ho.1 (fun c hc => ⟨(hy c (List.mem_filter.mp hc).1).1, by simpa using (List.mem_filter.mp hc).2⟩) (fun c hc => ⟨(hz' c hc).1, (hz' c hc).2.1⟩) q h
    · refine pieces_part b _ _ ho.2 (fun c hc => ?_) (fun c hc => ⟨(hz' c hc).1, (hz' c hc).2.2⟩) q h
      obtain ⟨h1, h2⟩ := List.mem_filter.mp hc
      rw [notin_f c h1] at h2
      obtain ⟨h3, h4⟩ := hy c h1
      have qa := Tr.bit_01 h3 ho.1
      have qb := Tr.bit_01 h3 ho.2
      simp only [Tr.bit] at h4
      simp only [Bool.not_eq_true', decide_eq_false_iff_not] at h2
      exact ⟨h3, by omega⟩
  | .node false a b, y, z, ho, hy, hz, q, h => by
    simp only [pieces, List.mem_append] at h
    have hy' : ∀ c ∈ y, c ∈ corners m ∧ a.bit c = 1 ∧ b.bit c = 1 := fun c hc => by
      obtain ⟨h1, h2⟩ := hy c hc
      have qa := Tr.bit_01 h1 ho.1
      have qb := Tr.bit_01 h1 ho.2
      simp only [Tr.bit] at h2
      exact ⟨h1, by omega, by omega⟩
    rcases h with h | h
    · exact pieces_part a _ _ ho.1 (fun c hc => ⟨(hy' c hc).1, (hy' c hc).2.1⟩) (fun c hc => ⟨(hz c (List.mem_filter.mp hc).1).1, by simpa using (List.mem_filter.mp hc).2⟩) q h
    · refine pieces_part b _ _ ho.2 (fun c hc => ⟨(hy' c hc).1, (hy' c hc).2.2⟩) (fun c hc => ?_) q h
      obtain ⟨h1, h2⟩ := List.mem_filter.mp hc
      rw [notin_f c h1] at h2
      obtain ⟨h3, h4⟩ := hz c h1
      have qa := Tr.bit_01 h3 ho.1
      have qb := Tr.bit_01 h3 ho.2
      simp only [Tr.bit] at h4
      simp only [Bool.not_eq_true', decide_eq_false_iff_not] at h2
      exact ⟨h3, by omega⟩
/-- the greatest is no smaller than the mean -/
theorem max_mean : ∀ (l : List Pc) (g : Int), (∀ p ∈ l, (p.1.length : Int) * p.2.1.length ≤ g) → ((prsL l).length : Int) ≤ l.length * g
  | [], g, _ => by simp [prsL]
  | p :: l, g, h => by
    have ih := max_mean l g fun q hq => h q (List.mem_cons_of_mem _ hq)
    have h1 := h p List.mem_cons_self
    have e : prsL (p :: l) = prs p ++ prsL l := rfl
    rw [e, List.length_append, prs_len, List.length_cons]
    simp only [Int.natCast_add, Int.natCast_mul, Int.natCast_one, Int.add_mul, Int.one_mul]
    omega
end K81
end Lk
set_option autoImplicit false
set_option linter.all false
set_option maxRecDepth 10000
namespace Lk
namespace K81
open PySem
local macro_rules | `(tactic| walk_at "wp") => `(tactic| try simp only [exs, ev, evs, evo, evi, evc, evg, getV_v0, getV_o0, getV_s, getO_o0, getO_s, rtvD_v0, rtvD_o0, rtvD_s, frzD_v0, frzD_o0, bind_one, bind_many, bindMany, startR, wipeR, List.map_cons, List.map_nil, List.length_cons, List.length_nil, List.cons_append, List.nil_append, List.replicate, List.set, if_true, if_false, Bool.false_eq_true, bEx_nil, bEx_f, bEx_n, noB_nil, noB_f, noB_n, fnb, nnb, true_and, and_true, bindN, endF, valD, D.isNon, isStt, isLst, trD_bl, trD_non, trD_int, trD_lst, trD_tup, bin_add, bin_sub, bin_mul, bin_mod, bin_fdv, bin_pow, add_int, add_tup, add_lst, sub_int, mul_int, mod_int, fdv_int, cmp_eq, cmp_ne, cmp_in, cmp_ni, cmp_lt, cmp_le, cmp_gt, cmp_ge, eq_int, eq_str, ix_tup, ix_lst, ix_left, ix_turn, ix_cells, sts_turn, sts_left, len_tup, len_lst, len_dct, len_dcl, blt_abs, blt_int, blt_max, blt_min, blt_tupL, blt_tupT, blt_lstL, blt_lstT, it_tup, it_lst, it_dcl, rng_1, opt_n, opt_s, sl_tup, sl_lst, tn_int, tn_tup, tn_lst, tn_str, tn_non, tn_obj, Bool.not_true, Bool.not_false, List.foldr, Bool.or_false, Bool.or_true, Bool.false_or, Bool.true_or, Option.some.injEq, exists_eq_left', Nat.reduceAdd, Nat.reduceSub, forall_const, pow18, beq_self_eq_true, String.reduceBEq, String.reduceEq, ofStr_inj, Int.reduceNeg, Int.reduceAdd, Int.reduceSub, decide_eq_true_eq, bne_self_eq_false, reduceCtorEq, not_false_eq_true, ne_eq, Bool.and_false, Bool.false_and, Bool.and_true, Bool.true_and, or_true, true_or, decide_true, decide_false, or_false, false_or, sz0, sz1, sz2, sz3, sz4, in_int2, in_str2, it_eC, it_eCs, it_eCt, add_eC, add_eCs, len_eC, len_eCs, len_eCt, tup_eCs, eT_0p, eT_0n, eT_0a, eT_0o, eT_1l, eT_1n, eT_2n, eT_lenl, eT_lenn, eT_cut, eT_isT, Int.reduceEq, Int.reduceLT, Int.reduceLE, fset_slf, self_slf, putFD, endI, fld_many, fld_bits, isF, in_eC, eq_eC, isT_eC, isNewD, atI0, atI1, atI2])
def ePr (q : List Int × List Int) : D := .tup [eC q.1, eC q.2]
theorem cod_ePr : Cod ePr 2 := cod_eC.pair cod_eC
theorem nk_eC : ∀ c : List Int, nkL (c.map D.int) = some (c.map .num)
  | [] => rfl
  | b :: c => by simp only [List.map_cons, nkL, D.nk, nk_eC c]
theorem nk_dep : ∀ c : List Int, NestedKey.depthAll (c.map .num) = 0
  | [] => rfl
  | b :: c => by simp only [List.map_cons, NestedKey.depthAll, NestedKey.depth, nk_dep c]; rfl
theorem tk_ePr (q : List Int × List Int) : (ePr q).isTupKey = true := by
  simp only [ePr, eC, D.isTupKey, nkL, D.nk, nk_eC, Option.map_some]
  simp only [NestedKey.depth, NestedKey.depthAll, nk_dep]
  decide
def ones (l : List (List Int × List Int)) : List ((List Int × List Int) × D) := l.map fun q => (q, .int 1)
theorem ask_ones (l : List (List Int × List Int)) (q : List Int × List Int) : okAsk (kvs ePr (ones l)) (ePr q) = true := by
  unfold okAsk
  have h2 : (kvs ePr (ones l)).all (fun p => !p.1.isKey) = true := by
    simp only [kvs, ones, List.map_map, List.all_map, List.all_eq_true]
    intro p _
    rfl
  rw [tk_ePr, h2]
  simp
theorem ones_app (l r : List (List Int × List Int)) : ones (l ++ r) = ones l ++ ones r := by simp [ones]
theorem ones_ne {l : List (List Int × List Int)} {q : List Int × List Int} (h : q ∉ l) : ∀ p ∈ ones l, p.1 ≠ q := fun p hp e => by
  obtain ⟨r, hr, rfl⟩ := List.mem_map.mp hp
  exact h (e ▸ hr)
theorem ones_len (l : List (List Int × List Int)) : (kvs ePr (ones l)).length = l.length := by simp [kvs, ones]
section
variable {n : Nat} {t : Nat} {k : Kt} {x : XP} {e : En} {w0 w1 w2 w3 w4 w5 w6 w7 w8 w15 w16 w17 : Sv}
theorem b1_ok {y z : List (List Int)} {i m : Nat} {a : List Int} (hi : i < m) (ha : a.length = m) : ∀ (bs done : List _) (v14 : Sv), (∀ b ∈ bs, b.length = m ∧ a.getD i 0 ≠ b.getD i 0) → (done ++ bs.map fun b => (a, b)).Nodup → (done ++ bs.map fun b => (a, b)).length ≤ 100000 →
    (∀ v14, e.nx t [w0, w1, w2, w3, w4, w5, w6, w7, w8, .own (.dct (kvs ePr (ones (done ++ bs.map fun b => (a, b))))), .val (eCt y), .val (eCt z), .val (.int i), .val (eC a), v14, w15, w16, w17]) →
    forL (fun ρ t e => exs PP.val (callN PP n) x c_law_b1 ρ t e) (.one 14) (bs.map eC) [w0, w1, w2, w3, w4, w5, w6, w7, w8, .own (.dct (kvs ePr (ones done))), .val (eCt y), .val (eCt z), .val (.int i), .val (eC a), v14, w15, w16, w17] t e
  | [], done, v14, hb, hnd, hl, h => by
    unfold forL
    simpa using h v14
  | b :: bs, done, v14, hb, hnd, hl, h => by
    rw [List.map_cons]
    refine forL_step fun e' hr hx _ _ => ?_
    have hb0 := hb b List.mem_cons_self
    have key := b1_ok (y := y) (z := z) hi ha bs (done ++ [(a, b)]) (.val (eC b)) (fun b hb' => hb b (List.mem_cons_of_mem _ hb')) (by simpa using hnd) (by simpa using hl) (by simpa using h)
    have hnew : (a, b) ∉ done := fun hin => by
      have := (List.nodup_append.mp hnd).2.2 _ hin (a, b) (by simp)
      exact this rfl
    have e1 : keyAt (kvs ePr (ones done)) (ePr (a, b)) = none := keyAt_new cod_ePr (ones_ne hnew)
    have e2 : putK (kvs ePr (ones done)) (ePr (a, b)) (.int 1) = kvs ePr (ones (done ++ [(a, b)])) := by
      rw [putK_new cod_ePr (ones_ne hnew), ones_app]
      rfl
    have hq : D.tup [eC a, eC b] = ePr (a, b) := rfl
    unfold c_law_b1 c_law_s3 c_law_s2
    walk_at "wp"
    simp only [mthOk, mthD, hq, e1, Option.getD_none, ask_ones]
    walk_at "wp"
    simp only [ssetD, ask_ones, ones_len, e2]
    refine ⟨trivial, by rw [sizeLine_eq]; simp at hl; omega, ix_eC (by omega) (ix_eC (by omega) ?_)⟩
    walk_at "wp"
    rw [if_neg hb0.2]
    exact hx _ _ key
theorem b2_ok {y z : List (List Int)} {i m : Nat} (hi : i < m) (hz : ∀ b ∈ z, b.length = m) : ∀ (as : List (List Int)) (done : List _) (v13 v14 : Sv), (∀ a ∈ as, a.length = m ∧ ∀ b ∈ z, a.getD i 0 ≠ b.getD i 0) → (done ++ as.flatMap fun a => z.map fun b => (a, b)).Nodup → (done ++ as.flatMap fun a => z.map fun b => (a, b)).length ≤ 100000 →
    (∀ v13 v14, e.nx t [w0, w1, w2, w3, w4, w5, w6, w7, w8, .own (.dct (kvs ePr (ones (done ++ as.flatMap fun a => z.map fun b => (a, b))))), .val (eCt y), .val (eCt z), .val (.int i), v13, v14, w15, w16, w17]) →
    forL (fun ρ t e => exs PP.val (callN PP n) x c_law_b2 ρ t e) (.one 13) (as.map eC) [w0, w1, w2, w3, w4, w5, w6, w7, w8, .own (.dct (kvs ePr (ones done))), .val (eCt y), .val (eCt z), .val (.int i), v13, v14, w15, w16, w17] t e
  | [], done, v13, v14, ha, hnd, hl, h => by
    unfold forL
    simpa using h v13 v14
  | a :: as, done, v13, v14, ha, hnd, hl, h => by
    rw [List.map_cons]
    refine forL_step fun e' hr hx _ _ => ?_
    have ha0 := ha a List.mem_cons_self
    simp only [List.flatMap_cons, ← List.append_assoc] at hnd hl h
    have key := fun v14 => b2_ok (y := y) (z := z) hi hz as (done ++ z.map fun b => (a, b)) (.val (eC a)) v14 (fun b hb' => ha b (List.mem_cons_of_mem _ hb')) hnd hl h
    unfold c_law_b2 c_law_s4
    walk_at "wp"
    refine b1_ok hi ha0.1 z done v14 (fun b hb => ⟨hz b hb, ha0.2 b hb⟩) (List.nodup_append.mp hnd).1 (by simp only [List.length_append] at hl ⊢; omega) fun v14' => ?_
    walk_at "wp"
    exact hx _ _ (key _)
/-- what a piece must keep -/
structure Good (m : Nat) (p : Pc) : Prop where
  i : p.2.2 < m
  v : ∃ v : Int, (∀ a ∈ p.1, a.getD p.2.2 0 = v) ∧ ∀ b ∈ p.2.1, b.getD p.2.2 0 = 1 - v
  y : ∀ a ∈ p.1, a.length = m
  z : ∀ a ∈ p.2.1, a.length = m
  ly : p.1.length ≤ 64
  lz : p.2.1.length ≤ 64
theorem b3_ok {m : Nat} : ∀ (ps : List Pc) (done : List _) (v10 v11 v12 v13 v14 : Sv), (∀ p ∈ ps, Good m p) → (done ++ prsL ps).Nodup → (done ++ prsL ps).length ≤ 100000 →
    (∀ v10 v11 v12 v13 v14, e.nx t [w0, w1, w2, w3, w4, w5, w6, w7, w8, .own (.dct (kvs ePr (ones (done ++ prsL ps)))), v10, v11, v12, v13, v14, w15, w16, w17]) →
    forL (fun ρ t e => exs PP.val (callN PP n) x c_law_b3 ρ t e) (.many [10, 11, 12]) (ps.map eP) [w0, w1, w2, w3, w4, w5, w6, w7, w8, .own (.dct (kvs ePr (ones done))), v10, v11, v12, v13, v14, w15, w16, w17] t e
  | [], done, v10, v11, v12, v13, v14, hp, hnd, hl, h => by
    unfold forL
    simpa [prsL] using h v10 v11 v12 v13 v14
  | p :: ps, done, v10, v11, v12, v13, v14, hp, hnd, hl, h => by
    rw [List.map_cons]
    refine forL_step fun e' hr hx _ _ => ?_
    have hp0 := hp p List.mem_cons_self
    have ep : prsL (p :: ps) = prs p ++ prsL ps := rfl
    rw [ep, ← List.append_assoc] at hnd hl h
    have key := fun v10 v11 v12 v13 v14 => b3_ok ps (done ++ prs p) v10 v11 v12 v13 v14 (fun b hb' => hp b (List.mem_cons_of_mem _ hb')) hnd hl h
    obtain ⟨y, z, i⟩ := p
    obtain ⟨hi, ⟨v, hv1, hv2⟩, hy, hz, ly, lz⟩ := hp0
    simp only at hi hv1 hv2 hy hz ly lz
    unfold c_law_b3 c_law_s6 c_law_s5 eP
    walk_at "wp"
    refine b2_ok (m := m) hi hz y done v13 v14 (fun a ha => ⟨hy a ha, fun b hb => by rw [hv1 a ha, hv2 b hb]; omega⟩) (List.nodup_append.mp hnd).1 (by simp only [List.length_append, prs] at hl ⊢; omega) fun v13' v14' => ?_
    walk_at "wp"
    refine eq_nilT (l := z.map eC) (pureL_all fun d hd => by obtain ⟨a, _, rfl⟩ := List.mem_map.mp hd; exact cod_eC.pure a) ?_
    walk_at "wp"
    have fin := hx _ _ (key (.val (eCt y)) (.val (eCt z)) (.val (.int i)) v13' v14')
    split
    · refine lcGo_map eC (fun a => .int (a.getD i 0)) y [] (sizeL (by simp; omega)) (fun a ha acc k' hl hk => ?_) ?_
      · walk_at "wp"
        refine ix_eC (by rw [hy a ha]; exact hi) ?_
        walk_at "wp"
        exact ⟨hl, hk⟩
      · have e1 : (y.map fun a => D.int (a.getD i 0)) = (y.map fun a => a.getD i 0).map D.int := by simp
        rw [List.nil_append, e1]
        refine ⟨_, _, rfl, intsOf_map _, by rw [List.length_map]; omega, ?_⟩
        walk_at "wp"
        have := unlike_const (v := v) (l := y.map fun a => a.getD i 0) fun b hb => by
          obtain ⟨a, ha, rfl⟩ := List.mem_map.mp hb
          exact hv1 a ha
        rw [if_neg (by omega)]
        exact fin
    · exact fin
theorem s9_ok {l : List _} {a b : List (List Int)} (hlen : l.length = a.length * b.length) {w10 w11 w12 w13 w14 : Sv} (hl : l.length ≤ 100000)
    (h : e.nx t [w0, w1, w2, w3, w4, w5, .val (eCs a), .val (eCs b), w8, .val (.dcl (kvs ePr (ones l))), w10, w11, w12, w13, w14, w15, w16, w17]) (ha : a.length ≤ 64) (hb : b.length ≤ 64) :
    exs PP.val (callN PP n) x c_law_s9 [w0, w1, w2, w3, w4, w5, .val (eCs a), .val (eCs b), w8, .own (.dct (kvs ePr (ones l))), w10, w11, w12, w13, w14, w15, w16, w17] t e := by
  unfold c_law_s9
  simp only [exs, lckD, List.getElem?_cons_succ, List.getElem?_cons_zero]
  walk_at "wp"
  rw [ones_len]
  refine ⟨CMulW_small (by omega) (by omega), ?_⟩
  have e1 : (l.length : Int) = a.length * b.length := by rw [hlen]; simp
  rw [if_neg (by simpa using e1)]
  have e2 : (kvs ePr (ones l)).map (·.1) = l.map ePr := by simp [kvs, ones]
  rw [e2]
  refine lcGo_filter ePr (fun _ => .int 1) (fun _ => false) l [] (sizeL (by simp; omega)) (fun q hq acc k' hl hk => ?_) ?_
  · walk_at "wp"
    refine ⟨ask_ones l q, _, keyAt_const cod_ePr (d := .int 1) (fun p hp => by obtain ⟨_, _, rfl⟩ := List.mem_map.mp hp; rfl) ⟨(q, .int 1), List.mem_map.mpr ⟨q, hq, rfl⟩, rfl⟩, ?_⟩
    walk_at "wp"
    exact hk
  · have e3 : (l.filter fun _ => false) = [] := by simp
    rw [e3, List.map_nil, List.append_nil]
    refine eq_nilL rfl ?_
    walk_at "wp"
    exact h
theorem s87_ok {ps : List Pc} {m : Nat} {a b : List (List Int)} (hps : ps ≠ []) (hg : ∀ p ∈ ps, Good m p) (hlen : (prsL ps).length = a.length * b.length) (hps2 : ps.length ≤ 128) {w9 w10 w11 w12 w13 w14 : Sv} (ha : a.length ≤ 64) (hb : b.length ≤ 64)
    (h : ∀ w15, e.nx t [w0, w1, w2, w3, w4, w5, .val (eCs a), .val (eCs b), .val (.tup (ps.map eP)), w9, w10, w11, w12, w13, w14, w15, w16, w17]) :
    exs PP.val (callN PP n) x (.seq c_law_s8 (.seq c_law_s7 .skip)) [w0, w1, w2, w3, w4, w5, .val (eCs a), .val (eCs b), .val (.tup (ps.map eP)), w9, w10, w11, w12, w13, w14, w15, w16, w17] t e := by
  unfold c_law_s8 c_law_s7
  walk_at "wp"
  refine lcGo_map eP (fun p => .int ((p.1.length : Int) * p.2.1.length)) ps [] (sizeL (by simp; omega)) (fun p hp acc k' hl hk => ?_) ?_
  · have gp := hg p hp
    have := gp.ly
    have := gp.lz
    simp only [eP]
    walk_at "wp"
    exact ⟨CMulW_small (by omega) (by omega), hl, hk⟩
  · have e1 : (ps.map fun p : Pc => D.int ((p.1.length : Int) * p.2.1.length)) = (ps.map fun p : Pc => (p.1.length : Int) * p.2.1.length).map D.int := by simp
    rw [List.nil_append, e1]
    cases hm : (ps.map fun p : Pc => (p.1.length : Int) * p.2.1.length).max? with
    | none =>
      rw [List.max?_eq_none_iff] at hm
      simp at hm
      exact absurd hm hps
    | some g =>
      refine ⟨_, g, intsOf_map _, hm, ?_⟩
      walk_at "wp"
      have hmax := List.max?_eq_some_iff.mp hm
      have hg2 : ∀ p ∈ ps, (p.1.length : Int) * p.2.1.length ≤ g := fun p hp => hmax.2 _ (List.mem_map.mpr ⟨p, hp, rfl⟩)
      obtain ⟨p, hp, hpe⟩ := List.mem_map.mp hmax.1
      have gb : 0 ≤ g ∧ g ≤ 4096 := by
        have gp := hg p hp
        rw [← hpe]
        refine ⟨Int.mul_nonneg (by omega) (by omega), ?_⟩
        have := Nat.mul_le_mul gp.ly gp.lz
        have e : ((p.1.length : Int) * p.2.1.length) = ((p.1.length * p.2.1.length : Nat) : Int) := by simp
        omega
      have mm := max_mean ps g hg2
      rw [hlen] at mm
      rw [List.length_map]
      refine ⟨CMulW_small (by omega) (by omega), CMulW_small (by omega) (by omega), ?_⟩
      rw [if_neg (by simp only [Int.natCast_mul] at mm; omega)]
      exact h _
end
end K81
end Lk
set_option autoImplicit false
set_option linter.all false
set_option maxRecDepth 10000
namespace Lk
namespace K81
open PySem
local macro_rules | `(tactic| walk_at "wp") => `(tactic| try simp only [exs, ev, evs, evo, evi, evc, evg, getV_v0, getV_o0, getV_s, getO_o0, getO_s, rtvD_v0, rtvD_o0, rtvD_s, frzD_v0, frzD_o0, bind_one, bind_many, bindMany, startR, wipeR, List.map_cons, List.map_nil, List.length_cons, List.length_nil, List.cons_append, List.nil_append, List.replicate, List.set, if_true, if_false, Bool.false_eq_true, bEx_nil, bEx_f, bEx_n, noB_nil, noB_f, noB_n, fnb, nnb, true_and, and_true, bindN, endF, valD, D.isNon, isStt, isLst, trD_bl, trD_non, trD_int, trD_lst, trD_tup, bin_add, bin_sub, bin_mul, bin_mod, bin_fdv, bin_pow, add_int, add_tup, add_lst, sub_int, mul_int, mod_int, fdv_int, cmp_eq, cmp_ne, cmp_in, cmp_ni, cmp_lt, cmp_le, cmp_gt, cmp_ge, eq_int, eq_str, ix_tup, ix_lst, ix_left, ix_turn, ix_cells, sts_turn, sts_left, len_tup, len_lst, len_dct, len_dcl, blt_abs, blt_int, blt_max, blt_min, blt_tupL, blt_tupT, blt_lstL, blt_lstT, it_tup, it_lst, it_dcl, rng_1, opt_n, opt_s, sl_tup, sl_lst, tn_int, tn_tup, tn_lst, tn_str, tn_non, tn_obj, Bool.not_true, Bool.not_false, List.foldr, Bool.or_false, Bool.or_true, Bool.false_or, Bool.true_or, Option.some.injEq, exists_eq_left', Nat.reduceAdd, Nat.reduceSub, forall_const, pow18, beq_self_eq_true, String.reduceBEq, String.reduceEq, ofStr_inj, Int.reduceNeg, Int.reduceAdd, Int.reduceSub, decide_eq_true_eq, bne_self_eq_false, reduceCtorEq, not_false_eq_true, ne_eq, Bool.and_false, Bool.false_and, Bool.and_true, Bool.true_and, or_true, true_or, decide_true, decide_false, or_false, false_or, sz0, sz1, sz2, sz3, sz4, in_int2, in_str2, it_eC, it_eCs, it_eCt, add_eC, add_eCs, len_eC, len_eCs, len_eCt, tup_eCs, eT_0p, eT_0n, eT_0a, eT_0o, eT_1l, eT_1n, eT_2n, eT_lenl, eT_lenn, eT_cut, eT_isT, Int.reduceEq, Int.reduceLT, Int.reduceLE, fset_slf, self_slf, putFD, endI, fld_many, fld_bits, isF, in_eC, eq_eC, isT_eC, isNewD, atI0, atI1, atI2])
section
variable {n : Nat} {t : Nat} {x : XP} {e : En}
theorem yes_mem {m : Nat} {tr : Tr} {v : Int} : ∀ c ∈ (corners m).filter (fun c => decide (tr.bit c = v)), c ∈ corners m ∧ tr.bit c = v := fun c hc => by
  obtain ⟨h1, h2⟩ := List.mem_filter.mp hc
  exact ⟨h1, by simpa using h2⟩
theorem good_pieces {m : Nat} (hm : m ≤ 6) {tr : Tr} (ho : tr.on m) : ∀ p ∈ pieces tr (yes m tr) (noL m tr), Good m p := fun p hp => by
  have hle := two_lt hm
  obtain ⟨h1, h2⟩ := pieces_part tr (yes m tr) (noL m tr) ho yes_mem yes_mem p hp
  obtain ⟨s1, s2⟩ := pieces_sub tr _ _ p hp
  obtain ⟨d1, d2⟩ := pieces_nodup tr (yes m tr) (noL m tr) ((corners_nodup m).filter _) ((corners_nodup m).filter _) p hp
  have le : ∀ {l y : List (List Int)}, l.Nodup → (∀ a ∈ l, a ∈ y) → y.length ≤ 64 → l.length ≤ 64 := fun {l y} hn hs hy => Nat.le_trans (hn.length_le_of_subset fun a ha => hs a ha) hy
  have f1 := (filt_ok (m := m) (tr := tr) (v := 1) rfl).1
  have f0 := (filt_ok (m := m) (tr := tr) (v := 0) rfl).1
  refine ⟨h1, h2, fun a ha => (corners_mem (yes_mem a (s1 a ha)).1).1, fun a ha => (corners_mem (yes_mem a (s2 a ha)).1).1, le d1 s1 (by unfold yes; omega), le d2 s2 (by unfold noL; omega)⟩
theorem sh_pieces {m : Nat} {ps : List Pc} (hm : m ≤ 6) (hg : ∀ p ∈ ps, Good m p) (h01 : ∀ p ∈ ps, (∀ a ∈ p.1, a ∈ corners m) ∧ ∀ a ∈ p.2.1, a ∈ corners m) (hl : ps.length ≤ 128) : Sh (.tup (ps.map eP)) 985090 4 := by
  have c1 : ∀ a ∈ corners m, Sh (eC a) 38 1 := fun a ha => by
    obtain ⟨q1, q2⟩ := corners_mem ha
    refine (Sh.tup (B := 4) (e := 0) (N := 6) (fun d hd => ?_) (by rw [List.length_map]; omega)).mono (by omega) (by omega)
    obtain ⟨b, hb, rfl⟩ := List.mem_map.mp hd
    have := q2 b hb
    exact Sh.int (by omega)
  have c2 : ∀ l : List (List Int), l.length ≤ 64 → (∀ a ∈ l, a ∈ corners m) → Sh (eCt l) 2562 2 := fun l hl h => by
    refine (Sh.tup (B := 38) (e := 1) (N := 64) (fun d hd => ?_) (by rw [List.length_map]; omega)).mono (by omega) (by omega)
    obtain ⟨b, hb, rfl⟩ := List.mem_map.mp hd
    exact c1 b (h b hb)
  refine (Sh.tup (B := 7694) (e := 3) (N := 128) (fun d hd => ?_) (by rw [List.length_map]; omega)).mono (by omega) (by omega)
  obtain ⟨p, hp, rfl⟩ := List.mem_map.mp hd
  have gp := hg p hp
  refine (Sh.tup (B := 2562) (e := 2) (N := 3) (fun d hd => ?_) (by simp)).mono (by omega) (by omega)
  simp only [List.mem_cons, List.not_mem_nil, or_false] at hd
  rcases hd with rfl | rfl | rfl
  · exact c2 _ gp.ly (h01 p hp).1
  · exact c2 _ gp.lz (h01 p hp).2
  · have := gp.i
    exact (Sh.int (by omega)).mono (by omega) (by omega)
theorem tail_ok {m : Nat} (hm : m ≤ 6) (tr : Tr) (ho : tr.on m) (hl : tr.leaves ≤ 128) (h0 : (0 : Int) ∈ bitsOf m tr) (h1 : (1 : Int) ∈ bitsOf m tr) (hn : 200 ≤ n) {w0 w1 w2 w5 w6 w7 w8 w9 w10 w11 w12 w13 w14 w15 w16 w17 : Sv}
    (h : ∀ w5 w6 w7 w8 w9 w10 w11 w12 w13 w14 w15, e.nx t [w0, w1, w2, .val (.int m), .val tr.enc, w5, w6, w7, w8, w9, w10, w11, w12, w13, w14, w15, w16, w17]) :
    exs PP.val (callN PP n) x (.seq c_law_s14 (.seq c_law_s13 (.seq c_law_s12 (.seq c_law_s11 (.seq (.own 9 (.dct .nil)) (.seq c_law_s10 (.seq c_law_s9 (.seq c_law_s8 (.seq c_law_s7 .skip))))))))) [w0, w1, w2, .val (.int m), .val tr.enc, w5, w6, w7, w8, w9, w10, w11, w12, w13, w14, w15, w16, w17] t e := by
  obtain ⟨n, rfl⟩ : ∃ j, n = j + 200 := ⟨n - 200, by omega⟩
  have hdep := tr.dep_lt
  have hle := two_lt hm
  have blen : (bitsOf m tr).length = 2 ^ m := by rw [bitsOf, List.length_map, corners_len]
  obtain ⟨y1, y2⟩ := filt_ok (m := m) (tr := tr) (v := 1) rfl
  obtain ⟨z1, z2⟩ := filt_ok (m := m) (tr := tr) (v := 0) rfl
  rw [exs]
  unfold c_law_s14
  simp only [exs, ev, evs, getV_s, getV_v0]
  refine tr_bits_ok (n := n + 199) hm tr ho (by omega) ?_
  walk_at "wp"
  unfold c_law_s13
  walk_at "wp"
  refine bo_corners_ok (n := n + 197) hm tr 1 ?_
  walk_at "wp"
  refine bo_corners_ok (n := n + 197) hm tr 0 ?_
  walk_at "wp"
  unfold c_law_s12
  walk_at "wp"
  refine fn_made_ok (n := n + 194) hm blen (bits_01 ho) ?_
  walk_at "wp"
  refine kw_of (pieces_of_ok (n := n + 194) hm tr ho hl (by omega) h0 h1 ?_)
  walk_at "wp"
  unfold c_law_s11
  walk_at "wp"
  have gp := good_pieces hm ho
  have sub := pieces_sub tr (yes m tr) (noL m tr)
  have sh := sh_pieces hm gp (fun p hp => ⟨fun a ha => (yes_mem a ((sub p hp).1 a ha)).1, fun a ha => (yes_mem a ((sub p hp).2 a ha)).1⟩) (by rw [pieces_len]; exact hl)
  have hlen : (prsL (pieces tr (yes m tr) (noL m tr))).length = (yes m tr).length * (noL m tr).length := prsL_len tr _ _
  have hy64 : (yes m tr).length ≤ 64 := by unfold yes; omega
  have hz64 : (noL m tr).length ≤ 64 := by unfold noL; omega
  have hbig : (prsL (pieces tr (yes m tr) (noL m tr))).length ≤ 100000 := by
    rw [hlen]
    have := Nat.mul_le_mul hy64 hz64
    omega
  have hnd := prsL_nodup tr (yes m tr) (noL m tr) ((corners_nodup m).filter _) ((corners_nodup m).filter _)
  refine sh.repr (by omega) (by omega) ?_
  refine law_pieces_ok hm tr _ _ _ _ _ _ ho hl (by omega) (by omega) (by omega) y2 z2 ?_
  walk_at "wp"
  refine sh.repr (by omega) (by omega) ?_
  walk_at "wp"
  refine tr_size_ok tr _ _ _ _ (by omega) ?_
  walk_at "wp"
  rw [List.length_map, pieces_len]
  walk_at "wp"
  refine ⟨[], rfl, rfl, by decide, ?_⟩
  unfold c_law_s10
  walk_at "wp"
  refine b3_ok (m := m) (pieces tr (yes m tr) (noL m tr)) [] _ _ _ _ _ gp (by simpa using hnd) (by simpa using hbig) fun v10 v11 v12 v13 v14 => ?_
  rw [List.nil_append]
  refine s9_ok hlen hbig ?_ hy64 hz64
  refine s87_ok (m := m) ?_ gp hlen (by rw [pieces_len]; exact hl) hy64 hz64 fun w15 => ?_
  · intro z
    have := pieces_len tr (yes m tr) (noL m tr)
    rw [z] at this
    have := tr.leaves_pos
    simp at *
    omega
  · exact h _ _ _ _ _ _ _ _ _ _ _
theorem tsize_eq : ∀ s : Tr, tsize s + 1 = 2 * s.leaves
  | .leaf o p => rfl
  | .node o a b => by
    have := tsize_eq a
    have := tsize_eq b
    simp only [tsize, Tr.leaves]
    omega
theorem turn_ok {i : Nat} (hi : i < 4) (ht : t < 2 ^ 38) {script : Sv} {v3 v4 v5 v6 v7 v8 v9 v10 v11 v12 v13 v14 v15 v16 v17 : Sv} (hn : 200 ≤ n)
    (h : ∀ t' (v3 v4 v5 v6 v7 v8 v9 v10 v11 v12 v13 v14 v15 v16 v17 : Sv), t' ≤ t + 1000 → e.nx t' [script, .val .stt, .val (.int i), v3, v4, v5, v6, v7, v8, v9, v10, v11, v12, v13, v14, v15, v16, v17]) :
    exs PP.val (callN PP n) x c_law_b4 [script, .val .stt, .val (.int i), v3, v4, v5, v6, v7, v8, v9, v10, v11, v12, v13, v14, v15, v16, v17] t e := by
  obtain ⟨n, rfl⟩ : ∃ j, n = j + 200 := ⟨n - 200, by omega⟩
  unfold c_law_b4
  generalize hR : (S.seq c_law_s14 (.seq c_law_s13 (.seq c_law_s12 (.seq c_law_s11 (.seq (.own 9 (.dct .nil)) (.seq c_law_s10 (.seq c_law_s9 (.seq c_law_s8 (.seq c_law_s7 .skip))))))))) = R
  have tl : ∀ (m : Nat) (tr : Tr) (t3 : Nat), m ≤ 6 → tr.on m → tr.leaves ≤ 128 → (0 : Int) ∈ bitsOf m tr → (1 : Int) ∈ bitsOf m tr → t3 ≤ t + 1000 → exs PP.val (callN PP (n + 200)) x R [script, .val .stt, .val (.int i), .val (.int m), .val tr.enc, v5, v6, v7, v8, v9, v10, v11, v12, v13, v14, v15, v16, v17] t3 e := fun m tr t3 hm ho hl h0 h1 ht3 => by
    subst hR
    exact tail_ok hm tr ho hl h0 h1 (by omega) fun _ _ _ _ _ _ _ _ _ _ _ => h t3 _ _ _ _ _ _ _ _ _ _ _ _ _ _ _ ht3
  have key : ∀ (M t1 : Nat) (k : Kt), 0 < M → M ≤ 6 → (i = 3 → M = 3) → t1 ≤ t + 1 → (∀ (m : Nat) (tr : Tr) (t2 : Nat), t2 ≤ t1 + 44 → m ≤ 6 → tr.on m → tr.leaves ≤ 10 → (0 : Int) ∈ bitsOf m tr → (1 : Int) ∈ bitsOf m tr → k t2 .f (.tup [.int m, tr.enc])) → callN PP (n + 200) (.fn "_law_tr_unlike") [.stt, .int M, .lst [.str "place", .str "not"]] [] t1 k x := fun M t1 k hM hM2 hM3 ht1 hk => by
    have hw : D.lst [D.str "place", D.str "not"] = .lst ([false, true].map wordD) := rfl
    rw [hw]
    exact tr_unlike_ok (n := n + 199) hM hM2 (by simp) (by simp) (by omega) (by omega) fun m tr hm0 hm ho hl h0 h1 t2 ht2 => hk m tr t2 ht2 (by omega) ho hl h0 h1
  have mid : ∀ (m : Nat) (tr : Tr) (t2 : Nat), t2 ≤ t + 45 → m ≤ 6 → tr.on m → tr.leaves ≤ 10 → (0 : Int) ∈ bitsOf m tr → (1 : Int) ∈ bitsOf m tr → exs PP.val (callN PP (n + 200)) x c_law_s15 [script, .val .stt, .val (.int i), .val (.int m), .val tr.enc, v5, v6, v7, v8, v9, v10, v11, v12, v13, v14, v15, v16, v17] t2 { e with nx := fun t' ρ' => exs PP.val (callN PP (n + 200)) x R ρ' t' e } := fun m tr t2 ht2 hm ho hl h0 h1 => by
    unfold c_law_s15
    have hdep := tr.dep_lt
    walk_at "wp"
    split
    · unfold c_law_s1
      walk_at "wp"
      refine tr_size_ok tr _ _ _ _ (by omega) ?_
      walk_at "wp"
      rw [show (128 : Int) - tr.leaves = ((128 - tr.leaves : Nat) : Int) from by omega]
      have := tsize_eq tr
      refine stretched_ok tr (128 - tr.leaves) _ _ _ _ ho (by omega) (by omega) (by omega) fun tr' ho' hl' hb t3 ht3 => ?_
      have eb : bitsOf m tr' = bitsOf m tr := by
        unfold bitsOf
        exact List.map_congr_left fun c _ => hb c
      walk_at "wp"
      exact tl m tr' t3 hm ho' (by omega) (by rw [eb]; exact h0) (by rw [eb]; exact h1) (by omega)
    · exact tl m tr t2 hm ho (by omega) h0 h1 (by omega)
  unfold c_law_s16
  walk_at "wp"
  split
  · refine pick_ok (n := n + 197) (l := [.int 3, .int 5, .int 6]) (by simp) (by simp) (by omega) fun d hd t1 h1 => ?_
    walk_at "wp"
    obtain ⟨M, hM, hM2, rfl⟩ : ∃ M : Nat, 0 < M ∧ M ≤ 6 ∧ d = .int M := by
      simp only [List.mem_cons, List.not_mem_nil, or_false] at hd
      rcases hd with rfl | rfl | rfl
      · exact ⟨3, by omega, by omega, rfl⟩
      · exact ⟨5, by omega, by omega, rfl⟩
      · exact ⟨6, by omega, by omega, rfl⟩
    refine key M t1 _ hM hM2 (by omega) h1 fun m tr t2 ht2 hm ho hl h0 h1 => ?_
    walk_at "wp"
    exact mid m tr t2 (by omega) hm ho hl h0 h1
  · refine key 3 t _ (by omega) (by omega) (by omega) (by omega) fun m tr t2 ht2 hm ho hl h0 h1 => ?_
    walk_at "wp"
    exact mid m tr t2 (by omega) hm ho hl h0 h1
theorem law_loop {script : Sv} : ∀ (r i : Nat) (t : Nat) (v2 v3 v4 v5 v6 v7 v8 v9 v10 v11 v12 v13 v14 v15 v16 v17 : Sv), i + r = 4 → t ≤ 1000 * i → 200 ≤ n → (∀ t v2 v3 v4 v5 v6 v7 v8 v9 v10 v11 v12 v13 v14 v15 v16 v17, e.nx t [script, .val .stt, v2, v3, v4, v5, v6, v7, v8, v9, v10, v11, v12, v13, v14, v15, v16, v17]) →
    forL (fun ρ t e => exs PP.val (callN PP n) x c_law_b4 ρ t e) (.one 2) ((List.range' i r).map fun j : Nat => D.int j) [script, .val .stt, v2, v3, v4, v5, v6, v7, v8, v9, v10, v11, v12, v13, v14, v15, v16, v17] t e
  | 0, i, t, v2, v3, v4, v5, v6, v7, v8, v9, v10, v11, v12, v13, v14, v15, v16, v17, hi, ht, hn, h => by
    unfold forL
    exact h _ _ _ _ _ _ _ _ _ _ _ _ _ _ _ _ _
  | r + 1, i, t, v2, v3, v4, v5, v6, v7, v8, v9, v10, v11, v12, v13, v14, v15, v16, v17, hi, ht, hn, h => by
    rw [List.range'_succ, List.map_cons]
    refine forL_step fun e' hr hx _ _ => ?_
    walk_at "wp"
    exact turn_ok (by omega) (by omega) hn fun t' v3 v4 v5 v6 v7 v8 v9 v10 v11 v12 v13 v14 v15 v16 v17 ht' => hx _ _ (law_loop r (i + 1) t' _ _ _ _ _ _ _ _ _ _ _ _ _ _ _ _ (by omega) (by omega) hn h)
end
theorem data : ∀ ns : List Int, ns.length ≤ 63 → exs (mkP ents vals kws).val (callN (mkP ents vals kws) 225) noX c_law ((startR nLaw.length [.val (.scr ns)]).set 1 (.val .stt)) 0 endL := fun ns _ => by
  show exs PP.val (callN PP 225) noX c_law _ 0 endL
  unfold c_law c_law_s17 nLaw
  walk_at "wp"
  refine ⟨by omega, by omega, ?_⟩
  have e1 : rangeL 0 4 = (List.range' 0 4).map fun j : Nat => D.int j := rfl
  rw [e1]
  refine law_loop 4 0 0 _ _ _ _ _ _ _ _ _ _ _ _ _ _ _ _ rfl (by omega) (by omega) fun t v2 v3 v4 v5 v6 v7 v8 v9 v10 v11 v12 v13 v14 v15 v16 v17 => ?_
  walk_at "wp"
  rfl
end K81
end Lk
open PySem PySem.W PyProof.Rows Lk
set_option maxRecDepth 100000
set_option maxHeartbeats 0 in
theorem PySem.Challenge.cw_looksenough_k81_whole_leaves_part_all_pa_holds : PySem.Challenge.rw_looksenough_k81_whole_leaves_part_all_pa.Holds := by
  w_on; o_law; k_head; (case hw => w_witness2)
  k_fill
  refine Lk.walk_lk (l := PySem.Challenge.rw_looksenough_k81_whole_leaves_part_all_pa) (ents := K81.ents) (vals := K81.vals) (kws := K81.kws) (cn := K81.cn) (fdn := ["many", "bits"]) (ex := K81.ex) (N := K81.nLaw) (own := [9]) (dic := [9]) (i := 0) (n := 225) (code := K81.c_law) rfl rfl rfl (fun w h Y => PySem.W.kIn_of Y) (by decide) ⟨rfl, by decide, by decide⟩ (fun w => ?h1) (fun w => ?h2) K81.data
  case h1 => kernel_rfl
  case h2 => kernel_rfl
