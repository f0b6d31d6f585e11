import PyProof.Rows.All
import Wide.All
import OpenK.AllK
import Wide.FinOn
import HandS.ForMost
import HandS.Evl
import HandS.Wide
import HandS.IsInst
import HandS.Conv
import HandS.Codes
import HandS.Style
import HandS.TupAny
import HandS.Walk
import HandS.Text
import HandS.HeadHook3
import HandS.More
import HandS.SortInts
import HandS.NoneIn
import HandS.Iter
import PyProof.LongRange
import PyProof.ListRange
import HandS.ExcInit
import HandS.ExcField
import HandS.ExcOwn
import KE.KExcIs
import PyProof.Rows.TupTab
import PyProof.DictRoadsH
import PyProof.TupleKey
import HandS.Zip
import KE.GoesMore
import KE.GoesEnum
import KE.DatumOrd
import HandS.List
import KE.DataFind
import HandS.TupMul
import HandS.Property
import HandS.RevRange
import PySem.Challenge.RW_swornrun_k08_lists_that_are_changed
set_option Elab.async false
set_option linter.all false
set_option maxRecDepth 100000
set_option maxHeartbeats 4000000
set_option maxRecDepth 100000
set_option maxHeartbeats 2000000
/-! VL: values without a heap, an own syntax of the defs, predicate transformers by recursion. -/
namespace VL
open PySem L2

/-- a value: immutable things as they are; what is changed stands in a cell -/
inductive AV where
  | non | bl (b : Bool) | int (i : Int) | str (s : Str)
  | tup (xs : List AV) | lst (xs : List AV) | ro (xs : List AV) | dct (kvs : List (Key × AV))
  | adr (n : Nat)
/-- a key that is a tuple: of ints, and of tuples of ints -/
abbrev NI := Int ⊕ List Int
abbrev NK := List NI
/-- what is changed -/
inductive Cell where
  | lst (xs : List AV) | dct (kvs : List (Key × AV)) | dctN (kvs : List (NK × AV)) | obj (c : Nat) (fs : List (Str × AV)) | dead
abbrev AHeap := List Cell
inductive Slot where
  | no | val (d : AV) | own (c : Cell)
abbrev Env := List Slot

inductive Tg where
  | nm (i : Nat) | tup (is : List Nat)
inductive Blt where
  | len | abs | int | str | max2 | min2 | maxL | minL | sum | all | any | tuple | repr
deriving DecidableEq
inductive Sm where
  | join
deriving DecidableEq
mutual
inductive E where
  | var (i : Nat) | vw (i : Nat)
  | cint (i : Int) | cstr (s : Str) | cbl (b : Bool) | cnon
  | glob (g : Nat)
  | bin (op : Operator) (a b : E)
  | neg (a : E)
  | cmp (op : CmpOp) (a b : E)
  | chain (o1 o2 : CmpOp) (a b c : E)
  | and (a b : E) | or (a b : E) | not (a : E)
  | ite (c a b : E)
  | tup (es : Es)
  | fz (n : Nw) | new (n : Nw)
  | sub (a i : E)
  | slice (a : E) (lo hi : Oe)
  | call (f : Nat) (es : Es)
  | blt (b : Blt) (es : Es)
  | isi (a : E) (t : String)
  | smt (m : Sm) (o : E) (a : E)
  | attr (a : E) (f : Str)
  | prop (o : E) (f : Str)
  | mcall (o : E) (m : Str) (es : Es)
  | make (c : Nat) (es : Es)
  | tru (a : E)
  | isC (a : E) (c : Nat)
  | gIn (neg : Bool) (a : E) (g : Nat)
  | gGet (g : Nat) (a : E)
  | idx (l a : E)
  | revT (a : E)
  | popE (o : E)
inductive Es where
  | nil | cons (e : E) (es : Es)
inductive Nw where
  | lst (es : Es)
  | comp (elt : E) (tg : Tg) (it : It) (cond : Oe) (own : List Nat)
  | slice (a : E) (lo hi : Oe)
  | listOf (a : E)
  | cat (a b : E)
  | rep (a b : E)
  | rev (a : E)
  | dct1 (k v : E)
  | dctL (kvs : Es)
  | split (o a : E)
  | dct0 | dctN0 | dictOf (a : E) | sorted (a : E) | rngL (a b : E)
inductive It where
  | rng1 (a : E) | rng2 (a b : E) | seq (a : E) | own (i : Nat) | chars (a : E)
  | keys (a : E) | zip (a b : E) | rvR (a : E)
inductive Oe where
  | no | so (e : E)
end
mutual
inductive S where
  | asg (tg : Tg) (e : E)
  | asgO (i : Nat) (n : Nw)
  | frz (i : Nat)
  | par (i j : Nat) (a b : E) | par3 (i j l : Nat) (a b c : E)
  | aug (i : Nat) (op : Operator) (e : E)
  | app (i : Nat) (e : E)
  | appE (o e : E)
  | ext (i : Nat) (e : E)
  | extE (o e : E)
  | popS (i : Nat)
  | rem (i : Nat) (e : E)
  | popA (tg : Tg) (i : Nat)
  | put (i : Nat) (k e : E)
  | putE (o k e : E)
  | fld (o : E) (f : Str) (e : E)
  | expr (e : E)
  | ret (e : E) | retN
  | ite (c : E) (a b : Ss)
  | wh (c : E) (b : Ss)
  | for (tg : Tg) (it : It) (b : Ss)
  | pass | brk | cont | bad
  | rse (c : Nat) (e : E)
inductive Ss where
  | nil | cons (s : S) (r : Ss)
end

/-! ### operations -/
abbrev KA := AV → Prop
def cells (h : AHeap) (n : Nat) : Cell := (h[n]?).getD .dead
/-- the items of a list -/
def view (h : AHeap) : AV → Option (List AV)
  | .lst xs => some xs
  | .ro xs => some xs
  | .adr n => match cells h n with
    | .lst xs => some xs
    | _ => none
  | _ => none
/-- a list that may be glued -/
def viewW (h : AHeap) : AV → Option (List AV)
  | .lst xs => some xs
  | .adr n => match cells h n with
    | .lst xs => some xs
    | _ => none
  | _ => none
/-- what a list may be lengthened by -/
def viewE (h : AHeap) : AV → Option (List AV)
  | .tup xs => some xs
  | .lst xs => some xs
  | .adr n => match cells h n with
    | .lst xs => some xs
    | _ => none
  | _ => none
def viewT (h : AHeap) : AV → Option (List AV)
  | .tup xs => some xs
  | x => view h x
def viewD (h : AHeap) : AV → Option (List (Key × AV))
  | .dct xs => some xs
  | .adr n => match cells h n with
    | .dct xs => some xs
    | _ => none
  | _ => none
def keyOf : AV → Option Key
  | .int i => some (.inl i)
  | .str s => some (.inr s)
  | _ => none
def keyA : Key → AV
  | .inl i => .int i
  | .inr s => .str s
def getD (kvs : List (Key × AV)) (k : Key) : Option AV := (kvs.find? fun kv => decide (kv.1 = k)).map (·.2)
def putD (kvs : List (Key × AV)) (k : Key) (v : AV) : List (Key × AV) :=
  if (kvs.any fun kv => decide (kv.1 = k)) = true then kvs.map (fun kv => if kv.1 = k then (kv.1, v) else kv) else kvs ++ [(k, v)]
def viewN (h : AHeap) : AV → Option (List (NK × AV))
  | .adr n => match cells h n with
    | .dctN xs => some xs
    | _ => none
  | _ => none
def asInts : List AV → Option (List Int)
  | [] => some []
  | .int i :: r => (asInts r).map (i :: ·)
  | _ => none
def niOf : AV → Option NI
  | .int i => some (.inl i)
  | .tup xs => (asInts xs).map .inr
  | _ => none
def nisOf : List AV → Option NK
  | [] => some []
  | x :: r => match niOf x, nisOf r with
    | some k, some ks => some (k :: ks)
    | _, _ => none
def nkOf : AV → Option NK
  | .tup xs => nisOf xs
  | _ => none
def niA : NI → AV
  | .inl i => .int i
  | .inr ks => .tup (ks.map .int)
def nkA (k : NK) : AV := .tup (k.map niA)
def getN (kvs : List (NK × AV)) (k : NK) : Option AV := (kvs.find? fun kv => decide (kv.1 = k)).map (·.2)
def putNK (kvs : List (NK × AV)) (k : NK) (v : AV) : List (NK × AV) :=
  if (kvs.any fun kv => decide (kv.1 = k)) = true then kvs.map (fun kv => if kv.1 = k then (kv.1, v) else kv) else kvs ++ [(k, v)]
def asBools : List AV → Option (List Bool)
  | [] => some []
  | .bl i :: r => (asBools r).map (i :: ·)
  | _ => none
def asStrs : List AV → Option (List Str)
  | [] => some []
  | .str i :: r => (asStrs r).map (i :: ·)
  | _ => none
def cut {α : Type} (xs : List α) (lo hi : Option Int) : List α := (xs.drop (HT.sIx xs.length 0 lo)).take (HT.sIx xs.length xs.length hi - HT.sIx xs.length 0 lo)

mutual
def pd : AV → Option PyData
  | .non => some .none
  | .bl b => some (.bool b)
  | .int i => some (.int i)
  | .str s => some (.str s)
  | .tup xs => (pds xs).map .tuple
  | .lst xs => (pds xs).map .list
  | .ro xs => (pds xs).map .list
  | .dct _ => none
  | .adr _ => none
def pds : List AV → Option (List PyData)
  | [] => some []
  | x :: r => (pd x).bind fun d => (pds r).map (d :: ·)
end
mutual
def pdH (h : AHeap) : AV → Option PyData
  | .non => some .none
  | .bl b => some (.bool b)
  | .int i => some (.int i)
  | .str s => some (.str s)
  | .tup xs => (pdHs h xs).map .tuple
  | .lst xs => (pdHs h xs).map .list
  | .ro xs => (pdHs h xs).map .list
  | .dct _ => none
  | .adr n => match cells h n with
    | .lst xs => (pds xs).map .list
    | _ => none
def pdHs (h : AHeap) : List AV → Option (List PyData)
  | [] => some []
  | x :: r => (pdH h x).bind fun d => (pdHs h r).map (d :: ·)
end

def isNon : AV → Bool
  | .non => true
  | _ => false
def eqGen (h : AHeap) (neg : Bool) (x y : AV) (Q : KA) : Prop :=
  match pdH h x, pdH h y with
  | some d, some e => SeqAt.shaped d = true ∧ SeqAt.shaped e = true ∧ Q (.bl (if neg then !PyData.eqv d e else PyData.eqv d e))
  | _, _ => False
/-- the same ints, or lists of them -/
def eqv1 (a b : AV) : Prop := (∃ i, a = .int i ∧ b = .int i) ∨ ∃ ns : List Int, a = .lst (ns.map .int) ∧ b = .lst (ns.map .int)
/-- equal dicts -/
def dEq (xs ys : List (Key × AV)) : Prop := xs.length = ys.length ∧ ∀ p ∈ xs, ∃ u, getD ys p.1 = some u ∧ eqv1 p.2 u
def eqK (h : AHeap) (x y : AV) (Q : KA) : Prop :=
  match x, y with
  | .int i, .int j => Q (.bl (decide (i = j)))
  | .str i, .str j => Q (.bl (decide (i = j)))
  | .bl i, .bl j => Q (.bl (decide (i = j)))
  | .non, .non => Q (.bl true)
  | .int _, .str _ => Q (.bl false)
  | .str _, .int _ => Q (.bl false)
  | .dct xs, .dct ys => dEq xs ys ∧ Q (.bl true)
  | x, y => eqGen h false x y Q
def neK (h : AHeap) (x y : AV) (Q : KA) : Prop :=
  match x, y with
  | .int i, .int j => Q (.bl (!decide (i = j)))
  | .str i, .str j => Q (.bl (!decide (i = j)))
  | .bl i, .bl j => Q (.bl (!decide (i = j)))
  | .non, .non => Q (.bl false)
  | .int _, .str _ => Q (.bl true)
  | .str _, .int _ => Q (.bl true)
  | .dct xs, .dct ys => dEq xs ys ∧ Q (.bl false)
  | x, y => eqGen h true x y Q
def flatA : AV → Bool
  | .non => true
  | .bl _ => true
  | .int _ => true
  | .str _ => true
  | _ => false
def eqF : AV → AV → Bool
  | .non, .non => true
  | .bl a, .bl b => a == b
  | .bl a, .int b => (if a then 1 else 0) == b
  | .int a, .bl b => a == (if b then 1 else 0)
  | .int a, .int b => a == b
  | .str a, .str b => a == b
  | _, _ => false
def inK (h : AHeap) (neg : Bool) (x y : AV) (Q : KA) : Prop :=
  match y with
  | .str z => match x with
    | .str w => match w.cps.toList with
      | [c] => Q (.bl (if neg then !decide (c ∈ z.cps.toList) else decide (c ∈ z.cps.toList)))
      | _ => False
    | _ => False
  | y => match viewT h y with
    | some xs => (flatA x = true ∧ xs.all flatA = true ∧ Q (.bl (if neg then !(xs.any fun y => eqF y x) else xs.any fun y => eqF y x))) ∨
      ∃ d ds, pdH h x = some d ∧ pdHs h xs = some ds ∧ SeqAt.shaped d = true ∧ ds.all SeqAt.shaped = true ∧ Q (.bl (if neg then !(ds.any fun y => PyData.eqv y d) else ds.any fun y => PyData.eqv y d))
    | none => match viewD h y, keyOf x with
      | some kvs, some k => Q (.bl (if neg then !(getD kvs k).isSome else (getD kvs k).isSome))
      | _, _ => match viewN h y, nkOf x with
        | some kvs, some k => Q (.bl (if neg then !(getN kvs k).isSome else (getN kvs k).isSome))
        | _, _ => False
def cmpK (h : AHeap) (op : CmpOp) (x y : AV) (Q : KA) : Prop :=
  match op with
  | .Eq => eqK h x y Q
  | .NotEq => neK h x y Q
  | .Lt => match x, y with
    | .int i, .int j => Q (.bl (decide (i < j)))
    | _, _ => False
  | .LtE => match x, y with
    | .int i, .int j => Q (.bl (decide (i ≤ j)))
    | _, _ => False
  | .Gt => match x, y with
    | .int i, .int j => Q (.bl (decide (j < i)))
    | _, _ => False
  | .GtE => match x, y with
    | .int i, .int j => Q (.bl (decide (j ≤ i)))
    | _, _ => False
  | .Is => match y with
    | .non => Q (.bl (isNon x))
    | .bl k => match x with
      | .bl j => Q (.bl (decide (j = k)))
      | _ => False
    | _ => False
  | .IsNot => match y with
    | .non => Q (.bl (!isNon x))
    | .bl k => match x with
      | .bl j => Q (.bl (!decide (j = k)))
      | _ => False
    | _ => False
  | .In => inK h false x y Q
  | .NotIn => inK h true x y Q
def CDivA (j : Int) : Prop := 0 < j ∧ j.natAbs.log2 < 9000
def CMulA (i j : Int) : Prop := CMul i j ∨ CMulW i j
def addK (h : AHeap) (x y : AV) (Q : KA) : Prop :=
  match x, y with
  | .int i, .int j => Q (.int (i + j))
  | .str i, .str j => i.length + j.length ≤ sizeLine ∧ Q (.str (i ++ j))
  | .tup xs, .tup ys => xs.length + ys.length ≤ sizeLine ∧ Q (.tup (xs ++ ys))
  | _, _ => False
def strRep (x : Str) (n : Int) : Str := if n < 1 then Str.empty else if (n == 1 || x.length == 0) = true then x else ⟨(List.replicate n.toNat x.cps).foldl (· ++ ·) #[]⟩
def binK (h : AHeap) (op : Operator) (x y : AV) (Q : KA) : Prop :=
  match op with
  | .Add => addK h x y Q
  | .Sub => match x, y with
    | .int i, .int j => Q (.int (i - j))
    | _, _ => False
  | .Mult => match x, y with
    | .int i, .int j => CMulA i j ∧ Q (.int (i * j))
    | .str z, .int j => (-(2 ^ 60) < j ∧ j < 2 ^ 60 ∧ z.length * j.toNat ≤ 1000000) ∧ Q (.str (strRep z j))
    | .tup xs, .int j => (xs ≠ [] ∧ (j = 0 ∨ j = 1)) ∧ Q (.tup (if j = 1 then xs else []))
    | _, _ => False
  | .FloorDiv => match x, y with
    | .int i, .int j => CDivA j ∧ Q (.int (i / j))
    | _, _ => False
  | .Mod => match x, y with
    | .int i, .int j => 0 < j ∧ Q (.int (i % j))
    | _, _ => False
  | .Pow => match x, y with
    | .int i, .int j => CPow i j ∧ Q (.int (i ^ j.toNat))
    | _, _ => False
  | _ => False
def negK (x : AV) (Q : KA) : Prop :=
  match x with
  | .int i => Q (.int (-i))
  | _ => False
def subK (h : AHeap) (x y : AV) (Q : KA) : Prop :=
  match x with
  | .str z => match y with
    | .int i => z.length ≤ sizeLine ∧ match atI z.cps.toList i with
      | some c => Q (.str ⟨#[c]⟩)
      | none => False
    | _ => False
  | x => match viewT h x with
    | some xs => match y with
      | .int i => match atI xs i with
        | some d => Q d
        | none => False
      | _ => False
    | none => match viewD h x, keyOf y with
      | some kvs, some k => match getD kvs k with
        | some d => Q d
        | none => False
      | _, _ => match viewN h x, nkOf y with
        | some kvs, some k => match getN kvs k with
          | some d => Q d
          | none => False
        | _, _ => False
def sliceK (h : AHeap) (x : AV) (lo hi : Option Int) (Q : KA) : Prop :=
  match x with
  | .str z => z.length ≤ sizeLine ∧ Q (.str (cutS z lo hi))
  | .tup xs => Q (.tup (cut xs lo hi))
  | _ => False
def truK (h : AHeap) (x : AV) (Q : Bool → Prop) : Prop :=
  match x with
  | .bl b => Q b
  | .non => Q false
  | .int i => Q (i != 0)
  | .str y => y.length ≤ sizeLine ∧ Q ((y.length : Int) != 0)
  | x => match viewT h x with
    | some xs => Q (!xs.isEmpty)
    | none => False
def bltK (h : AHeap) (b : Blt) (vs : List AV) (Q : KA) : Prop :=
  match b, vs with
  | .len, [.str z] => z.length ≤ sizeLine ∧ Q (.int z.length)
  | .len, [x] => match viewT h x with
    | some xs => Q (.int xs.length)
    | none => match viewD h x with
      | some kvs => Q (.int kvs.length)
      | none => False
  | .abs, [.int i] => Q (.int (if i < 0 then -i else i))
  | .int, [.int i] => Q (.int i)
  | .int, [.bl k] => Q (.int (if k then 1 else 0))
  | .int, [.str z] => match PySem.intText? z with
    | some n => z.length ≤ 640 ∧ Q (.int n)
    | none => False
  | .str, [.int i] => i.natAbs.log2 < 1920 ∧ Q (.str (toString i))
  | .max2, [.int i, .int j] => Q (.int (if j > i then j else i))
  | .min2, [.int i, .int j] => Q (.int (if j < i then j else i))
  | .maxL, [x] => match (viewT h x).bind asInts with
    | some ns => 0 < ns.length ∧ ∀ m, m ∈ ns → (∀ y, y ∈ ns → y ≤ m) → Q (.int m)
    | none => False
  | .minL, [x] => match (viewT h x).bind asInts with
    | some ns => 0 < ns.length ∧ ∀ m, m ∈ ns → (∀ y, y ∈ ns → m ≤ y) → Q (.int m)
    | none => False
  | .sum, [x] => match (view h x).bind asInts with
    | some ns => Q (.int ns.sum)
    | none => False
  | .all, [x] => match (view h x).bind asBools with
    | some bs => Q (.bl (bs.all id))
    | none => False
  | .any, [x] => match (view h x).bind asBools with
    | some bs => Q (.bl (bs.any id))
    | none => False
  | .repr, [x] => match pdH h x with
    | some d => (d.showable = true ∧ d.hasDict = false ∧ d.depth ≤ 50 ∧ d.shown.length ≤ sizeLine) ∧ Q (.str d.shown)
    | none => False
  | .tuple, [.tup xs] => Q (.tup xs)
  | .tuple, [x] => match view h x with
    | some xs => Q (.tup xs)
    | none => False
  | _, _ => False
/-- what zip goes through -/
def zs : AV → Option (List AV)
  | .lst xs => some xs
  | .tup xs => some xs
  | _ => none
/-- isinstance against a built-in type -/
def isiK (x : AV) (t : String) (h : AHeap) (Q : KA) : Prop :=
  match x with
  | .non => (t = "int" ∨ t = "bool" ∨ t = "str" ∨ t = "list" ∨ t = "tuple") ∧ Q (.bl false)
  | .bl _ => (t = "int" ∧ Q (.bl true)) ∨ (t = "bool" ∧ Q (.bl true)) ∨ ((t = "str" ∨ t = "list" ∨ t = "tuple") ∧ Q (.bl false))
  | .int _ => (t = "int" ∧ Q (.bl true)) ∨ ((t = "bool" ∨ t = "str" ∨ t = "list" ∨ t = "tuple") ∧ Q (.bl false))
  | .str _ => (t = "str" ∧ Q (.bl true)) ∨ ((t = "bool" ∨ t = "int" ∨ t = "list" ∨ t = "tuple") ∧ Q (.bl false))
  | .tup _ => (t = "tuple" ∧ Q (.bl true)) ∨ ((t = "bool" ∨ t = "int" ∨ t = "list" ∨ t = "str") ∧ Q (.bl false))
  | .dct _ => False
  | x => match view h x with
    | some _ => (t = "list" ∧ Q (.bl true)) ∨ ((t = "bool" ∨ t = "int" ∨ t = "tuple" ∨ t = "str") ∧ Q (.bl false))
    | none => False
def smtK (h : AHeap) (m : Sm) (z : Str) (a : AV) (Q : KA) : Prop :=
  match m with
  | .join => match (viewT h a).bind asStrs with
    | some ys => (ys.map (·.length)).sum + ys.length * z.length ≤ 16777216 ∧ Q (.str (Txt.join z ys))
    | none => False

/-- keys and values of a display -/
def pairsOf : List AV → Option (List (Key × AV))
  | [] => some []
  | [_] => none
  | x :: y :: r => match keyOf x, pairsOf r with
    | some k, some ks => some ((k, y) :: ks)
    | _, _ => none
def mergeA (acc : List (Key × AV)) : List (Key × AV) → List (Key × AV)
  | [] => acc
  | (k, v) :: r => mergeA (putD acc k v) r
/-- the place of an item in a list -/
def idxK (h : AHeap) (x y : AV) (Q : KA) : Prop :=
  match view h x with
  | some xs => flatA y = true ∧ xs.all flatA = true ∧ match xs.findIdx? (fun z => eqF z y) with
    | some j => Q (.int (j : Int))
    | none => False
  | none => False
/-- a key of a dict of the module -/
def gInK (kvs : Option (List (Str × Int))) (neg : Bool) (x : AV) (Q : Bool → Prop) : Prop :=
  match kvs with
  | some kvs => match x with
    | .str z => Q (if neg then !(kvs.lookup z).isSome else (kvs.lookup z).isSome)
    | _ => False
  | none => False
def gGetK (kvs : Option (List (Str × Int))) (x : AV) (Q : KA) : Prop :=
  match kvs with
  | some kvs => match x with
    | .str z => match kvs.lookup z with
      | some i => Q (.int i)
      | none => False
    | _ => False
  | none => False
def isCK (h : AHeap) (c : Nat) (x : AV) (Q : KA) : Prop :=
  match x with
  | .adr n => match cells h n with
    | .obj c' _ => c' = c ∧ Q (.bl true)
    | _ => False
  | _ => False

/-! ### the transformers -/
structure Ctx where
  glob : Nat → Option AV
  call : Nat → List AV → AHeap → (AV → AHeap → Prop) → Prop
  meth : Nat → Str → Option Nat
  prp : Nat → Str → Option Nat
  init : Nat → Option Nat
  fld : Nat → Str → Bool
  gdct : Nat → Option (List (Str × Int))

def getS : Env → Nat → Slot
  | [], _ => .no
  | x :: _, 0 => x
  | _ :: r, n + 1 => getS r n
def setS : Env → Nat → Slot → Env
  | [], _, _ => []
  | _ :: r, 0, v => v :: r
  | x :: r, n + 1, v => x :: setS r n v
def wipeS (ρ : Env) : List Nat → Env
  | [] => ρ
  | v :: vs => setS (wipeS ρ vs) v .no
def setsS : Env → List Nat → List AV → Option Env
  | ρ, [], [] => some ρ
  | ρ, i :: is, x :: xs => setsS (setS ρ i (.val x)) is xs
  | _, _, _ => none
def tgK (tg : Tg) (x : AV) (ρ : Env) (Q : Env → Prop) : Prop :=
  match tg with
  | .nm i => Q (setS ρ i (.val x))
  | .tup is => match x with
    | .tup xs => match setsS ρ is xs with
      | some ρ' => Q ρ'
      | none => False
    | .lst xs => match setsS ρ is xs with
      | some ρ' => Q ρ'
      | none => False
    | _ => False

/-- a comprehension's loop: B gives an item, or none -/
def compL (B : AV → AHeap → (Option AV → AHeap → Prop) → Prop) (chk : AHeap → Prop) : List AV → List AV → AHeap → (List AV → AHeap → Prop) → Prop
  | [], acc, h, Q => chk h ∧ Q acc h
  | x :: xs, acc, h, Q => chk h ∧ B x h fun r h' => compL B chk xs (match r with | some y => acc ++ [y] | none => acc) h' Q

mutual
def WpE (C : Ctx) : Bool → E → Env → AHeap → (AV → AHeap → Prop) → Prop
  | _, .var i, ρ, h, Q => match getS ρ i with
    | .val d => Q d h
    | _ => False
  | true, .vw i, ρ, h, Q => match getS ρ i with
    | .own (.lst xs) => Q (.lst xs) h
    | .own (.dct xs) => Q (.dct xs) h
    | _ => False
  | false, .vw _, _, _, _ => False
  | _, .tru _, _, _, _ => False
  | _, .cint i, _, h, Q => Q (.int i) h
  | _, .cstr s, _, h, Q => Q (.str s) h
  | _, .cbl b, _, h, Q => Q (.bl b) h
  | _, .cnon, _, h, Q => Q .non h
  | _, .glob g, _, h, Q => match C.glob g with
    | some d => Q d h
    | none => False
  | _, .bin op a b, ρ, h, Q => WpE C false a ρ h fun x h1 => WpE C false b ρ h1 fun y h2 => binK h2 op x y fun z => Q z h2
  | _, .neg a, ρ, h, Q => WpE C false a ρ h fun x h1 => negK x fun z => Q z h1
  | _, .cmp op a b, ρ, h, Q => WpE C true a ρ h fun x h1 => WpE C true b ρ h1 fun y h2 => cmpK h2 op x y fun z => Q z h2
  | _, .chain o1 o2 a b c, ρ, h, Q => WpE C false a ρ h fun x h1 => WpE C false b ρ h1 fun y h2 => cmpK h2 o1 x y fun z => match z with
    | .bl true => WpE C false c ρ h2 fun w h3 => cmpK h3 o2 y w fun z => Q z h3
    | .bl false => Q (.bl false) h2
    | _ => False
  | _, .and a b, ρ, h, Q => WpE C false a ρ h fun x h1 => match x with
    | .bl true => WpE C false b ρ h1 Q
    | .bl false => Q (.bl false) h1
    | _ => False
  | _, .or a b, ρ, h, Q => WpE C false a ρ h fun x h1 => match x with
    | .bl false => WpE C false b ρ h1 Q
    | .bl true => Q (.bl true) h1
    | _ => False
  | _, .not a, ρ, h, Q => WpE C false a ρ h fun x h1 => match x with
    | .bl b => Q (.bl (!b)) h1
    | _ => False
  | _, .ite c a b, ρ, h, Q => WpT C c ρ h fun k h1 => if k = true then WpE C false a ρ h1 Q else WpE C false b ρ h1 Q
  | _, .tup es, ρ, h, Q => WpEs C es ρ h fun xs h1 => xs.length ≤ sizeLine ∧ Q (.tup xs) h1
  | _, .fz n, ρ, h, Q => WpN C n ρ h fun c h1 => match c with
    | .lst xs => Q (.lst xs) h1
    | .dct xs => Q (.dct xs) h1
    | _ => False
  | _, .new n, ρ, h, Q => WpN C n ρ h fun c h1 => Q (.adr h1.length) (h1 ++ [c])
  | _, .sub a i, ρ, h, Q => WpE C true a ρ h fun x h1 => WpE C false i ρ h1 fun y h2 => subK h2 x y fun z => Q z h2
  | _, .slice a lo hi, ρ, h, Q => WpE C false a ρ h fun x h1 => WpO C lo ρ h1 fun l h2 => WpO C hi ρ h2 fun u h3 => sliceK h3 x l u fun z => Q z h3
  | _, .call f es, ρ, h, Q => WpEs C es ρ h fun xs h1 => C.call f xs h1 Q
  | _, .blt b es, ρ, h, Q => WpBs C es ρ h fun xs h1 => bltK h1 b xs fun z => Q z h1
  | _, .isi a t, ρ, h, Q => WpE C true a ρ h fun x h1 => isiK x t h1 fun z => Q z h1
  | _, .smt m o a, ρ, h, Q => WpE C false o ρ h fun x h1 => match x with
    | .str z => WpE C true a ρ h1 fun y h2 => smtK h2 m z y fun z => Q z h2
    | _ => False
  | _, .attr a f, ρ, h, Q => WpE C false a ρ h fun x h1 => match x with
    | .adr n => match cells h1 n with
      | .obj c fs => C.fld c f = true ∧ match fs.lookup f with
        | some d => Q d h1
        | none => False
      | _ => False
    | _ => False
  | _, .prop o f, ρ, h, Q => WpE C false o ρ h fun x h1 => match x with
    | .adr n => match cells h1 n with
      | .obj c _ => match C.prp c f with
        | some g => C.call g [x] h1 Q
        | none => False
      | _ => False
    | _ => False
  | _, .mcall o m es, ρ, h, Q => WpE C false o ρ h fun x h1 => match x with
    | .adr n => match cells h1 n with
      | .obj c fs => match fs.lookup m with
        | some _ => False
        | none => match C.meth c m with
          | some f => WpEs C es ρ h1 fun xs h2 => C.call f (x :: xs) h2 Q
          | none => False
      | _ => False
    | _ => False
  | _, .make c es, ρ, h, Q => WpEs C es ρ h fun xs h1 => match C.init c with
    | some f => C.call f (.adr h1.length :: xs) (h1 ++ [.obj c []]) fun r h2 => match r with
      | .non => Q (.adr h1.length) h2
      | _ => False
    | none => False
  | _, .isC a c, ρ, h, Q => WpE C false a ρ h fun x h1 => isCK h1 c x fun z => Q z h1
  | _, .gIn neg a g, ρ, h, Q => WpE C false a ρ h fun x h1 => gInK (C.gdct g) neg x fun k => Q (.bl k) h1
  | _, .gGet g a, ρ, h, Q => WpE C false a ρ h fun x h1 => gGetK (C.gdct g) x fun z => Q z h1
  | _, .idx l a, ρ, h, Q => WpE C true l ρ h fun x h1 => (view h1 x).isSome = true ∧ WpE C false a ρ h1 fun y h2 => idxK h2 x y fun z => Q z h2
  | _, .popE o, ρ, h, Q => WpE C false o ρ h fun x h1 => match x with
    | .adr n => match cells h1 n with
      | .lst xs => match xs.getLast? with
        | some d => Q d (h1.set n (.lst xs.dropLast))
        | none => False
      | _ => False
    | _ => False
  | _, .revT a, ρ, h, Q => WpE C false a ρ h fun x h1 => match x with
    | .tup xs => Q (.tup xs.reverse) h1
    | _ => False
def WpEs (C : Ctx) : Es → Env → AHeap → (List AV → AHeap → Prop) → Prop
  | .nil, _, h, Q => Q [] h
  | .cons e es, ρ, h, Q => WpE C false e ρ h fun x h1 => WpEs C es ρ h1 fun xs h2 => Q (x :: xs) h2
def WpBs (C : Ctx) : Es → Env → AHeap → (List AV → AHeap → Prop) → Prop
  | .nil, _, h, Q => Q [] h
  | .cons e es, ρ, h, Q => WpE C true e ρ h fun x h1 => WpBs C es ρ h1 fun xs h2 => Q (x :: xs) h2
def WpO (C : Ctx) : Oe → Env → AHeap → (Option Int → AHeap → Prop) → Prop
  | .no, _, h, Q => Q none h
  | .so e, ρ, h, Q => WpE C false e ρ h fun x h1 => match x with
    | .int i => Q (some i) h1
    | _ => False
def WpN (C : Ctx) : Nw → Env → AHeap → (Cell → AHeap → Prop) → Prop
  | .lst es, ρ, h, Q => WpEs C es ρ h fun xs h1 => xs.length ≤ sizeLine ∧ Q (.lst xs) h1
  | .comp elt tg it cond own, ρ, h, Q => WpI C it ρ h fun xs chk h1 => xs.length ≤ sizeLine ∧ compL (fun x h2 R => tgK tg x (wipeS ρ own) fun ρ2 => WpC C cond ρ2 h2 fun k h3 => if k = true then WpE C false elt ρ2 h3 fun y h4 => R (some y) h4 else R none h3) chk xs [] h1 fun acc h2 => Q (.lst acc) h2
  | .slice a lo hi, ρ, h, Q => WpE C true a ρ h fun x h1 => WpO C lo ρ h1 fun l h2 => WpO C hi ρ h2 fun u h3 => match view h3 x with
    | some xs => Q (.lst (cut xs l u)) h3
    | none => False
  | .listOf a, ρ, h, Q => WpE C true a ρ h fun x h1 => match viewT h1 x with
    | some xs => Q (.lst xs) h1
    | none => match viewN h1 x with
      | some kvs => Q (.lst (kvs.map fun kv => nkA kv.1)) h1
      | none => False
  | .dctN0, _, h, Q => Q (.dctN []) h
  | .cat a b, ρ, h, Q => WpE C true a ρ h fun x h1 => WpE C true b ρ h1 fun y h2 => match viewW h2 x, viewW h2 y with
    | some xs, some ys => xs.length + ys.length ≤ sizeLine ∧ Q (.lst (xs ++ ys)) h2
    | _, _ => False
  | .rep a b, ρ, h, Q => WpE C true a ρ h fun x h1 => WpE C false b ρ h1 fun y h2 => match viewW h2 x, y with
    | some xs, .int k => (-(2 ^ 63) ≤ k ∧ k < 2 ^ 63) ∧ xs.length * k.toNat ≤ sizeLine ∧ Q (.lst (List.replicate k.toNat xs).flatten) h2
    | _, _ => False
  | .rev a, ρ, h, Q => WpE C true a ρ h fun x h1 => match view h1 x with
    | some xs => Q (.lst xs.reverse) h1
    | none => False
  | .dct1 k v, ρ, h, Q => WpE C false k ρ h fun x h1 => WpE C false v ρ h1 fun y h2 => match keyOf x with
    | some k => Q (.dct [(k, y)]) h2
    | none => False
  | .dctL es, ρ, h, Q => WpEs C es ρ h fun xs h1 => match pairsOf xs with
    | some ps => ps.length ≤ 15 ∧ ps ≠ [] ∧ Q (.dct (mergeA [] ps)) h1
    | none => False
  | .split o a, ρ, h, Q => WpE C false o ρ h fun x h1 => match x with
    | .str z => WpE C false a ρ h1 fun y h2 => match y with
      | .str s => (s.length == 0) = false ∧ z.length + 2 ≤ sizeLine ∧ Q (.lst ((Txt.split z s).map .str)) h2
      | _ => False
    | _ => False
  | .dct0, _, h, Q => Q (.dct []) h
  | .dictOf a, ρ, h, Q => WpE C false a ρ h fun x h1 => match viewD h1 x with
    | some kvs => Q (.dct kvs) h1
    | none => False
  | .sorted a, ρ, h, Q => WpE C false a ρ h fun x h1 => match (view h1 x).bind asInts with
    | some ns => ∀ ns' : List Int, ns'.Perm ns → ns'.Pairwise (· ≤ ·) → Q (.lst (ns'.map .int)) h1
    | none => False
  | .rngL a b, ρ, h, Q => WpE C false a ρ h fun x h1 => WpE C false b ρ h1 fun y h2 => match x, y with
    | .int i, .int n => (n - i).toNat ≤ 16777216 ∧ Q (.lst ((List.range (n - i).toNat).map fun (k : Nat) => .int (i + (k : Int)))) h2
    | _, _ => False
/-- what is walked: the items; what must stay so while they are -/
def WpI (C : Ctx) : It → Env → AHeap → (List AV → (AHeap → Prop) → AHeap → Prop) → Prop
  | .rng1 a, ρ, h, Q => WpE C false a ρ h fun x h1 => match x with
    | .int n => (-(2 ^ 62) ≤ n ∧ n < 2 ^ 62) ∧ Q ((List.range n.toNat).map fun (k : Nat) => .int (k : Int)) (fun _ => True) h1
    | _ => False
  | .rvR a, ρ, h, Q => WpE C false a ρ h fun x h1 => match x with
    | .int n => (-(2 ^ 62) ≤ n ∧ n < 2 ^ 62) ∧ Q ((List.range n.toNat).map fun (k : Nat) => .int (n - 1 - (k : Int))) (fun _ => True) h1
    | _ => False
  | .rng2 a b, ρ, h, Q => WpE C false a ρ h fun x h1 => WpE C false b ρ h1 fun y h2 => match x, y with
    | .int i, .int n => (n ≤ i ∨ (-(2 ^ 62) ≤ i ∧ i < 2 ^ 62 ∧ -(2 ^ 62) ≤ n ∧ n < 2 ^ 62)) ∧ Q ((List.range (n - i).toNat).map fun (k : Nat) => .int (i + (k : Int))) (fun _ => True) h2
    | _, _ => False
  | .own i, ρ, h, Q => match getS ρ i with
    | .own (.lst xs) => Q xs (fun _ => True) h
    | _ => False
  | .seq a, ρ, h, Q => WpE C false a ρ h fun x h1 => match viewT h1 x with
    | some xs => Q xs (fun h' => viewT h' x = some xs) h1
    | none => False
  | .chars a, ρ, h, Q => WpE C false a ρ h fun x h1 => match x with
    | .str z => Q (z.cps.toList.map fun c => .str ⟨#[c]⟩) (fun _ => True) h1
    | _ => False
  | .keys a, ρ, h, Q => WpE C false a ρ h fun x h1 => match x with
    | .dct kvs => Q (kvs.map fun kv => keyA kv.1) (fun _ => True) h1
    | _ => False
  | .zip a b, ρ, h, Q => WpE C false a ρ h fun x h1 => WpE C false b ρ h1 fun y h2 => match zs x, zs y with
    | some xs, some ys => Q ((xs.zip ys).map fun p => .tup [p.1, p.2]) (fun _ => True) h2
    | _, _ => False
def WpC (C : Ctx) : Oe → Env → AHeap → (Bool → AHeap → Prop) → Prop
  | .no, _, h, Q => Q true h
  | .so e, ρ, h, Q => WpT C e ρ h Q
/-- a test -/
def WpT (C : Ctx) : E → Env → AHeap → (Bool → AHeap → Prop) → Prop
  | .and a b, ρ, h, Q => WpT C a ρ h fun k h1 => if k = true then WpT C b ρ h1 Q else Q false h1
  | .or a b, ρ, h, Q => WpT C a ρ h fun k h1 => if k = true then Q true h1 else WpT C b ρ h1 Q
  | .not a, ρ, h, Q => WpT C a ρ h fun k h1 => Q (!k) h1
  | .cmp op a b, ρ, h, Q => WpE C true a ρ h fun x h1 => WpE C true b ρ h1 fun y h2 => cmpK h2 op x y fun z => match z with
    | .bl k => Q k h2
    | _ => False
  | .chain o1 o2 a b c, ρ, h, Q => WpE C false a ρ h fun x h1 => WpE C false b ρ h1 fun y h2 => cmpK h2 o1 x y fun z => match z with
    | .bl true => WpE C false c ρ h2 fun w h3 => cmpK h3 o2 y w fun z => match z with
      | .bl k => Q k h3
      | _ => False
    | .bl false => Q false h2
    | _ => False
  | .cbl b, _, h, Q => Q b h
  | .gIn neg a g, ρ, h, Q => WpE C false a ρ h fun x h1 => gInK (C.gdct g) neg x fun k => Q k h1
  | .tru e, ρ, h, Q => WpE C false e ρ h fun x h1 => truK h1 x fun k => Q k h1
  | _, _, _, _ => False
end

/-! ### statements -/
structure Kt where
  nx : Env → AHeap → Prop
  rt : AV → AHeap → Prop
  bk : Env → AHeap → Prop := fun _ _ => False
  ct : Env → AHeap → Prop := fun _ _ => False
  ex : Nat → Int → AHeap → Prop := fun _ _ _ => False
def forL (B : AV → Kt → Env → AHeap → Prop) (chk : AHeap → Prop) (D : Kt) : List AV → Env → AHeap → Prop
  | [], ρ, h => chk h ∧ D.nx ρ h
  | x :: xs, ρ, h => chk h ∧ B x { D with nx := forL B chk D xs, ct := forL B chk D xs, bk := D.nx } ρ h
def whL (T : Env → AHeap → (Bool → AHeap → Prop) → Prop) (B : Kt → Env → AHeap → Prop) (D : Kt) (ρ : Env) (h : AHeap) : Prop :=
  ∃ W : Nat → Env → AHeap → Prop, (∃ m, W m ρ h) ∧ ∀ m ρ h, W m ρ h → T ρ h fun b h1 =>
    if b = true then B { D with nx := fun ρ' h' => ∃ m', m' < m ∧ W m' ρ' h', ct := fun ρ' h' => ∃ m', m' < m ∧ W m' ρ' h', bk := D.nx } ρ h1 else D.nx ρ h1
def putFA (f : Str) (v : AV) : List (Str × AV) → List (Str × AV)
  | [] => [(f, v)]
  | (g, u) :: r => if g = f then (g, v) :: r else (g, u) :: putFA f v r
/-- a cell's item stored: o[k] = d -/
def putC (c : Cell) (k d : AV) (Q : Cell → Prop) : Prop :=
  match c with
  | .lst xs => match k with
    | .int i => match ixN xs.length i with
      | some j => Q (.lst (xs.set j d))
      | none => False
    | _ => False
  | .dct kvs => match keyOf k with
    | some k => kvs.length < 100000 ∧ Q (.dct (putD kvs k d))
    | none => False
  | .dctN kvs => match nkOf k with
    | some k => kvs.length < 100000 ∧ Q (.dctN (putNK kvs k d))
    | none => False
  | _ => False
def appC (c : Cell) (d : AV) (Q : Cell → Prop) : Prop :=
  match c with
  | .lst xs => xs.length < sizeLine ∧ Q (.lst (xs ++ [d]))
  | _ => False
def augK (op : Operator) (x y : AV) (Q : KA) : Prop :=
  match op, x, y with
  | .Add, .int i, .int j => Q (.int (i + j))
  | .Sub, .int i, .int j => Q (.int (i - j))
  | _, _, _ => False
mutual
def WpS (C : Ctx) : S → Kt → Env → AHeap → Prop
  | .asg tg e, D, ρ, h => WpE C false e ρ h fun x h1 => tgK tg x ρ fun ρ' => D.nx ρ' h1
  | .asgO i n, D, ρ, h => WpN C n ρ h fun c h1 => D.nx (setS ρ i (.own c)) h1
  | .frz i, D, ρ, h => match getS ρ i with
    | .own (.lst xs) => D.nx (setS ρ i (.val (.lst xs))) h
    | .own (.dct xs) => D.nx (setS ρ i (.val (.dct xs))) h
    | _ => False
  | .par3 i j l a b c, D, ρ, h => WpE C false a ρ h fun x h1 => WpE C false b ρ h1 fun y h2 => WpE C false c ρ h2 fun z h3 => D.nx (setS (setS (setS ρ i (.val x)) j (.val y)) l (.val z)) h3
  | .par i j a b, D, ρ, h => WpE C false a ρ h fun x h1 => WpE C false b ρ h1 fun y h2 => D.nx (setS (setS ρ i (.val x)) j (.val y)) h2
  | .aug i op e, D, ρ, h => match getS ρ i with
    | .val x => WpE C false e ρ h fun y h1 => augK op x y fun z => D.nx (setS ρ i (.val z)) h1
    | _ => False
  | .app i e, D, ρ, h => match getS ρ i with
    | .own (.lst xs) => WpE C false e ρ h fun d h1 => xs.length < sizeLine ∧ D.nx (setS ρ i (.own (.lst (xs ++ [d])))) h1
    | _ => False
  | .appE o e, D, ρ, h => WpE C false o ρ h fun x h1 => match x with
    | .adr n => match cells h1 n with
      | .lst _ => WpE C false e ρ h1 fun d h2 => appC (cells h2 n) d fun c' => D.nx ρ (h2.set n c')
      | _ => False
    | _ => False
  | .ext i e, D, ρ, h => match getS ρ i with
    | .own (.lst xs) => WpE C true e ρ h fun d h1 => match viewE h1 d with
      | some ys => xs.length + ys.length ≤ sizeLine ∧ D.nx (setS ρ i (.own (.lst (xs ++ ys)))) h1
      | none => False
    | _ => False
  | .extE o e, D, ρ, h => WpE C false o ρ h fun x h1 => match x with
    | .adr n => match cells h1 n with
      | .lst _ => WpE C true e ρ h1 fun d h2 => match cells h2 n with
        | .lst xs => match viewE h2 d with
          | some ys => xs.length + ys.length ≤ sizeLine ∧ D.nx ρ (h2.set n (.lst (xs ++ ys)))
          | none => False
        | _ => False
      | _ => False
    | _ => False
  | .rem i e, D, ρ, h => match getS ρ i with
    | .own (.lst xs) => WpE C false e ρ h fun d h1 => flatA d = true ∧ xs.all flatA = true ∧ match xs.findIdx? (fun z => eqF z d) with
      | some j => D.nx (setS ρ i (.own (.lst (xs.eraseIdx j)))) h1
      | none => False
    | _ => False
  | .popS i, D, ρ, h => match getS ρ i with
    | .own (.lst xs) => xs ≠ [] ∧ D.nx (setS ρ i (.own (.lst xs.dropLast))) h
    | _ => False
  | .popA tg i, D, ρ, h => match getS ρ i with
    | .own (.lst xs) => match xs.getLast? with
      | some d => tgK tg d (setS ρ i (.own (.lst xs.dropLast))) fun ρ' => D.nx ρ' h
      | none => False
    | _ => False
  | .put i k e, D, ρ, h => match getS ρ i with
    | .own c => WpE C false e ρ h fun d h1 => WpE C false k ρ h1 fun y h2 => putC c y d fun c' => D.nx (setS ρ i (.own c')) h2
    | _ => False
  | .putE o k e, D, ρ, h => WpE C false e ρ h fun d h1 => WpE C false o ρ h1 fun x h2 => WpE C false k ρ h2 fun y h3 => match x with
    | .adr n => putC (cells h3 n) y d fun c' => D.nx ρ (h3.set n c')
    | _ => False
  | .fld o f e, D, ρ, h => WpE C false e ρ h fun d h1 => WpE C false o ρ h1 fun x h2 => match x with
    | .adr n => match cells h2 n with
      | .obj c fs => C.fld c f = true ∧ fs.length < 1000 ∧ D.nx ρ (h2.set n (.obj c (putFA f d fs)))
      | _ => False
    | _ => False
  | .expr e, D, ρ, h => WpE C false e ρ h fun _ h1 => D.nx ρ h1
  | .ret e, D, ρ, h => WpE C false e ρ h fun d h1 => D.rt d h1
  | .retN, D, _, h => D.rt .non h
  | .ite c a b, D, ρ, h => WpT C c ρ h fun k h1 => if k = true then WpSs C a D ρ h1 else WpSs C b D ρ h1
  | .wh c b, D, ρ, h => whL (WpT C c) (WpSs C b) D ρ h
  | .for tg it b, D, ρ, h => WpI C it ρ h fun xs chk h1 => forL (fun x D ρ h => tgK tg x ρ fun ρ' => WpSs C b D ρ' h) chk D xs ρ h1
  | .pass, D, ρ, h => D.nx ρ h
  | .brk, D, ρ, h => D.bk ρ h
  | .cont, D, ρ, h => D.ct ρ h
  | .bad, _, _, _ => False
  | .rse c e, D, ρ, h => WpE C false e ρ h fun x h1 => match x with
    | .int n => D.ex c n h1
    | _ => False
def WpSs (C : Ctx) : Ss → Kt → Env → AHeap → Prop
  | .nil, D, ρ, h => D.nx ρ h
  | .cons s r, D, ρ, h => WpS C s { D with nx := WpSs C r D } ρ h
end

/-! ### a program -/
structure Fn where
  np : Nat
  ns : Nat
  body : Ss
/-! a def that tries a call: what the clause tells of the exception -/
inductive HB where
  | isC (c : Nat) | isT (cs : List Nat) | isVE | row
  | and (a b : HB) | or (a b : HB) | not (a : HB)
inductive HE where
  | non | bl (b : Bool) | row | hb (b : HB) | pair (s : Str)
inductive AT where
  | v (i : Nat) | s (z : Str)
structure TryF where
  g : Nat
  np : Nat
  ns : Nat
  args : List AT
  c : Nat
  i : Nat
  ok : Option (Option Str)
  gs : List (HB × HE)
  fin : Option HE
  aft : Option AV
structure Prg where
  fns : List (Nat × Fn)
  glob : List (Nat × AV) := []
  meth : List ((Nat × Str) × Nat) := []
  prps : List ((Nat × Str) × Nat) := []
  init : List (Nat × Nat) := []
  flds : List (Nat × Str) := []
  gdct : List (Nat × List (Str × Int)) := []
  tryf : List (Nat × TryF) := []
  sub : List ((Nat × Nat) × Bool) := []
def startS (F : Fn) (args : List AV) : Env := args.map .val ++ List.replicate (F.ns - args.length) .no
def ctxOf (P : Prg) (call : Nat → List AV → AHeap → (AV → AHeap → Prop) → Prop) : Ctx where
  glob g := P.glob.lookup g
  call := call
  meth c m := P.meth.lookup (c, m)
  prp c f := P.prps.lookup (c, f)
  init c := P.init.lookup c
  fld c f := P.flds.contains (c, f)
  gdct g := P.gdct.lookup g
/-- what the clause's tests say of an exception of the class c -/
def hbV (P : Prg) (c : Nat) : HB → Option Bool
  | .isC d => P.sub.lookup (c, d)
  | .isT ds => anyT P c ds
  | .isVE => some true
  | .row => some false
  | .and a b => match hbV P c a with
    | some true => hbV P c b
    | some false => some false
    | none => none
  | .or a b => match hbV P c a with
    | some true => some true
    | some false => hbV P c b
    | none => none
  | .not a => (hbV P c a).map (!·)
where anyT (P : Prg) (c : Nat) : List Nat → Option Bool
  | [] => some false
  | d :: r => match P.sub.lookup (c, d) with
    | some true => some true
    | some false => anyT P c r
    | none => none
def heV (P : Prg) (c : Nat) (n : Int) : HE → Option AV
  | .non => some .non
  | .bl b => some (.bl b)
  | .row => some (.int n)
  | .hb b => (hbV P c b).map .bl
  | .pair s => some (.tup [.str s, .int n])
def gsV (P : Prg) (c : Nat) (n : Int) (t : TryF) : List (HB × HE) → Option AV
  | [] => match t.fin with
    | some e => heV P c n e
    | none => t.aft
  | (b, e) :: r => match hbV P c b with
    | some true => heV P c n e
    | some false => gsV P c n t r
    | none => none
/-- what the clause returns -/
def tryV (P : Prg) (c : Nat) (n : Int) (t : TryF) : Option AV := match P.sub.lookup (c, t.c) with
  | some true => gsV P c n t t.gs
  | _ => none
def okV (t : TryF) (v : AV) : Option AV := match t.ok with
  | none => t.aft
  | some none => some v
  | some (some s) => some (.tup [.str s, v])
def argV (ds : List AV) : List AT → Option (List AV)
  | [] => some []
  | .v i :: r => match ds[i]?, argV ds r with
    | some d, some xs => some (d :: xs)
    | _, _ => none
  | .s z :: r => (argV ds r).map (.str z :: ·)
def bodyW (P : Prg) (rec : Nat → List AV → AHeap → (AV → AHeap → Prop) → Prop) (g : Nat) (args : List AV) (h : AHeap) (Q : AV → AHeap → Prop) (E : Nat → Int → AHeap → Prop) : Prop :=
  match P.fns.lookup g with
  | none => False
  | some F => args.length = F.np ∧ WpSs (ctxOf P rec) F.body { nx := fun _ h => Q .non h, rt := Q, ex := E } (startS F args) h
def tryW (P : Prg) (rec : Nat → List AV → AHeap → (AV → AHeap → Prop) → Prop) (t : TryF) (args : List AV) (h : AHeap) (Q : AV → AHeap → Prop) : Prop :=
  args.length = t.np ∧ match argV args t.args with
    | some xs => bodyW P rec t.g xs h (fun v h2 => match okV t v with
      | some d => Q d h2
      | none => False) (fun c n h2 => match tryV P c n t with
      | some d => Q d h2
      | none => False)
    | none => False
def callN (P : Prg) : Nat → Nat → List AV → AHeap → (AV → AHeap → Prop) → Prop
  | 0, _, _, _, _ => False
  | n + 1, f, args, h, Q => match P.fns.lookup f with
    | none => match P.tryf.lookup f with
      | some t => tryW P (callN P n) t args h Q
      | none => False
    | some F => args.length = F.np ∧ WpSs (ctxOf P (callN P n)) F.body { nx := fun _ h => Q .non h, rt := Q } (startS F args) h
end VL

set_option maxRecDepth 100000
set_option maxHeartbeats 2000000
/-! VL: dicts whose keys are tuples of ints, or of ints and such tuples. -/
namespace VL
open PySem L2 PySem.Spec PyProof.Rows
section
variable {prog : Program} {w : World}
def itN (prog : Program) (w : World) (h : Heap) : NI → Value → Prop
  | .inl i, v => ∃ t, v = .int i t
  | .inr ks, v => ∃ b, v = .ref b ∧ IsTupleKey (intKind prog w) h ks b
inductive ItsN (prog : Program) (w : World) (h : Heap) : NK → List Value → Prop
  | nil : ItsN prog w h [] []
  | cons {k : NI} {v : Value} {ks : NK} {vs : List Value} : itN prog w h k v → ItsN prog w h ks vs → ItsN prog w h (k :: ks) (v :: vs)
def IsNK (prog : Program) (w : World) (h : Heap) (ks : NK) (a : Addr) : Prop := ∃ o items n, h.get? a = some o ∧ o.cls = .type "tuple" ∧ o.data = .seq items n ∧ ItsN prog w h ks items.toList
def hashNI : NI → Int
  | .inl i => hashInt i
  | .inr ks => reduceHash (Builtin.Tuple.tupleHashOf (ks.map hashInt))
def hashNK (ks : NK) : Int := reduceHash (Builtin.Tuple.tupleHashOf (ks.map hashNI))
def drawNI : NI → Nat
  | .inl _ => 1
  | .inr ks => ks.length + 1
def drawNK (ks : NK) : Nat := (ks.map drawNI).sum + 1
theorem itN_inj {h : Heap} {a b : NI} {v : Value} (ha : itN prog w h a v) (hb : itN prog w h b v) : a = b := by
  cases a with
  | inl i =>
    obtain ⟨t, rfl⟩ := ha
    cases b with
    | inl j => obtain ⟨u, e⟩ := hb; cases e; rfl
    | inr ls => obtain ⟨c, e, _⟩ := hb; cases e
  | inr ks =>
    obtain ⟨c, rfl, hk⟩ := ha
    cases b with
    | inl j => obtain ⟨u, e⟩ := hb; cases e
    | inr ls =>
      obtain ⟨c', e, hl⟩ := hb
      cases e
      rw [hk.inj hl]
theorem ItsN.inj {h : Heap} : ∀ {x y : NK} {vs : List Value}, ItsN prog w h x vs → ItsN prog w h y vs → x = y
  | _, _, _, .nil, .nil => rfl
  | _, _, _, .cons a r, .cons b t => by rw [itN_inj a b, ItsN.inj r t]
theorem IsNK.typeIs {s : Shared} {ks : NK} {a : Addr} (x : IsNK prog w s.heap ks a) : s.TypeIs (.ref a) "tuple" := let ⟨o, _, _, ho, hc, _⟩ := x; ⟨o, ho, hc⟩
theorem IsNK.inj {h : Heap} {a : Addr} {x y : NK} (hx : IsNK prog w h x a) (hy : IsNK prog w h y a) : x = y := by
  obtain ⟨o, items, n, ho, _, hd, hi⟩ := hx
  obtain ⟨o', items', n', ho', _, hd', hi'⟩ := hy
  obtain rfl : o = o' := Option.some.inj (ho.symm.trans ho')
  rw [hd] at hd'
  injection hd' with h1 _
  subst h1
  exact hi.inj hi'
theorem ItsN.keeps {h h' : Heap} {d : Addr} {o : Obj} {es ep} (ho : h.get? d = some o) (hd : o.data = .dict es ep) (hs : Heap.SameBut d h h') : ∀ {ks : NK} {vs : List Value}, ItsN prog w h ks vs → ItsN prog w h' ks vs
  | _, _, .nil => .nil
  | .inl _ :: _, _, .cons a r => .cons a (ItsN.keeps ho hd hs r)
  | .inr _ :: _, _, .cons ⟨b, e, hk⟩ r => .cons ⟨b, e, hk.keeps ho hd hs⟩ (ItsN.keeps ho hd hs r)
theorem IsNK.keeps {h h' : Heap} {ks : NK} {a d : Addr} {o : Obj} {es ep} (x : IsNK prog w h ks a) (ho : h.get? d = some o) (hd : o.data = .dict es ep) (hs : Heap.SameBut d h h') :
    IsNK prog w h' ks a := by
  obtain ⟨o', items, n, ho', hc, hd', hi⟩ := x
  have hne : a ≠ d := by
    rintro rfl
    obtain rfl : o' = o := Option.some.inj (ho'.symm.trans ho)
    rw [hd] at hd'; exact nomatch hd'
  exact ⟨o', items, n, (hs.2 a hne).trans ho', hc, hd', hi.keeps ho hd hs⟩
variable {A : Around} {E : Value → Shared → Prop} {s : Shared}
theorem hash_item {k : NI} {v : Value} {Q : Int → Shared → Prop} (hu : A.units < cLine) (hk : itN prog w s.heap k v) (h : Q (hashNI k) { s with toks := s.toks + drawNI k }) : wpAny (model prog w) A (pyHash v) Q E s := by
  cases k with
  | inl i =>
    obtain ⟨t, rfl⟩ := hk
    exact wpAny_pyHash_int h
  | inr ks =>
    obtain ⟨b, rfl, hb⟩ := hk
    exact wpAny_pyHash_tuple hu hb h
theorem units_in1 (A : Around) : A.in1.units = A.units ∨ A.in1.units = A.units + 1 := by
  first | exact .inr rfl | exact .inl rfl
theorem hash_nk {ks : NK} {a : Addr} {Q : Int → Shared → Prop} (hu : A.units + 1 < cLine) (hk : IsNK prog w s.heap ks a) (h : Q (hashNK ks) { s with toks := s.toks + drawNK ks }) :
    wpAny (model prog w) A (pyHash (.ref a)) Q E s := by
  have hT := hk.typeIs
  have hu1 : A.in1.units < cLine := by rcases units_in1 A with e | e <;> omega
  obtain ⟨o, items, n, ho, _, hd, hi⟩ := hk
  unfold pyHash
  first | unfold pyHashByItsType | skip
  first | refine wpAny_bind (wpAny_cRoomFor_or (.inr (by omega)) ?_) | skip
  refine wpAny_bind (wpAny_specialOf hT PySem.F.slot_tuple_hash.lookup ?_)
  show wpAny _ _ (if (some (Value.builtin "tuple.__hash__") == some Value.none) = true then _ else _) Q E s
  rw [if_neg (by rw [beq_builtin_none]; exact Bool.false_ne_true)]
  refine wpAny_bind (wpAny_specialOf hT PySem.F.slot_tuple_hash.lookup ?_)
  show wpAny _ _ (callSpecialIfBoundUnlessNone? (.ref a) "__hash__" _ >>= _) Q E s
  refine wpAny_bind (wpAny_callSpecialIfBoundUnlessNone?_slot hT PySem.F.slot_tuple_hash (wpAny_call_entry PySem.F.slot_tuple_hash hT PySem.F.entry_tuple_hash ?_ (PySem.F.args_tuple_hash_1 _)))
  show wpAny _ _ (Builtin.Tuple.tupleItemsOf (.ref a) >>= _) _ _ s
  refine wpAny_bind (wpAny_tupleItemsOf ho hd ?_)
  refine wpAny_bind ?_
  rw [← Array.forIn_toList]
  refine wpAny_forIn_list _
    (fun rest (b : Array Int) s' => ∃ done left, ks = done ++ left ∧ ItsN prog w s.heap left rest ∧ b.toList = done.map hashNI ∧ s' = { s with toks := s.toks + (done.map drawNI).sum })
    _ ?_ ?_ _ _ ⟨[], ks, rfl, hi, rfl, rfl⟩
  · rintro x rest b s' ⟨done, left, rfl, hl, hb, rfl⟩
    cases hl with
    | @cons k _ ks' _ h1 hl' =>
      refine wpAny_bind (hash_item hu1 h1 ?_)
      first
        | exact wpAny_pure ⟨done ++ [k], ks', by simp, hl', by simp [hb], by simp [Nat.add_assoc]⟩
        | exact wpAny_bind (wpAny_pure (wpAny_pure ⟨done ++ [k], ks', by simp, hl', by simp [hb], by simp [Nat.add_assoc]⟩))
  · rintro b s' ⟨done, left, rfl, hl, hb, rfl⟩
    cases hl
    rw [List.append_nil] at h
    show wpAny _ _ (retInt (Builtin.Tuple.tupleHashOf b.toList)) _ _ _
    rw [hb]
    refine wpAny_ret_mkInt ?_
    show wpAny _ _ (if (decide (-(2 : Int) ^ 63 ≤ Builtin.Tuple.tupleHashOf (done.map hashNI)) && decide (Builtin.Tuple.tupleHashOf (done.map hashNI) < 2 ^ 63)) = true then _ else _) Q E _
    unfold hashNK reduceHash drawNK at h
    by_cases hr : (decide (-(2 : Int) ^ 63 ≤ Builtin.Tuple.tupleHashOf (done.map hashNI)) && decide (Builtin.Tuple.tupleHashOf (done.map hashNI) < 2 ^ 63)) = true
    · rw [if_pos hr]
      rw [if_pos hr] at h
      exact wpAny_pure (by simpa [Nat.add_assoc] using h)
    · rw [if_neg hr]
      rw [if_neg hr] at h
      exact wpAny_bind (wpAny_rule (wpAny_pure (by simpa [Nat.add_assoc] using h)))
theorem eq_item {a b : NI} {u v : Value} {Q : Bool → Shared → Prop} (hu : A.units < cLine) (ha : itN prog w s.heap a u) (hb : itN prog w s.heap b v) (h : Q (decide (a = b)) s) : wpAny (model prog w) A (eqBool u v) Q E s := by
  cases a with
  | inl i =>
    obtain ⟨t, rfl⟩ := ha
    cases b with
    | inl j =>
      obtain ⟨t', rfl⟩ := hb
      refine wpAny_eqBool_int ?_
      have e : (i == j) = decide ((Sum.inl i : NI) = Sum.inl j) := by
        by_cases c : i = j
        · subst c; simp
        · have c' : ¬ (Sum.inl i : NI) = Sum.inl j := fun z => c (Sum.inl.inj z)
          rw [decide_eq_false c']; exact beq_eq_false_iff_ne.mpr c
      rw [e]; exact h
    | inr ks =>
      obtain ⟨c, rfl, o, its, n, h1, h2, h3, _⟩ := hb
      have e : decide ((Sum.inl i : NI) = Sum.inr ks) = false := decide_eq_false (fun q => nomatch q)
      rw [e] at h
      exact SeqAt.EqAt.int_tuple i t (l := c) (items := its) ⟨o, h1, h2, n, h3⟩ hu _ _ _ _ h
  | inr ks =>
    obtain ⟨c, rfl, hk⟩ := ha
    cases b with
    | inl j =>
      obtain ⟨t', rfl⟩ := hb
      obtain ⟨o, its, n, h1, h2, h3, _⟩ := hk
      have e : decide ((Sum.inr ks : NI) = Sum.inl j) = false := decide_eq_false (fun q => nomatch q)
      rw [e] at h
      exact SeqAt.EqAt.tuple_int j t' (l := c) (items := its) ⟨o, h1, h2, n, h3⟩ hu _ _ _ _ h
    | inr ls =>
      obtain ⟨c', rfl, hl⟩ := hb
      refine wpAny_eqBool_tuple hu hk hl ?_
      have e : decide (ks = ls) = decide ((Sum.inr ks : NI) = Sum.inr ls) := by
        by_cases c : ks = ls
        · subst c; simp
        · have c' : ¬ (Sum.inr ks : NI) = Sum.inr ls := fun z => c (Sum.inr.inj z)
          rw [decide_eq_false c', decide_eq_false c]
      rw [e]; exact h
theorem ItsN.length {h : Heap} : ∀ {x : NK} {vs : List Value}, ItsN prog w h x vs → x.length = vs.length
  | _, _, .nil => rfl
  | _, _, .cons _ r => by simp [ItsN.length r]
theorem nk_eq_tree {x y : NK} {a b : Addr} {P : Fin → Shared → Prop} (hu : A.units < cLine) (hx : IsNK prog w s.heap x a) (hy : IsNK prog w s.heap y b) (h : P (.done (.ret (.bool (decide (x = y))))) s) :
    wpAny (model prog w) A (Builtin.«tuple.__eq__» ⟨[.ref a, .ref b], []⟩) P E s := by
  have hTb := hy.typeIs
  obtain ⟨oa, xs, na, hoa, _, hda, hia⟩ := hx
  obtain ⟨ob, ys, nb, hob, _, hdb, hib⟩ := hy
  show wpAny _ _ (isInstance (.ref b) (.type "tuple") >>= _) _ _ s
  refine wpAny_bind (wpAny_isInstance hTb isSubtype_tuple_tuple ?_)
  simp only [Bool.not_true, Bool.false_eq_true, if_false]
  refine wpAny_bind (wpAny_tupleItemsOf hoa hda ?_)
  refine wpAny_bind (wpAny_tupleItemsOf hob hdb ?_)
  refine wpAny_bind ?_
  refine wpAny_forIn_list _
    (fun rest r s' => r.1 = none ∧ s' = s ∧ ∃ x' y' xs' ys', rest = List.zip xs' ys' ∧ ItsN prog w s.heap x' xs' ∧ ItsN prog w s.heap y' ys' ∧ decide (x' = y') = decide (x = y) ∧ (xs'.length == ys'.length) = (xs.size == ys.size))
    _ ?_ ?_ _ _ ⟨rfl, rfl, x, y, xs.toList, ys.toList, rfl, hia, hib, rfl, by simp⟩
  · rintro ⟨u, v⟩ rest r s' ⟨hr, rfl, x', y', xs', ys', hz, hx', hy', hdec, hlen⟩
    cases hx' with
    | nil => simp at hz
    | @cons k1 u' x'' xs'' h1 hx'' =>
      cases hy' with
      | nil => simp at hz
      | @cons k2 v' y'' ys'' h2 hy'' =>
        simp only [List.zip_cons_cons, List.cons.injEq, Prod.mk.injEq] at hz
        obtain ⟨⟨rfl, rfl⟩, rfl⟩ := hz
        refine wpAny_bind (eq_item hu h1 h2 ?_)
        by_cases hk : k1 = k2
        · subst hk
          rw [decide_eq_true rfl]
          simp only [Bool.not_true, Bool.false_eq_true, if_false]
          refine wpAny_pure ⟨rfl, rfl, x'', y'', xs'', ys'', rfl, hx'', hy'', ?_, by simpa using hlen⟩
          rw [← hdec]
          by_cases hxy : x'' = y''
          · simp [hxy]
          · simp [hxy]
        · rw [decide_eq_false hk]
          simp only [Bool.not_false, if_true]
          have hf : decide (x = y) = false := by rw [← hdec]; simp [hk]
          rw [hf] at h
          exact wpAny_bind (wpAny_pure (wpAny_pure (wpAny_pure h)))
  · rintro ⟨r1, r2⟩ s' ⟨hr, rfl, x', y', xs', ys', hz, hx', hy', hdec, hlen⟩
    simp only at hr
    subst hr
    refine wpAny_pure ?_
    have hfin : (xs.size == ys.size) = decide (x = y) := by
      rw [← hdec, ← hlen]
      cases hx' with
      | nil =>
        cases hy' with
        | nil => simp
        | cons _ _ => simp
      | cons _ _ =>
        cases hy' with
        | nil => simp
        | cons _ _ => simp at hz
    show P (.done (.ret (.bool (xs.size == ys.size)))) s'
    rw [hfin]; exact h
theorem eq_nk {x y : NK} {a b : Addr} {Q : Bool → Shared → Prop} (hu : A.units + 1 < cLine) (hx : IsNK prog w s.heap x a) (hy : IsNK prog w s.heap y b) (h : Q (decide (x = y)) s) :
    wpAny (model prog w) A (eqBool (.ref a) (.ref b)) Q E s := by
  have hu1 : A.in1.units < cLine := by rcases units_in1 A with e | e <;> omega
  unfold eqBool
  try with_reducible refine wpAny_holding ?_
  show wpAny _ _ (if (Value.ref a == Value.ref b) = true then _ else _) Q E s
  by_cases hab : (Value.ref a == Value.ref b) = true
  · rw [if_pos hab]
    have e : a = b := by have := eq_of_beq hab; injection this
    subst e
    obtain rfl := hx.inj hy
    exact wpAny_bind (wpAny_rule (wpAny_pure (by simpa using h)))
  · rw [if_neg hab]
    exact wpAny_bind (wpAny_richCompare_same_room (op := .Eq) hx.typeIs hy.typeIs PySem.F.slot_tuple_eq
      (wpAny_call_entry PySem.F.slot_tuple_eq hx.typeIs PySem.F.entry_tuple_eq (nk_eq_tree hu1 hx hy ⟨_, rfl, (fun e => nomatch e), wpAny_truthy_bool h⟩) (PySem.F.args_tuple_eq_2 _ _)) (by omega))
theorem quiet_flat {n : Nat} {ks : List Int} {a : Addr} {Q : Bool → Shared → Prop} (hk : IsTupleKey (intKind prog w) s.heap ks a) (h : Q true s) : wpAny (model prog w) A (eqIsQuiet (n + 1) (.ref a)) Q E s := by
  have hT := hk.typeIs
  obtain ⟨o, items, m, ho, _, hd, hi⟩ := hk
  unfold eqIsQuiet
  refine wpAny_bind (wpAny_specialOf hT PySem.F.slot_tuple_eq.lookup ?_)
  show wpAny _ _ (isInstance (.ref a) (.type "tuple") >>= _) _ _ s
  refine wpAny_bind (wpAny_isInstance hT isSubtype_tuple_tuple ?_)
  simp only [Bool.not_true, Bool.false_eq_true, if_false]
  refine wpAny_bind (wpAny_seqItems ho hd ?_)
  refine wpAny_bind ?_
  show wpAny _ _ (forIn items _ _) _ _ s
  rw [← Array.forIn_toList]
  refine wpAny_forIn_list _ (fun rest r s' => r.1 = none ∧ s' = s ∧ ∀ v ∈ rest, carriedByValue v = true) _ ?_ ?_ _ _ ⟨rfl, rfl, hi.byValue⟩
  · rintro v rest r s' ⟨hr, rfl, hall⟩
    rw [eqIsQuiet_byValue _ (hall v List.mem_cons_self)]
    refine wpAny_bind (wpAny_pure ?_)
    simp only [Bool.not_true, Bool.false_eq_true, if_false]
    exact wpAny_pure ⟨rfl, rfl, fun u hu' => hall u (List.mem_cons_of_mem _ hu')⟩
  · rintro ⟨r1, r2⟩ s' ⟨hr, rfl, _⟩
    simp only at hr
    subst hr
    exact wpAny_pure h
theorem quiet_item {n : Nat} {k : NI} {v : Value} {Q : Bool → Shared → Prop} (hk : itN prog w s.heap k v) (h : Q true s) : wpAny (model prog w) A (eqIsQuiet (n + 1) v) Q E s := by
  cases k with
  | inl i =>
    obtain ⟨t, rfl⟩ := hk
    rw [eqIsQuiet_byValue _ rfl]
    exact wpAny_pure h
  | inr ks =>
    obtain ⟨b, rfl, hb⟩ := hk
    exact quiet_flat hb h
theorem quiet_nk {ks : NK} {a : Addr} {Q : Bool → Shared → Prop} (hk : IsNK prog w s.heap ks a) (h : Q true s) : wpAny (model prog w) A (eqIsQuiet 8 (.ref a)) Q E s := by
  have hT := hk.typeIs
  obtain ⟨o, items, m, ho, _, hd, hi⟩ := hk
  unfold eqIsQuiet
  refine wpAny_bind (wpAny_specialOf hT PySem.F.slot_tuple_eq.lookup ?_)
  show wpAny _ _ (isInstance (.ref a) (.type "tuple") >>= _) _ _ s
  refine wpAny_bind (wpAny_isInstance hT isSubtype_tuple_tuple ?_)
  simp only [Bool.not_true, Bool.false_eq_true, if_false]
  refine wpAny_bind (wpAny_seqItems ho hd ?_)
  refine wpAny_bind ?_
  show wpAny _ _ (forIn items _ _) _ _ s
  rw [← Array.forIn_toList]
  refine wpAny_forIn_list _ (fun rest r s' => r.1 = none ∧ s' = s ∧ ∃ left, ItsN prog w s.heap left rest) _ ?_ ?_ _ _ ⟨rfl, rfl, ks, hi⟩
  · rintro v rest r s' ⟨hr, rfl, left, hl⟩
    cases hl with
    | cons h1 hl' =>
      refine wpAny_bind (quiet_item (n := 6) h1 ?_)
      simp only [Bool.not_true, Bool.false_eq_true, if_false]
      exact wpAny_pure ⟨rfl, rfl, _, hl'⟩
  · rintro ⟨r1, r2⟩ s' ⟨hr, rfl, _⟩
    simp only at hr
    subst hr
    exact wpAny_pure h
end
def nkKind (prog : Program) (w : World) : HeapKind prog w NK where
  is := IsNK prog w
  hash := hashNK
  draws := drawNK
  room := fun A => A.units + 1 < cLine
  inj := fun hx hy => hx.inj hy
  keeps := fun x ho hd hs => x.keeps ho hd hs
  pyHash := fun hu hk h => hash_nk hu hk h
  eqBool := fun hu hx hy h => eq_nk hu hx hy h
  quiet := fun hk h => quiet_nk hk h
/-- the dict's entries as they stand -/
def PV (p : NK × Addr × V) (q : NK × Addr × Value) : Prop := p.1 = q.1 ∧ p.2.1 = q.2.1 ∧ RelV p.2.2 q.2.2
def enN (x : NK × Addr × Value) : DictEntry := ⟨hashNK x.1, .ref x.2.1, x.2.2⟩
def DN (d : Addr) (es : List (NK × Addr × V)) : Heap → Prop := fun h => es.length ≤ sizeLine ∧ (d == sysModules) = false ∧ ∃ xs : List (NK × Addr × Value), Paired PV es xs ∧
  ∃ o arr ep, h.get? d = some o ∧ o.ExactDict ∧ o.data = .dict arr ep ∧ arr.toList = xs.map enN ∧ (xs.map (·.1)).Nodup
theorem DN.stay {d : Addr} {es : List (NK × Addr × V)} {h1 h2 : Heap} (x : DN d es h1) (k : ∀ o, h1.get? d = some o → h2.get? d = some o) : DN d es h2 := by
  obtain ⟨a, b, xs, c, o, arr, ep, e, r⟩ := x
  exact ⟨a, b, xs, c, o, arr, ep, k o e, r⟩
/-- the tuple at b is this key -/
def itV (K : PySem.W.Frag) (H : Hp) : NI → V → Prop
  | .inl i, v => v = .int i
  | .inr ks, v => ∃ b, v = .ref b ∧ SqT K H b (ks.map V.int)
def KeyN (K : PySem.W.Frag) (H : Hp) (ks : NK) (b : Addr) : Prop := ∃ vs, SqT K H b vs ∧ Paired (itV K H) ks vs
theorem itV.mono {K : PySem.W.Frag} {F H : Hp} (e : ∀ b vs, SqT K F b vs → SqT K H b vs) : ∀ {k : NI} {v : V}, itV K F k v → itV K H k v
  | .inl _, _, h => h
  | .inr _, _, ⟨b, h, q⟩ => ⟨b, h, e _ _ q⟩
theorem KeyN.mono {K : PySem.W.Frag} {F H : Hp} (e : ∀ b vs, SqT K F b vs → SqT K H b vs) {ks : NK} {b : Addr} (h : KeyN K F ks b) : KeyN K H ks b := by
  obtain ⟨vs, h1, h2⟩ := h
  exact ⟨vs, e _ _ h1, Paired.mapP h2 fun _ _ q => itV.mono e q⟩
section
variable {X : Cx} {pins : List (Addr × Obj)} {σ : L2.St} {H : Hp} {s : Shared}
theorem flat_items {P : Program} {w : World} : ∀ {ks : List Int} {us : List Value}, Vals (ks.map V.int) us → ItemsAre (intKind P w) ks us
  | [], _, r => by rw [List.map_nil] at r; cases r; exact .nil
  | k :: ks, _, r => by
    rw [List.map_cons] at r
    cases r with
    | cons h t =>
      obtain ⟨t', rfl⟩ := h
      exact .cons (intKind_is P w k t') (flat_items t)
theorem keyN_is (I : Inv X pins σ H s) {ks : NK} {b : Addr} (h : KeyN X.K H ks b) : IsNK X.prog X.w s.heap ks b := by
  obtain ⟨vs, hb, hp⟩ := h
  obtain ⟨its, r, ⟨o, e, c, n, d⟩, hz⟩ := I.tuple hb
  refine ⟨o, its.toArray, n, e, c, d, ?_⟩
  show ItsN X.prog X.w s.heap ks its
  clear hb e d hz
  induction hp generalizing its with
  | nil => cases r; exact .nil
  | @cons k v ks vs h t ih =>
    cases r with
    | cons r1 r2 =>
      refine .cons ?_ (ih _ r2)
      cases k with
      | inl i =>
        have h : v = .int i := h
        subst h
        exact r1
      | inr ls =>
        obtain ⟨b', rfl, hq⟩ := h
        obtain ⟨its', r', ⟨o', e', c', n', d'⟩, _⟩ := I.tuple hq
        exact ⟨b', r1, o', its'.toArray, n', e', c', d', by simpa using flat_items r'⟩
/-- values by keys -/
def valN (es : List (NK × Addr × V)) (k : NK) : Option V := (es.find? fun x => decide (x.1 = k)).map (·.2.2)
def putN (es : List (NK × Addr × V)) (k : NK) (b : Addr) (v : V) : List (NK × Addr × V) :=
  if (es.any fun x => decide (x.1 = k)) = true then es.map (fun x => if x.1 = k then (x.1, x.2.1, v) else x) else es ++ [(k, b, v)]
theorem pv_val {es : List (NK × Addr × V)} {xs : List (NK × Addr × Value)} (r : Paired PV es xs) (k : NK) : RelO (valN es k) ((atKey xs k).map (·.2)) := by
  induction r with
  | nil => exact True.intro
  | @cons p q ps qs h t ih =>
    obtain ⟨h1, _, h2⟩ := h
    by_cases e : p.1 = k
    · have e' : q.1 = k := h1.symm.trans e
      have b : atKey (q :: qs) k = some q.2 := by simp [atKey, List.find?_cons, e']
      have c : valN (p :: ps) k = some p.2.2 := by simp [valN, List.find?_cons, e]
      rw [c, b]; exact h2
    · have e' : ¬ q.1 = k := fun z => e (h1.trans z)
      have b : atKey (q :: qs) k = atKey qs k := by simp [atKey, List.find?_cons, e']
      have c : valN (p :: ps) k = valN ps k := by simp [valN, List.find?_cons, e]
      rw [c, b]; exact ih
theorem pv_any {es : List (NK × Addr × V)} {xs : List (NK × Addr × Value)} (r : Paired PV es xs) (k : NK) : (es.any fun x => decide (x.1 = k)) = (atKey xs k).isSome := by
  induction r with
  | nil => rfl
  | @cons p q ps qs h t ih =>
    obtain ⟨h1, _, h2⟩ := h
    rw [List.any_cons, ih]
    by_cases e : p.1 = k
    · have e' : q.1 = k := h1.symm.trans e
      simp [atKey, List.find?_cons, e', e]
    · have e' : ¬ q.1 = k := fun z => e (h1.trans z)
      simp [atKey, List.find?_cons, e', e]
theorem pv_put {es : List (NK × Addr × V)} {xs : List (NK × Addr × Value)} (r : Paired PV es xs) (k : NK) (b : Addr) {v : V} {u : Value} (rv : RelV v u) : Paired PV (putN es k b v) (storedH xs k b u) := by
  unfold putN storedH
  rw [pv_any r k]
  by_cases q : (atKey xs k).isSome = true
  · rw [if_pos q, if_pos q]
    clear q
    induction r with
    | nil => exact .nil
    | @cons p q ps qs h t ih =>
      rw [List.map_cons, List.map_cons]
      refine .cons ?_ ih
      obtain ⟨h1, h2, h3⟩ := h
      unfold putAt
      by_cases e : p.1 = k
      · rw [if_pos e, if_pos (h1.symm.trans e)]; exact ⟨h1, h2, rv⟩
      · rw [if_neg e, if_neg (fun z => e (h1.trans z))]; exact ⟨h1, h2, h3⟩
  · rw [if_neg q, if_neg q]; exact Paired.snoc r ⟨rfl, rfl, rv⟩
theorem putN_len (es : List (NK × Addr × V)) (k : NK) (b : Addr) (v : V) : (putN es k b v).length ≤ es.length + 1 := by
  unfold putN
  split
  · simp
  · simp
theorem dn_ok {a : Addr} {es : List (NK × Addr × V)} (I : Inv X pins σ H s) (e : H a = some (.ext (DN a es))) (hk : ∀ x ∈ es, KeyN X.K H x.1 x.2.1) :
    es.length ≤ sizeLine ∧ (a == sysModules) = false ∧ ∃ xs, Paired PV es xs ∧ s.heap.DictOfH (nkKind X.prog X.w) a xs := by
  obtain ⟨⟨z, hd, xs, r, o, arr, ep, h1, h2, h3, h4, h5⟩, g1, g2⟩ := (show ObjOk X.prog X.w H s.heap a (.ext (DN a es)) from I.hok a _ e)
  refine ⟨z, hd, xs, r, o, arr, ep, h1, h2, h3, h4, ?_, h5⟩
  clear h4 h5 z e g1 g2
  induction r with
  | nil => intro x m; cases m
  | @cons p q ps qs h t ih =>
    intro x m
    rcases List.mem_cons.mp m with rfl | m
    · have := keyN_is I (hk p (by simp))
      rw [h.1, h.2.1] at this
      exact this
    · exact ih (fun y my => hk y (by simp [my])) x m
theorem dn_of {d : Addr} {es : List (NK × Addr × V)} {xs : List (NK × Addr × Value)} {h : Heap} {P : Program} {w : World} {H : Hp} (z : es.length ≤ sizeLine) (hd : (d == sysModules) = false) (r : Paired PV es xs) (dd : h.DictOfH (nkKind P w) d xs) : ObjOk P w H h d (.ext (DN d es)) := by
  obtain ⟨o, arr, ep, h1, h2, h3, h4, _, h5⟩ := dd
  exact ⟨⟨z, hd, xs, r, o, arr, ep, h1, h2, h3, h4, h5⟩, ⟨o, h1⟩, fun _ _ x k => x.stay k⟩
theorem n_getItem {A : Around} {E Q : Value → Shared → Prop} {a b : Addr} {es : List (NK × Addr × V)} {k : NK} {v : V} (hu : A.units + 2 < cLine) (I : Inv X pins σ H s) (e : H a = some (.ext (DN a es))) (hk : ∀ x ∈ es, KeyN X.K H x.1 x.2.1)
    (kb : KeyN X.K H k b) (hv : valN es k = some v) (h : ∀ w' s', Inv X pins σ H s' → RelV v w' → Q w' s') : wpAny (model X.prog X.w) A (getItem (.ref a) (.ref b)) Q E s := by
  have hu1 : A.in1.units + 1 < cLine := by rcases units_in1 A with q | q <;> omega
  obtain ⟨z, hd, xs, r, dd⟩ := dn_ok I e hk
  obtain ⟨w', hw, rw'⟩ := RelO.some_of (v := v) (o := (atKey xs k).map (·.2)) (by rw [← hv]; exact pv_val r k)
  obtain ⟨p, hp, hp2⟩ := Option.map_eq_some_iff.mp hw
  refine wpAny_getItem_heap hu1 (keyN_is I kb) dd hp ?_
  rw [hp2]
  exact h w' _ (I.tok _) rw'
theorem n_in {A : Around} {E Q : Value → Shared → Prop} {a b : Addr} {es : List (NK × Addr × V)} {k : NK} (hu : A.units + 2 < cLine) (I : Inv X pins σ H s) (e : H a = some (.ext (DN a es))) (hk : ∀ x ∈ es, KeyN X.K H x.1 x.2.1)
    (kb : KeyN X.K H k b) (h : ∀ s', Inv X pins σ H s' → Q (.bool (valN es k).isSome) s') : wpAny (model X.prog X.w) A (compareOp .In (.ref b) (.ref a)) Q E s := by
  have hu1 : A.in1.units + 1 < cLine := by rcases units_in1 A with q | q <;> omega
  obtain ⟨z, hd, xs, r, dd⟩ := dn_ok I e hk
  refine wpAny_in_heap hu1 (keyN_is I kb) hd dd ?_
  have q := (pv_val r k).isSome_eq
  rw [Option.isSome_map] at q
  rw [← q]
  exact h _ (I.tok _)
theorem n_notIn {A : Around} {E Q : Value → Shared → Prop} {a b : Addr} {es : List (NK × Addr × V)} {k : NK} (hu : A.units + 2 < cLine) (I : Inv X pins σ H s) (e : H a = some (.ext (DN a es))) (hk : ∀ x ∈ es, KeyN X.K H x.1 x.2.1)
    (kb : KeyN X.K H k b) (h : ∀ s', Inv X pins σ H s' → Q (.bool (!(valN es k).isSome)) s') : wpAny (model X.prog X.w) A (compareOp .NotIn (.ref b) (.ref a)) Q E s := by
  have hu1 : A.in1.units + 1 < cLine := by rcases units_in1 A with q | q <;> omega
  obtain ⟨z, hd, xs, r, dd⟩ := dn_ok I e hk
  refine wpAny_notIn_heap hu1 (keyN_is I kb) hd dd ?_
  have q := (pv_val r k).isSome_eq
  rw [Option.isSome_map] at q
  rw [← q]
  exact h _ (I.tok _)
theorem n_setItem {A : Around} {E : Value → Shared → Prop} {Q : Unit → Shared → Prop} {a b : Addr} {es : List (NK × Addr × V)} {k : NK} {v : V} {u : Value} (hu : A.units + 2 < cLine) (I : Inv X pins σ H s) (e : H a = some (.ext (DN a es))) (hk : ∀ x ∈ es, KeyN X.K H x.1 x.2.1)
    (kb : KeyN X.K H k b) (hl : es.length < sizeLine) (rv : RelV v u) (h : ∀ s', Inv X pins σ (upd H a (.ext (DN a (putN es k b v)))) s' → Q () s') : wpAny (model X.prog X.w) A (setItem (.ref a) (.ref b) u) Q E s := by
  have hu1 : A.in1.units + 1 < cLine := by rcases units_in1 A with q | q <;> omega
  obtain ⟨z, hd, xs, r, dd⟩ := dn_ok I e hk
  have hz : xs.length ≤ sizeLine := by rw [← Paired.length r]; exact z
  have hl : (putN es k b v).length ≤ sizeLine := by have := putN_len es k b v; omega
  refine wpAny_setItem_heap (hsz := hz) hu1 (keyN_is I kb) dd fun h' dd' hs => h _ ?_
  obtain ⟨q, arr, ep, hq, h2, h3, h4, hh, h5⟩ := id dd'
  exact d_write I (by rw [e]; exact True.intro) hs ⟨q, hq⟩ (dn_of hl hd (pv_put r k b rv) dd')
theorem dn_empty {P : Program} {w : World} {H : Hp} (h : Heap) (hb : sysModules < h.objs.size) : ObjOk P w H (h.push { cls := .type "dict", data := .dict #[] }) h.objs.size (.ext (DN h.objs.size [])) :=
  ⟨⟨Nat.zero_le _, beq_eq_false_iff_ne.mpr (Ne.symm (Nat.ne_of_lt hb)), [], .nil, _, #[], 0, Heap.get?_push_size _ rfl, ⟨rfl, rfl, rfl⟩, rfl, rfl, List.nodup_nil⟩, ⟨_, Heap.get?_push_size _ rfl⟩, fun _ _ x k => x.stay k⟩
theorem pe_dnewN {pos : Pos} : PE X (.Dict [] [] pos) (fun _ H Q => ∀ p, H p = none → Q (.ref p) (upd H p (.ext (DN p [])))) := ⟨fun pins s σ H Q I h =>
  wpAny_Dict_empty ⟨.ref s.heap.objs.size, _, I.laid (a := s.heap.objs.size) (o := .ext (DN s.heap.objs.size [])) (t' := s.toks) (fun _ _ q => Heap.get?_push_of_some _ q) (Nat.le_refl _) (dn_empty s.heap I.big), rfl, h _ (I.hok.fresh (Nat.le_refl _))⟩⟩
theorem pv_refs {es : List (NK × Addr × V)} {xs : List (NK × Addr × Value)} (r : Paired PV es xs) : Vals (es.map fun x => V.ref x.2.1) (xs.map fun x => Value.ref x.2.1) := by
  induction r with
  | nil => exact .nil
  | cons h t ih => exact .cons (by show Value.ref _ = Value.ref _; rw [h.2.1]) ih
theorem call_list_dN (hc : X.calm = true) : CallR X (.type "list") (fun xs H Q => ∃ d es, xs = [V.ref d] ∧ H d = some (.ext (DN d es)) ∧ ∀ p, H p = none → Q (.ref p) (upd H p (.lst (es.map fun x => V.ref x.2.1)))) := by
  intro pins s σ H xs us Q I r h
  obtain ⟨d, es, rfl, hd, q⟩ := h
  obtain ⟨u, rfl, rx⟩ := r.one
  cases rx
  obtain ⟨⟨z, hs, ks, pr, o, arr, ep, ho, hx, hdt, he, hn⟩, _, _⟩ := (show ObjOk X.prog X.w H s.heap d (.ext (DN d es)) from I.hok d _ hd)
  have l1 : arr.size = ks.length := by rw [← Array.length_toList, he, List.length_map]
  have l2 : es.length = ks.length := Paired.length pr
  refine PySem.W.kdl_call (kdl_raw hs hx hdt) (I.ok.hd hc) ho (by omega) fun h' tk acc' c' kp e it => ?_
  have ea : acc'.toList = ks.map fun x => Value.ref x.2.1 := by
    have hl : acc'.toList.length = ks.length := by rw [Array.length_toList, it.1]; exact l1
    apply List.ext_getElem?
    intro j
    rw [List.getElem?_map]
    cases hj : acc'.toList[j]? with
    | none =>
      have h1 := List.getElem?_eq_none_iff.mp hj
      rw [List.getElem?_eq_none (by omega)]
      all_goals rfl
    | some v =>
      obtain ⟨en, hen, hv⟩ := it.2 j v (by rw [← Array.getElem?_toList]; exact hj)
      have qe : arr[j]? = (ks[j]?).map enN := by rw [← Array.getElem?_toList, he, List.getElem?_map]
      rw [hen] at qe
      cases hb : ks[j]? with
      | none =>
        rw [hb] at qe
        exact nomatch (show some en = none from qe)
      | some b =>
        rw [hb] at qe
        have e2 : en = enN b := Option.some.inj qe
        rw [hv, e2]
        all_goals rfl
  have rv : Vals (es.map fun x => V.ref x.2.1) acc'.toList := by rw [ea]; exact pv_refs pr
  have hz : (es.map fun x => V.ref x.2.1).length ≤ sizeLine := by rw [List.length_map]; omega
  refine ⟨.ref s.heap.objs.size, _, I.laid (t' := tk) (o := .lst (es.map fun x => V.ref x.2.1)) kp (Nat.le_refl _) ?_, rfl, q _ (I.hok.fresh (Nat.le_refl _))⟩
  exact ⟨hz, acc'.toList, c', rv, by rw [Array.toArray_toList]; exact e⟩
end
end VL

set_option maxRecDepth 100000
set_option maxHeartbeats 2000000
/-! VL: how values stand in the heap. -/
namespace VL
open PySem L2 Evl

mutual
inductive Rep (K : PySem.W.Frag) (cs : List Addr) (F : Hp) : V → AV → Prop
  | non : Rep K cs F .non .non
  | bl (b : Bool) : Rep K cs F (.bl b) (.bl b)
  | int (i : Int) : Rep K cs F (.int i) (.int i)
  | str (s : Str) : Rep K cs F (.str s) (.str s)
  | tup {a : Addr} {vs : List V} {xs : List AV} : SqT K F a vs → Reps K cs F vs xs → Rep K cs F (.ref a) (.tup xs)
  | lst {a : Addr} {vs : List V} {xs : List AV} : F a = some (.lst vs) → Reps K cs F vs xs → Rep K cs F (.ref a) (.lst xs)
  | ro {a : Addr} {vs : List V} {xs : List AV} : SqL K F a vs → Reps K cs F vs xs → Rep K cs F (.ref a) (.ro xs)
  | dct {a : Addr} {o : Obj} {us : List (Key × V)} {xs : List (Key × AV)} : F a = some (.frz o (.dK us)) → RepK K cs F us xs → Rep K cs F (.ref a) (.dct xs)
  | adr {n : Nat} {a : Addr} : cs[n]? = some a → Rep K cs F (.ref a) (.adr n)
inductive Reps (K : PySem.W.Frag) (cs : List Addr) (F : Hp) : List V → List AV → Prop
  | nil : Reps K cs F [] []
  | cons {v : V} {vs : List V} {d : AV} {ds : List AV} : Rep K cs F v d → Reps K cs F vs ds → Reps K cs F (v :: vs) (d :: ds)
inductive RepK (K : PySem.W.Frag) (cs : List Addr) (F : Hp) : List (Key × V) → List (Key × AV) → Prop
  | nil : RepK K cs F [] []
  | cons {k : Key} {v : V} {vs : List (Key × V)} {d : AV} {ds : List (Key × AV)} : Rep K cs F v d → RepK K cs F vs ds → RepK K cs F ((k, v) :: vs) ((k, d) :: ds)
end
inductive RepN (K : PySem.W.Frag) (cs : List Addr) (F : Hp) : List (NK × Addr × V) → List (NK × AV) → Prop
  | nil : RepN K cs F [] []
  | cons {k : NK} {b : Addr} {v : V} {vs : List (NK × Addr × V)} {d : AV} {ds : List (NK × AV)} : KeyN K F k b → Rep K cs F v d → RepN K cs F vs ds → RepN K cs F ((k, b, v) :: vs) ((k, d) :: ds)
inductive RepF (K : PySem.W.Frag) (cs : List Addr) (F : Hp) : List (Str × V) → List (Str × AV) → Prop
  | nil : RepF K cs F [] []
  | cons {k : Str} {v : V} {vs : List (Str × V)} {d : AV} {ds : List (Str × AV)} : Rep K cs F v d → RepF K cs F vs ds → RepF K cs F ((k, v) :: vs) ((k, d) :: ds)

section
variable {K : PySem.W.Frag} {cs cs' : List Addr} {F F' : Hp}
theorem get_pre {r : List Addr} (hc : cs' = cs ++ r) {n : Nat} {a : Addr} (h : cs[n]? = some a) : cs'[n]? = some a := by
  subst hc
  rw [List.getElem?_append_left (List.getElem?_eq_some_iff.mp h).1]
  exact h
mutual
theorem Rep.mono (e : Ex F F') (hc : ∃ r, cs' = cs ++ r) : ∀ {v : V} {d : AV}, Rep K cs F v d → Rep K cs' F' v d
  | _, _, .non => .non
  | _, _, .bl b => .bl b
  | _, _, .int i => .int i
  | _, _, .str s => .str s
  | _, _, .tup h r => .tup (ex_t e h) (Reps.mono e hc r)
  | _, _, .lst h r => .lst (e _ _ h) (Reps.mono e hc r)
  | _, _, .ro h r => .ro (ex_l e h) (Reps.mono e hc r)
  | _, _, .dct h r => .dct (e _ _ h) (RepK.mono e hc r)
  | _, _, .adr h => .adr (let ⟨_, q⟩ := hc; get_pre q h)
theorem Reps.mono (e : Ex F F') (hc : ∃ r, cs' = cs ++ r) : ∀ {v : List V} {d : List AV}, Reps K cs F v d → Reps K cs' F' v d
  | _, _, .nil => .nil
  | _, _, .cons h r => .cons (Rep.mono e hc h) (Reps.mono e hc r)
theorem RepK.mono (e : Ex F F') (hc : ∃ r, cs' = cs ++ r) : ∀ {v : List (Key × V)} {d : List (Key × AV)}, RepK K cs F v d → RepK K cs' F' v d
  | _, _, .nil => .nil
  | _, _, .cons h r => .cons (Rep.mono e hc h) (RepK.mono e hc r)
end
theorem RepN.mono (e : Ex F F') (hc : ∃ r, cs' = cs ++ r) {v : List (NK × Addr × V)} {d : List (NK × AV)} (h : RepN K cs F v d) : RepN K cs' F' v d := by
  induction h with
  | nil => exact .nil
  | cons hk h _ ih => exact .cons (hk.mono fun _ _ q => ex_t e q) (h.mono e hc) ih
theorem RepN.keys {v : List (NK × Addr × V)} {d : List (NK × AV)} (h : RepN K cs F v d) : ∀ x ∈ v, KeyN K F x.1 x.2.1 := by
  induction h with
  | nil => intro x m; cases m
  | cons hk h _ ih =>
    intro x m
    rcases List.mem_cons.mp m with rfl | m
    · exact hk
    · exact ih x m
theorem RepN.length {v : List (NK × Addr × V)} {d : List (NK × AV)} (h : RepN K cs F v d) : v.length = d.length := by
  induction h with
  | nil => rfl
  | cons hk h _ ih => simp [ih]
theorem RepN.get {vs : List (NK × Addr × V)} {xs : List (NK × AV)} (h : RepN K cs F vs xs) {k : NK} : (∃ v d, valN vs k = some v ∧ getN xs k = some d ∧ Rep K cs F v d) ∨ (valN vs k = none ∧ getN xs k = none) := by
  induction h with
  | nil => exact .inr ⟨rfl, rfl⟩
  | @cons k' b' v' vs' d' ds' hk h _ ih =>
    unfold valN getN
    by_cases q : k' = k
    · subst q
      exact .inl ⟨v', d', by simp [List.find?_cons], by simp [List.find?_cons], h⟩
    · unfold valN getN at ih
      simpa [List.find?_cons, q] using ih
theorem RepN.any {vs : List (NK × Addr × V)} {xs : List (NK × AV)} (h : RepN K cs F vs xs) {k : NK} : (vs.any fun kv => decide (kv.1 = k)) = (xs.any fun kv => decide (kv.1 = k)) := by
  induction h with
  | nil => rfl
  | cons hk h _ ih => simp [ih]
theorem RepN.append {vs ws : List (NK × Addr × V)} {xs ys : List (NK × AV)} (h : RepN K cs F vs xs) (g : RepN K cs F ws ys) : RepN K cs F (vs ++ ws) (xs ++ ys) := by
  induction h with
  | nil => exact g
  | cons hk h _ ih => exact .cons hk h ih
theorem RepN.put {vs : List (NK × Addr × V)} {xs : List (NK × AV)} (h : RepN K cs F vs xs) {k : NK} {b : Addr} {v : V} {d : AV} (hb : KeyN K F k b) (r : Rep K cs F v d) : RepN K cs F (putN vs k b v) (putNK xs k d) := by
  unfold putN putNK
  rw [h.any]
  split
  · rename_i z
    clear z
    induction h with
    | nil => exact .nil
    | @cons k' b' v' vs' d' ds' hk h _ ih =>
      simp only [List.map_cons]
      by_cases q : k' = k
      · rw [if_pos q, if_pos q]; exact .cons hk r ih
      · rw [if_neg q, if_neg q]; exact .cons hk h ih
  · exact h.append (.cons hb r .nil)
theorem RepF.mono (e : Ex F F') (hc : ∃ r, cs' = cs ++ r) {v : List (Str × V)} {d : List (Str × AV)} (h : RepF K cs F v d) : RepF K cs' F' v d := by
  induction h with
  | nil => exact .nil
  | cons h _ ih => exact .cons (h.mono e hc) ih
theorem Reps.length {vs : List V} {xs : List AV} (h : Reps K cs F vs xs) : vs.length = xs.length := by
  revert xs
  induction vs with
  | nil => intro xs h; cases h; rfl
  | cons v vs ih => intro xs h; cases h with | cons h r => simp [ih r]
theorem Reps.get {vs : List V} {xs : List AV} (h : Reps K cs F vs xs) {i : Nat} {d : AV} (e : xs[i]? = some d) : ∃ v, vs[i]? = some v ∧ Rep K cs F v d := by
  revert xs i
  induction vs with
  | nil => intro xs h i e; cases h; simp at e
  | cons v vs ih =>
    intro xs h i e
    cases h with
    | cons h r =>
      cases i with
      | zero => simp at e; subst e; exact ⟨v, rfl, h⟩
      | succ i => simpa using ih r (by simpa using e)
theorem Reps.get' {vs : List V} {xs : List AV} (h : Reps K cs F vs xs) {i : Nat} {v : V} (e : vs[i]? = some v) : ∃ d, xs[i]? = some d ∧ Rep K cs F v d := by
  revert xs i
  induction vs with
  | nil => intro xs h i e; cases h; simp at e
  | cons w vs ih =>
    intro xs h i e
    cases h with
    | cons h r =>
      cases i with
      | zero => simp at e; subst e; exact ⟨_, rfl, h⟩
      | succ i => simpa using ih r (by simpa using e)
theorem Reps.append {vs ws : List V} {xs ys : List AV} (h : Reps K cs F vs xs) (g : Reps K cs F ws ys) : Reps K cs F (vs ++ ws) (xs ++ ys) := by
  revert xs
  induction vs with
  | nil => intro xs h; cases h; exact g
  | cons v vs ih => intro xs h; cases h with | cons h r => exact .cons h (ih r)
theorem Reps.drop {vs : List V} {xs : List AV} (h : Reps K cs F vs xs) (n : Nat) : Reps K cs F (vs.drop n) (xs.drop n) := by
  induction n generalizing vs xs with
  | zero => exact h
  | succ n ih => cases h with
    | nil => exact .nil
    | cons h r => exact ih r
theorem Reps.take {vs : List V} {xs : List AV} (h : Reps K cs F vs xs) (n : Nat) : Reps K cs F (vs.take n) (xs.take n) := by
  induction n generalizing vs xs with
  | zero => exact .nil
  | succ n ih => cases h with
    | nil => exact .nil
    | cons h r => exact .cons h (ih r)
theorem Reps.rev {vs : List V} {xs : List AV} (h : Reps K cs F vs xs) : Reps K cs F vs.reverse xs.reverse := by
  induction vs generalizing xs with
  | nil => cases h; exact .nil
  | cons v vs ih => cases h with
    | cons h r =>
      rw [List.reverse_cons, List.reverse_cons]
      exact (ih r).append (.cons h .nil)
theorem Reps.cut {vs : List V} {xs : List AV} (h : Reps K cs F vs xs) (lo hi : Option Int) : Reps K cs F (cutV vs lo hi) (cut xs lo hi) := by
  unfold cutV VL.cut
  rw [h.length]
  exact (h.drop _).take _
theorem Reps.set {vs : List V} {xs : List AV} (h : Reps K cs F vs xs) {v : V} {d : AV} (r : Rep K cs F v d) (i : Nat) : Reps K cs F (vs.set i v) (xs.set i d) := by
  induction i generalizing vs xs with
  | zero => cases h with
    | nil => exact .nil
    | cons h t => exact .cons r t
  | succ n ih => cases h with
    | nil => exact .nil
    | cons h t => exact .cons h (ih t)
theorem Reps.at {vs : List V} {xs : List AV} (h : Reps K cs F vs xs) {i : Int} {d : AV} (e : atI xs i = some d) : ∃ v, atI vs i = some v ∧ Rep K cs F v d := by
  unfold atI at e ⊢
  rw [h.length]
  cases q : ixN xs.length i with
  | none => rw [q] at e; cases e
  | some j => rw [q] at e; exact h.get e
theorem RepK.length {vs : List (Key × V)} {xs : List (Key × AV)} (h : RepK K cs F vs xs) : vs.length = xs.length := by
  revert xs
  induction vs with
  | nil => intro xs h; cases h; rfl
  | cons v vs ih => intro xs h; cases h with | cons h r => simp [ih r]
theorem RepK.get {vs : List (Key × V)} {xs : List (Key × AV)} (h : RepK K cs F vs xs) {k : Key} : (∃ v d, valV vs k = some v ∧ getD xs k = some d ∧ Rep K cs F v d) ∨ (valV vs k = none ∧ getD xs k = none) := by
  revert xs
  induction vs with
  | nil => intro xs h; cases h; exact .inr ⟨rfl, rfl⟩
  | cons v vs ih =>
    intro xs h
    cases h with
    | cons h r =>
      rename_i k' v' d' ds'
      unfold valV getD
      by_cases q : k' = k
      · subst q
        exact .inl ⟨v', d', by simp [List.find?_cons], by simp [List.find?_cons], h⟩
      · have := ih r
        unfold valV getD at this
        simpa [List.find?_cons, q] using this
theorem RepK.any {vs : List (Key × V)} {xs : List (Key × AV)} (h : RepK K cs F vs xs) {k : Key} : (vs.any fun kv => decide (kv.1 = k)) = (xs.any fun kv => decide (kv.1 = k)) := by
  revert xs
  induction vs with
  | nil => intro xs h; cases h; rfl
  | cons v vs ih =>
    intro xs h
    cases h with
    | cons h r => simp [ih r]
theorem RepK.append {vs ws : List (Key × V)} {xs ys : List (Key × AV)} (h : RepK K cs F vs xs) (g : RepK K cs F ws ys) : RepK K cs F (vs ++ ws) (xs ++ ys) := by
  revert xs
  induction vs with
  | nil => intro xs h; cases h; exact g
  | cons v vs ih => intro xs h; cases h with | cons h r => exact .cons h (ih r)
theorem RepK.mapPut {vs : List (Key × V)} {xs : List (Key × AV)} (h : RepK K cs F vs xs) {k : Key} {v : V} {d : AV} (r : Rep K cs F v d) :
    RepK K cs F (vs.map fun kv => if kv.1 = k then (kv.1, v) else kv) (xs.map fun kv => if kv.1 = k then (kv.1, d) else kv) := by
  revert xs
  induction vs with
  | nil => intro xs h; cases h; exact .nil
  | cons w vs ih =>
    intro xs h
    cases h with
    | cons h t =>
      rename_i k' v' d' ds'
      simp only [List.map_cons]
      by_cases q : k' = k
      · rw [if_pos q, if_pos q]; exact .cons r (ih t)
      · rw [if_neg q, if_neg q]; exact .cons h (ih t)
theorem RepK.put {vs : List (Key × V)} {xs : List (Key × AV)} (h : RepK K cs F vs xs) {k : Key} {v : V} {d : AV} (r : Rep K cs F v d) : RepK K cs F (putK vs k v) (putD xs k d) := by
  unfold putK putD
  rw [h.any]
  split
  · exact h.mapPut r
  · exact h.append (.cons r .nil)
theorem RepF.get {vs : List (Str × V)} {xs : List (Str × AV)} (h : RepF K cs F vs xs) {k : Str} {d : AV} (e : xs.lookup k = some d) : ∃ v, vs.lookup k = some v ∧ Rep K cs F v d := by
  induction h with
  | nil => simp at e
  | cons h r ih =>
    rw [List.lookup_cons] at e ⊢
    split at e
    · cases e
      exact ⟨_, rfl, h⟩
    · exact ih e
theorem RepF.none {vs : List (Str × V)} {xs : List (Str × AV)} (h : RepF K cs F vs xs) {k : Str} (e : xs.lookup k = none) : vs.lookup k = none := by
  induction h with
  | nil => rfl
  | cons h r ih =>
    rw [List.lookup_cons] at e ⊢
    split at e
    · cases e
    · exact ih e
theorem RepF.length {vs : List (Str × V)} {xs : List (Str × AV)} (h : RepF K cs F vs xs) : vs.length = xs.length := by
  induction h with
  | nil => rfl
  | cons h r ih => simp [ih]
theorem RepF.put {vs : List (Str × V)} {xs : List (Str × AV)} (h : RepF K cs F vs xs) {f : Str} {v : V} {d : AV} (r : Rep K cs F v d) : RepF K cs F (putF f v vs) (putFA f d xs) := by
  induction h with
  | nil => exact .cons r .nil
  | cons h t ih =>
    rename_i k v' vs' d' ds'
    show RepF K cs F (if k = f then (k, v) :: vs' else (k, v') :: putF f v vs') (if k = f then (k, d) :: ds' else (k, d') :: putFA f d ds')
    by_cases q : k = f
    · rw [if_pos q, if_pos q]; exact .cons r t
    · rw [if_neg q, if_neg q]; exact .cons h ih
theorem Reps.ints {vs : List V} {xs : List AV} (h : Reps K cs F vs xs) {ns : List Int} (e : asInts xs = some ns) : vs = ns.map V.int := by
  revert xs ns
  induction vs with
  | nil => intro xs h ns e; cases h; simp [asInts] at e; subst e; rfl
  | cons v vs ih =>
    intro xs h ns e
    cases h with
    | cons h r =>
      cases h <;> simp [asInts] at e
      obtain ⟨l, e1, e2⟩ := e
      subst e2
      rw [ih r e1]; rfl
theorem Reps.bools {vs : List V} {xs : List AV} (h : Reps K cs F vs xs) {ns : List Bool} (e : asBools xs = some ns) : vs = ns.map V.bl := by
  revert xs ns
  induction vs with
  | nil => intro xs h ns e; cases h; simp [asBools] at e; subst e; rfl
  | cons v vs ih =>
    intro xs h ns e
    cases h with
    | cons h r =>
      cases h <;> simp [asBools] at e
      obtain ⟨l, e1, e2⟩ := e
      subst e2
      rw [ih r e1]; rfl
theorem Reps.strs {vs : List V} {xs : List AV} (h : Reps K cs F vs xs) {ns : List Str} (e : asStrs xs = some ns) : vs = ns.map V.str := by
  revert xs ns
  induction vs with
  | nil => intro xs h ns e; cases h; simp [asStrs] at e; subst e; rfl
  | cons v vs ih =>
    intro xs h ns e
    cases h with
    | cons h r =>
      cases h <;> simp [asStrs] at e
      obtain ⟨l, e1, e2⟩ := e
      subst e2
      rw [ih r e1]; rfl
theorem ni_rep {v : V} {d : AV} {k : NI} (r : Rep K cs F v d) (e : niOf d = some k) : itV K F k v := by
  cases r <;> simp only [niOf] at e <;> try cases e
  · rfl
  · rename_i a vs xs h r
    obtain ⟨ns, e1, e2⟩ := Option.map_eq_some_iff.mp e
    subst e2
    have := r.ints e1
    subst this
    exact ⟨a, rfl, h⟩
theorem nis_rep : ∀ {vs : List V} {xs : List AV} {k : NK}, Reps K cs F vs xs → nisOf xs = some k → Paired (itV K F) k vs
  | _, _, _, .nil, e => by simp [nisOf] at e; subst e; exact .nil
  | _, _, k, .cons h r, e => by
    simp only [nisOf] at e
    split at e
    · rename_i k1 ks1 e1 e2
      cases e
      exact .cons (ni_rep h e1) (nis_rep r e2)
    · cases e
theorem nk_rep {v : V} {d : AV} {k : NK} (r : Rep K cs F v d) (e : nkOf d = some k) : ∃ b, v = .ref b ∧ KeyN K F k b := by
  cases r <;> simp only [nkOf] at e <;> try cases e
  rename_i a vs xs h r
  exact ⟨a, rfl, vs, h, nis_rep r e⟩
theorem ints_rep : ∀ ns : List Int, Reps K cs F (ns.map V.int) (ns.map AV.int)
  | [] => .nil
  | n :: ns => .cons (.int n) (ints_rep ns)
theorem rep_nk {k : NK} {b : Addr} (h : KeyN K F k b) : Rep K cs F (.ref b) (nkA k) := by
  obtain ⟨vs, h1, h2⟩ := h
  refine .tup h1 ?_
  clear h1
  induction h2 with
  | nil => exact .nil
  | @cons k v ks vs h t ih =>
    refine .cons ?_ ih
    cases k with
    | inl i =>
      have h : v = .int i := h
      subst h
      exact .int i
    | inr ls =>
      obtain ⟨b', rfl, hq⟩ := h
      exact .tup hq (ints_rep ls)
theorem RepN.list {vs : List (NK × Addr × V)} {xs : List (NK × AV)} (h : RepN K cs F vs xs) : Reps K cs F (vs.map fun x => V.ref x.2.1) (xs.map fun kv => nkA kv.1) := by
  induction h with
  | nil => exact .nil
  | cons hk h _ ih => exact .cons (rep_nk hk) ih
mutual
theorem Rep.dp {H : Hp} (e : Ex F H) : ∀ {v : V} {d : AV}, Rep K cs F v d → ∀ {p : PyData}, pd d = some p → Dp K H v p
  | _, _, .non, _, q => by simp [pd] at q; subst q; exact .non
  | _, _, .bl b, _, q => by simp [pd] at q; subst q; exact .bl b
  | _, _, .int i, _, q => by simp [pd] at q; subst q; exact .int i
  | _, _, .str s, _, q => by simp [pd] at q; subst q; exact .str s
  | _, _, .tup h r, _, q => by
    simp [pd] at q
    obtain ⟨l, e1, e2⟩ := q
    subst e2
    exact .tup (ex_t e h) (Reps.dp e r e1)
  | _, _, .lst h r, _, q => by
    simp [pd] at q
    obtain ⟨l, e1, e2⟩ := q
    subst e2
    exact .lst (sq_of (e _ _ h)) (Reps.dp e r e1)
  | _, _, .ro h r, _, q => by
    simp [pd] at q
    obtain ⟨l, e1, e2⟩ := q
    subst e2
    exact .lst (ex_l e h) (Reps.dp e r e1)
  | _, _, .dct h r, _, q => by simp [pd] at q
  | _, _, .adr h, _, q => by simp [pd] at q
theorem Reps.dp {H : Hp} (e : Ex F H) : ∀ {v : List V} {d : List AV}, Reps K cs F v d → ∀ {p : List PyData}, pds d = some p → DpAll K H v p
  | _, _, .nil, _, q => by simp [pds] at q; subst q; exact .nil
  | _, _, .cons h r, _, q => by
    simp [pds, Option.bind_eq_some_iff] at q
    obtain ⟨d1, e1, l, e2, e3⟩ := q
    subst e3
    exact .cons (Rep.dp e h e1) (Reps.dp e r e2)
end
end

/-! ### states -/
def COk (K : PySem.W.Frag) (Cl : Nat → Addr) (cs : List Addr) (F H : Hp) (a : Addr) : Cell → Prop
  | .lst xs => ∃ vs, H a = some (.lst vs) ∧ Reps K cs F vs xs
  | .dct xs => ∃ us, H a = some (.dK us) ∧ RepK K cs F us xs
  | .dctN xs => ∃ es, H a = some (.ext (DN a es)) ∧ RepN K cs F es xs
  | .obj c fs => ∃ dx fvs, H a = some (.ins (Cl c) dx fvs) ∧ RepF K cs F fvs fs
  | .dead => H a ≠ none
structure StOk (K : PySem.W.Frag) (Cl : Nat → Addr) (cs : List Addr) (F H : Hp) (h : AHeap) : Prop where
  sub : Ex F H
  len : cs.length = h.length
  nd : cs.Nodup
  cell : ∀ n a, cs[n]? = some a → COk K Cl cs F H a (cells h n)
  free : ∀ a, a ∈ cs → F a = none
structure Stp (cs : List Addr) (F H : Hp) (cs' : List Addr) (F' H' : Hp) : Prop where
  f : Ex F F'
  c : ∃ r, cs' = cs ++ r
  k : ∀ b o, H b = some o → b ∉ cs → H' b = some o
  d : ∀ b, H b ≠ none → H' b ≠ none
  n : ∀ b, F b = none → F' b ≠ none → H b = none
  m : ∀ b, b ∈ cs' → b ∉ cs → H b = none
structure EnvOk (K : PySem.W.Frag) (Cl : Nat → Addr) (cs : List Addr) (F H : Hp) (σ : L2.St) (ρ : Env) : Prop where
  len : ρ.length = σ.length
  val : ∀ i d, getS ρ i = .val d → ∃ v, σ[i]? = some (some v) ∧ Rep K cs F v d
  own : ∀ i c, getS ρ i = .own c → ∃ a, σ[i]? = some (some (.ref a)) ∧ a ∉ cs ∧ F a = none ∧ COk K Cl cs F H a c
  dis : ∀ i j c c' a, i ≠ j → getS ρ i = .own c → getS ρ j = .own c' → σ[i]? = some (some (.ref a)) → σ[j]? ≠ some (some (.ref a))

section
variable {K : PySem.W.Frag} {Cl : Nat → Addr} {cs cs' cs'' : List Addr} {F F' F'' H H' H'' : Hp} {σ : L2.St} {ρ : Env} {h h' : AHeap} {a : Addr} {c : Cell}
theorem COk.some (x : COk K Cl cs F H a c) : H a ≠ none := by
  cases c with
  | lst xs => obtain ⟨vs, e, _⟩ := x; rw [e]; simp
  | dct xs => obtain ⟨vs, e, _⟩ := x; rw [e]; simp
  | dctN xs => obtain ⟨vs, e, _⟩ := x; rw [e]; simp
  | obj c fs => obtain ⟨dx, vs, e, _⟩ := x; rw [e]; simp
  | dead => exact x
/-- the object at a as it was -/
theorem COk.mono (x : COk K Cl cs F H a c) (e : Ex F F') (hc : ∃ r, cs' = cs ++ r) (k : ∀ o, H a = Option.some o → H' a = Option.some o) : COk K Cl cs' F' H' a c := by
  cases c with
  | lst xs => obtain ⟨vs, q, r⟩ := x; exact ⟨vs, k _ q, r.mono e hc⟩
  | dct xs => obtain ⟨vs, q, r⟩ := x; exact ⟨vs, k _ q, r.mono e hc⟩
  | dctN xs => obtain ⟨vs, q, r⟩ := x; exact ⟨vs, k _ q, r.mono e hc⟩
  | obj c fs => obtain ⟨dx, vs, q, r⟩ := x; exact ⟨dx, vs, k _ q, r.mono e hc⟩
  | dead =>
    show H' a ≠ none
    have x' : H a ≠ none := x
    cases q : H a with
    | none => exact absurd q x'
    | some o => rw [k o q]; simp
theorem Stp.refl : Stp cs F H cs F H := ⟨fun _ _ h => h, ⟨[], by simp⟩, fun _ _ h _ => h, fun _ h => h, fun b h1 h2 => absurd h1 h2, fun b h1 h2 => absurd h1 h2⟩
theorem Stp.trans (x : Stp cs F H cs' F' H') (y : Stp cs' F' H' cs'' F'' H'') : Stp cs F H cs'' F'' H'' where
  f := x.f.trans y.f
  c := by
    obtain ⟨r, e⟩ := x.c
    obtain ⟨s, e2⟩ := y.c
    exact ⟨r ++ s, by rw [e2, e, List.append_assoc]⟩
  k := fun b o e n => y.k b o (x.k b o e n) fun z => by
    have := x.m b z n
    rw [e] at this; cases this
  d := fun b e => y.d b (x.d b e)
  n := fun b e1 e2 => by
    by_cases q : F' b = none
    · have z := y.n b q e2
      cases w : H b with
      | none => rfl
      | some o => exact absurd z (x.d b (by rw [w]; simp))
    · exact x.n b e1 q
  m := fun b e1 e2 => by
    by_cases q : b ∈ cs'
    · exact x.m b q e2
    · have z := y.m b e1 q
      cases w : H b with
      | none => rfl
      | some o => exact absurd z (x.d b (by rw [w]; simp))
theorem Stp.fresh (x : Stp cs F H cs' F' H') {b : Addr} (h : H' b = none) : H b = none := by
  cases w : H b with
  | none => rfl
  | some o => exact absurd h (x.d b (by rw [w]; simp))
theorem EnvOk.step (E : EnvOk K Cl cs F H σ ρ) (x : Stp cs F H cs' F' H') : EnvOk K Cl cs' F' H' σ ρ where
  len := E.len
  val := fun i d e => by
    obtain ⟨v, q, r⟩ := E.val i d e
    exact ⟨v, q, r.mono x.f x.c⟩
  own := fun i c e => by
    obtain ⟨a, q, n1, n2, r⟩ := E.own i c e
    have hs := r.some
    refine ⟨a, q, fun z => hs (x.m a z n1), ?_, r.mono x.f x.c fun o ho => x.k a o ho n1⟩
    cases w : F' a with
    | none => rfl
    | some o => exact absurd (x.n a n2 (by rw [w]; simp)) hs
  dis := E.dis

/-! ### cells, slots -/
theorem cells_app {n : Nat} (hn : n < h.length) : cells (h ++ h') n = cells h n := by
  unfold cells
  rw [List.getElem?_append_left hn]
theorem cells_new : cells (h ++ [c]) h.length = c := by
  unfold cells
  simp
theorem cells_set_same {n : Nat} (hn : n < h.length) : cells (h.set n c) n = c := by
  unfold cells
  simp [hn]
theorem cells_set_ne {n m : Nat} (hn : n ≠ m) : cells (h.set n c) m = cells h m := by
  unfold cells
  rw [List.getElem?_set_ne hn]
theorem getS_set_same {i : Nat} {v : Slot} (hi : i < ρ.length) : getS (setS ρ i v) i = v := by
  induction ρ generalizing i with
  | nil => cases hi
  | cons x r ih => cases i with
    | zero => rfl
    | succ i => exact ih (by simpa using hi)
theorem getS_set_ne {i j : Nat} {v : Slot} (hi : i ≠ j) : getS (setS ρ i v) j = getS ρ j := by
  induction ρ generalizing i j with
  | nil => rfl
  | cons x r ih => cases i with
    | zero => cases j with
      | zero => exact absurd rfl hi
      | succ j => rfl
    | succ i => cases j with
      | zero => rfl
      | succ j => exact ih (fun e => hi (by rw [e]))
theorem setS_length {i : Nat} {v : Slot} : (setS ρ i v).length = ρ.length := by
  induction ρ generalizing i with
  | nil => rfl
  | cons x r ih => cases i with
    | zero => rfl
    | succ i => simp [setS, ih]
theorem getS_lt {i : Nat} (h : getS ρ i ≠ .no) : i < ρ.length := by
  induction ρ generalizing i with
  | nil => exact absurd rfl h
  | cons x r ih => cases i with
    | zero => simp
    | succ i => simpa using ih h
theorem setS_out {i : Nat} {v : Slot} (hi : ρ.length ≤ i) : setS ρ i v = ρ := by
  induction ρ generalizing i with
  | nil => rfl
  | cons x r ih => cases i with
    | zero => simp at hi
    | succ i => simp only [setS]; rw [ih (by simpa using hi)]
/-- a slot is given a value -/
theorem EnvOk.setV (E : EnvOk K Cl cs F H σ ρ) {i : Nat} {v : V} {d : AV} (r : Rep K cs F v d) : EnvOk K Cl cs F H (σ.set i (some v)) (setS ρ i (.val d)) := by
  by_cases hi : i < ρ.length
  · have hs : i < σ.length := by rw [← E.len]; exact hi
    refine ⟨by rw [setS_length, List.length_set, E.len], fun j e h => ?_, fun j c h => ?_, fun j k c c' a ne h1 h2 h3 => ?_⟩
    · by_cases hj : i = j
      · subst hj
        rw [getS_set_same hi] at h
        cases h
        exact ⟨v, by rw [List.getElem?_set_self hs], r⟩
      · rw [getS_set_ne hj] at h
        rw [List.getElem?_set_ne hj]
        exact E.val j e h
    · by_cases hj : i = j
      · subst hj
        rw [getS_set_same hi] at h
        cases h
      · rw [getS_set_ne hj] at h
        rw [List.getElem?_set_ne hj]
        exact E.own j c h
    · have n1 : i ≠ j := fun z => by subst z; rw [getS_set_same hi] at h1; cases h1
      have n2 : i ≠ k := fun z => by subst z; rw [getS_set_same hi] at h2; cases h2
      rw [getS_set_ne n1] at h1
      rw [getS_set_ne n2] at h2
      rw [List.getElem?_set_ne n1] at h3
      rw [List.getElem?_set_ne n2]
      exact E.dis j k c c' a ne h1 h2 h3
  · have hi' : ρ.length ≤ i := by omega
    have hs : σ.length ≤ i := by rw [← E.len]; exact hi'
    rw [setS_out hi', List.set_eq_of_length_le hs]
    exact E
/-- a slot is forgotten -/
theorem EnvOk.setN (E : EnvOk K Cl cs F H σ ρ) {i : Nat} {v : Option V} : EnvOk K Cl cs F H (σ.set i v) (setS ρ i .no) := by
  by_cases hi : i < ρ.length
  · refine ⟨by rw [setS_length, List.length_set, E.len], fun j e h => ?_, fun j c h => ?_, fun j k c c' a ne h1 h2 h3 => ?_⟩
    · by_cases hj : i = j
      · subst hj
        rw [getS_set_same hi] at h
        cases h
      · rw [getS_set_ne hj] at h
        rw [List.getElem?_set_ne hj]
        exact E.val j e h
    · by_cases hj : i = j
      · subst hj
        rw [getS_set_same hi] at h
        cases h
      · rw [getS_set_ne hj] at h
        rw [List.getElem?_set_ne hj]
        exact E.own j c h
    · have n1 : i ≠ j := fun z => by subst z; rw [getS_set_same hi] at h1; cases h1
      have n2 : i ≠ k := fun z => by subst z; rw [getS_set_same hi] at h2; cases h2
      rw [getS_set_ne n1] at h1
      rw [getS_set_ne n2] at h2
      rw [List.getElem?_set_ne n1] at h3
      rw [List.getElem?_set_ne n2]
      exact E.dis j k c c' a ne h1 h2 h3
  · have hi' : ρ.length ≤ i := by omega
    have hs : σ.length ≤ i := by rw [← E.len]; exact hi'
    rw [setS_out hi', List.set_eq_of_length_le hs]
    exact E
theorem EnvOk.wipe (E : EnvOk K Cl cs F H σ ρ) (vs : List Nat) : EnvOk K Cl cs F H (wipe σ vs) (wipeS ρ vs) := by
  induction vs with
  | nil => exact E
  | cons v vs ih => exact ih.setN
/-- a slot's own cell: new, or changed -/
theorem EnvOk.setO (E : EnvOk K Cl cs F H σ ρ) {i : Nat} {a : Addr} {c : Cell} {o : HO} (n1 : a ∉ cs) (n2 : F a = none) (r : COk K Cl cs F (upd H a o) a c)
    (old : ∀ j c', j ≠ i → getS ρ j = .own c' → σ[j]? ≠ some (some (.ref a))) : EnvOk K Cl cs F (upd H a o) (σ.set i (some (.ref a))) (setS ρ i (.own c)) := by
  have key : ∀ {j c'} , j ≠ i → getS ρ j = .own c' → ∃ b, σ[j]? = some (some (.ref b)) ∧ b ∉ cs ∧ F b = none ∧ COk K Cl cs F (upd H a o) b c' := fun {j c'} hj h => by
    obtain ⟨b, e1, e2, e3, e4⟩ := E.own j c' h
    refine ⟨b, e1, e2, e3, e4.mono (fun _ _ q => q) ⟨[], by simp⟩ fun u hu => ?_⟩
    rw [upd_ne]
    · exact hu
    · intro z
      subst z
      exact old j c' hj h e1
  by_cases hi : i < ρ.length
  · have hs : i < σ.length := by rw [← E.len]; exact hi
    refine ⟨by rw [setS_length, List.length_set, E.len], fun j e h => ?_, fun j c h => ?_, fun j k c1 c2 b ne h1 h2 h3 => ?_⟩
    · by_cases hj : i = j
      · subst hj
        rw [getS_set_same hi] at h
        cases h
      · rw [getS_set_ne hj] at h
        rw [List.getElem?_set_ne hj]
        exact E.val j e h
    · by_cases hj : i = j
      · subst hj
        rw [getS_set_same hi] at h
        cases h
        exact ⟨a, by rw [List.getElem?_set_self hs], n1, n2, r⟩
      · rw [getS_set_ne hj] at h
        rw [List.getElem?_set_ne hj]
        exact key (Ne.symm hj) h
    · by_cases hj : i = j
      · subst hj
        rw [List.getElem?_set_self hs] at h3
        cases h3
        rw [getS_set_ne ne] at h2
        rw [List.getElem?_set_ne ne]
        exact old k c2 (Ne.symm ne) h2
      · by_cases hk : i = k
        · subst hk
          rw [List.getElem?_set_self hs]
          rw [getS_set_ne hj] at h1
          rw [List.getElem?_set_ne hj] at h3
          intro z
          cases z
          exact old j c1 (Ne.symm hj) h1 h3
        · rw [getS_set_ne hj] at h1
          rw [getS_set_ne hk] at h2
          rw [List.getElem?_set_ne hj] at h3
          rw [List.getElem?_set_ne hk]
          exact E.dis j k c1 c2 b ne h1 h2 h3
  · have hi' : ρ.length ≤ i := by omega
    have hs : σ.length ≤ i := by rw [← E.len]; exact hi'
    rw [setS_out hi', List.set_eq_of_length_le hs]
    refine ⟨E.len, E.val, fun j c h => ?_, E.dis⟩
    have hj : j ≠ i := fun z => by
      subst z
      exact absurd (getS_lt (ρ := ρ) (i := j) (by rw [h]; simp)) hi
    exact key hj h
end
end VL

set_option maxRecDepth 100000
set_option maxHeartbeats 2000000
/-! VL: max and min of a tuple of ints. -/
namespace VL
open PySem L2 Evl PyProof.Rows PySem.Spec
theorem maxOf_is : ∀ (x : Int) (xs : List Int), W.maxOf x xs ∈ x :: xs ∧ ∀ y, y ∈ x :: xs → y ≤ W.maxOf x xs
  | x, [] => ⟨List.mem_cons_self .., fun y hy => by rw [List.mem_singleton.mp hy]; exact Int.le_refl _⟩
  | x, z :: xs => by
    have e : W.maxOf x (z :: xs) = W.maxOf (if x < z then z else x) xs := by
      show List.foldl _ (if decide (x < z) = true then z else x) xs = _
      simp only [decide_eq_true_eq]; rfl
    obtain ⟨h1, h2⟩ := maxOf_is (if x < z then z else x) xs
    rw [← e] at h1 h2
    have h3 := h2 _ (List.mem_cons_self ..)
    refine ⟨?_, fun y hy => ?_⟩
    · rcases List.mem_cons.mp h1 with h | h
      · rw [h]
        split
        · exact List.mem_cons_of_mem _ (List.mem_cons_self ..)
        · exact List.mem_cons_self ..
      · exact List.mem_cons_of_mem _ (List.mem_cons_of_mem _ h)
    · rcases List.mem_cons.mp hy with h | h
      · rw [h]; split at h3 <;> omega
      · rcases List.mem_cons.mp h with h | h
        · rw [h]; split at h3 <;> omega
        · exact h2 y (List.mem_cons_of_mem _ h)
theorem minOf_is : ∀ (x : Int) (xs : List Int), W.minOf x xs ∈ x :: xs ∧ ∀ y, y ∈ x :: xs → W.minOf x xs ≤ y
  | x, [] => ⟨List.mem_cons_self .., fun y hy => by rw [List.mem_singleton.mp hy]; exact Int.le_refl _⟩
  | x, z :: xs => by
    have e : W.minOf x (z :: xs) = W.minOf (if z < x then z else x) xs := by
      show List.foldl _ (if decide (z < x) = true then z else x) xs = _
      simp only [decide_eq_true_eq]; rfl
    obtain ⟨h1, h2⟩ := minOf_is (if z < x then z else x) xs
    rw [← e] at h1 h2
    have h3 := h2 _ (List.mem_cons_self ..)
    refine ⟨?_, fun y hy => ?_⟩
    · rcases List.mem_cons.mp h1 with h | h
      · rw [h]
        split
        · exact List.mem_cons_of_mem _ (List.mem_cons_self ..)
        · exact List.mem_cons_self ..
      · exact List.mem_cons_of_mem _ (List.mem_cons_of_mem _ h)
    · rcases List.mem_cons.mp hy with h | h
      · rw [h]; split at h3 <;> omega
      · rcases List.mem_cons.mp h with h | h
        · rw [h]; split at h3 <;> omega
        · exact h2 y (List.mem_cons_of_mem _ h)
theorem hold_ints {h : Heap} : ∀ {vs : List Value} {ns : List Int}, IntsAre vs ns → W.HoldAll h vs ns
  | _, _, .nil => W.HoldAll.nil
  | _, _, .cons n t r => W.HoldAll.cons ⟨[], .int n t⟩ (hold_ints r)
section
variable {X : Cx}
theorem cr_maxT (hc : X.calm = true) (hu : X.A.units + 64 < cLine) : CallR X (.builtin "max") fun vs H Q => ∃ (a : Addr) (ns : List Int), vs = [V.ref a] ∧ SqT X.K H a (ns.map V.int) ∧ 0 < ns.length ∧ ∀ m, m ∈ ns → (∀ y, y ∈ ns → y ≤ m) → Q (.int m) H := by
  intro pins s σ H vs us Q I r h
  obtain ⟨a, ns, rfl, hs, hne, q⟩ := h
  obtain ⟨its, rv, pl, hz⟩ := I.tuple hs
  rw [Vals.ref1 r]
  have hi : IntsAre its ns := rv.ints
  cases ns with
  | nil => cases hne
  | cons n ns =>
    refine W.max_tuple_datum (I.ok.hd hc) pl (hold_ints hi) (by show X.A.units + 1 + 0 < cLine; omega) fun i v h' tk hv hh hk => ?_
    obtain ⟨m, t, rfl, hm⟩ := hi.at i v (by simpa using hv)
    obtain ⟨as, rd⟩ := hh
    have em : m = W.maxOf n ns := by
      have rd : PySem.Reads h' (.int m t) (.int (W.maxOf n ns)) as := rd
      cases rd; rfl
    subst em
    exact ⟨.int _, H, I.kept hk, ⟨_, rfl⟩, q _ (maxOf_is n ns).1 (maxOf_is n ns).2⟩
theorem cr_minT (hc : X.calm = true) (hu : X.A.units + 64 < cLine) : CallR X (.builtin "min") fun vs H Q => ∃ (a : Addr) (ns : List Int), vs = [V.ref a] ∧ SqT X.K H a (ns.map V.int) ∧ 0 < ns.length ∧ ∀ m, m ∈ ns → (∀ y, y ∈ ns → m ≤ y) → Q (.int m) H := by
  intro pins s σ H vs us Q I r h
  obtain ⟨a, ns, rfl, hs, hne, q⟩ := h
  obtain ⟨its, rv, pl, hz⟩ := I.tuple hs
  rw [Vals.ref1 r]
  have hi : IntsAre its ns := rv.ints
  cases ns with
  | nil => cases hne
  | cons n ns =>
    refine W.min_tuple_datum (I.ok.hd hc) pl (hold_ints hi) (by show X.A.units + 1 + 0 < cLine; omega) fun i v h' tk hv hh hk => ?_
    obtain ⟨m, t, rfl, hm⟩ := hi.at i v (by simpa using hv)
    obtain ⟨as, rd⟩ := hh
    have em : m = W.minOf n ns := by
      have rd : PySem.Reads h' (.int m t) (.int (W.minOf n ns)) as := rd
      cases rd; rfl
    subst em
    exact ⟨.int _, H, I.kept hk, ⟨_, rfl⟩, q _ (minOf_is n ns).1 (minOf_is n ns).2⟩
end
end VL

set_option maxRecDepth 100000
set_option maxHeartbeats 4000000
/-! VLn: list.remove of a flat item; a tuple taken once or not at all. -/
namespace VL
open PySem PySem.Spec PyProof.Rows L2
section
variable {X : Cx}
def rRemF : V → List V → Hp → VK → Prop := fun x vs H Q => ∃ (l : Addr) (ys : List V) (y : V) (j : Nat) (z : V), x = .ref l ∧ vs = [y] ∧ H l = some (.lst ys) ∧ flatV y = true ∧ ys.all flatV = true ∧ ys[j]? = some z ∧ eqV z y = true ∧
  (∀ (m : Nat) (z' : V), m < j → ys[m]? = some z' → eqV z' y = false) ∧ Q .non (upd H l (.lst (ys.eraseIdx j)))
theorem mt_removeF : MtM X "list.remove" rRemF := by
  intro pins s σ H x xs v us Q I rx rxs h
  obtain ⟨l, ys, y, j, z, rfl, rfl, hH, fy, fys, hz, hzj, hno, q⟩ := h
  cases rx
  obtain ⟨uy, rfl, ry⟩ := rxs.one
  obtain ⟨zz, its, n, rv, hl, e⟩ := I.lstM hH
  obtain ⟨u, hu, ru⟩ := rv.get hz
  obtain ⟨hjl, hje⟩ := List.getElem?_eq_some_iff.mp hu
  have hvl := rv.length
  have hj : j < its.toArray.size := by simpa using hjl
  refine call_meets PySem.F.slot_list_remove ⟨_, e, rfl⟩ PySem.F.entry_list_remove (PySem.F.args_list_remove_2 _ _)
    (PySem.SeqAt.list_removeAt l its.toArray n _ _ uy (eqU y) j hj ?_ ?_ (by rw [List.size_toArray]; omega)) ⟨e, fun u' hu' => mem_eqAt ry fy rv fys u' (by simpa using hu'), ?_⟩
  · have e1 : its.toArray[j] = u := by simpa using hje
    rw [e1, eqU_of ru (flat_at fys hz)]
    exact hzj
  · intro m hm hmj
    have hml : m < its.length := by simpa using hm
    have hmy : m < ys.length := by omega
    have hy' : ys[m]? = some ys[m] := List.getElem?_eq_getElem hmy
    obtain ⟨u2, hu2, ru2⟩ := rv.get hy'
    obtain ⟨_, hme⟩ := List.getElem?_eq_some_iff.mp hu2
    have e1 : its.toArray[m] = u2 := by simpa using hme
    rw [e1, eqU_of ru2 (flat_at fys hy')]
    exact hno m _ hmj hy'
  · refine ⟨.non, _, I.lset (its' := its.eraseIdx j) (t' := s.toks) hH e ?_ (rv.eraseIdx j) ?_, rfl, q⟩
    · show its.toArray.eraseIdxIfInBounds j = (its.eraseIdx j).toArray
      rw [List.eraseIdxIfInBounds_toArray]
    · have z2 := len_erase ys j
      omega
theorem tuple_mulS (l : Addr) (items : Array Value) (n : Nat) (sl : Array (Option Value)) (dd : Option Addr) (u : Tok) (c1 : items.isEmpty = false) :
    Meets (Builtin.«tuple.__mul__» ⟨[.ref l, .int 1 u], []⟩) (fun _ R s => s.heap.get? l = some { cls := .type "tuple", dict := dd, data := .seq items n, slots := sl } ∧ R (.ok (.ret (Value.ref l))) s) :=
  .of_wp fun prog w A R s h => by
    obtain ⟨hp, g, d, tk, os⟩ := s
    obtain ⟨hl, h⟩ := h
    have f1 := AutoSeq1.idx_int
    wp_walk using wpAny_loadPart' hl
    exact ⟨_, rfl, h⟩
theorem tuple_mul0 (l : Addr) (items : Array Value) (n : Nat) (sl : Array (Option Value)) (dd : Option Addr) (u : Tok) (c1 : items.isEmpty = false) :
    Meets (Builtin.«tuple.__mul__» ⟨[.ref l, .int 0 u], []⟩) (fun _ R s => s.heap.get? l = some { cls := .type "tuple", dict := dd, data := .seq items n, slots := sl } ∧
      R (.ok (.ret (Value.ref s.heap.objs.size))) { s with heap := s.heap.push { cls := Value.type "tuple", data := Data.seq #[] }, toks := s.toks }) :=
  .of_wp fun prog w A R s h => by
    obtain ⟨hp, g, d, tk, os⟩ := s
    obtain ⟨hl, h⟩ := h
    have f1 := AutoSeq1.idx_int
    wp_walk using wpAny_loadPart' hl
    exact ⟨_, rfl, h⟩
/-- a tuple once, or not at all -/
theorem op_repT01 : OpR X (binaryOp .Mult) (fun x y H Q => ∃ l k xs, x = .ref l ∧ y = .int k ∧ SqT X.K H l xs ∧ xs ≠ [] ∧ ((k = 1 ∧ Q (.ref l) H) ∨ (k = 0 ∧ ∀ p, H p = none → Q (.ref p) (upd H p (.tup []))))) := by
  intro pins s σ H x y v u Q I rx ry h
  obtain ⟨l, k, xs, rfl, rfl, hT, hne, h⟩ := h
  cases rx
  obtain ⟨t, rfl⟩ := ry
  obtain ⟨its, r, ⟨⟨cls, dd, data, sl⟩, ho, hc, n, hd⟩, hs⟩ := I.tuple hT
  simp only at hc hd
  subst hc hd
  have hle : its.length = xs.length := r.length.symm
  have hn : its ≠ [] := fun e => hne (by
    rw [e] at hle
    exact List.eq_nil_of_length_eq_zero hle.symm)
  have hi : its.toArray.isEmpty = false := by
    cases its with
    | nil => exact absurd rfl hn
    | cons a b => rfl
  rcases h with ⟨rfl, q⟩ | ⟨rfl, q⟩
  · refine wpAny_binaryOp_repeat_ref (T := "tuple") (U := "int") (by decide) ⟨_, ho, rfl⟩ (fun s' => typeIs_int s' 1 t) noFill_tuple_mul F.fills_int_mul F.slot_int_rmul repeat_tuple F.slot_int_index.lookup
      (call_meets F.slot_int_rmul (typeIs_int s 1 t) F.entry_int_rmul (F.args_int_rmul_2 _ _) (int_rmul_tuple 1 t l its.toArray n dd sl)
        ⟨ho, rfl, ⟨_, ho, rfl⟩, call_meets F.slot_tuple_mul ⟨_, ho, rfl⟩ F.entry_tuple_mul (F.args_tuple_mul_2 _ _) (tuple_mulS l its.toArray n sl dd t hi) ⟨ho, ?_⟩⟩)
    exact ⟨.ref l, H, I, rfl, q⟩
  · refine wpAny_binaryOp_repeat_ref (T := "tuple") (U := "int") (by decide) ⟨_, ho, rfl⟩ (fun s' => typeIs_int s' 0 t) noFill_tuple_mul F.fills_int_mul F.slot_int_rmul repeat_tuple F.slot_int_index.lookup
      (call_meets F.slot_int_rmul (typeIs_int s 0 t) F.entry_int_rmul (F.args_int_rmul_2 _ _) (int_rmul_tuple 0 t l its.toArray n dd sl)
        ⟨ho, rfl, ⟨_, ho, rfl⟩, call_meets F.slot_tuple_mul ⟨_, ho, rfl⟩ F.entry_tuple_mul (F.args_tuple_mul_2 _ _) (tuple_mul0 l its.toArray n sl dd t hi) ⟨ho, ?_⟩⟩)
    refine ⟨.ref s.heap.objs.size, _, I.laid (t' := s.toks) (o := .tup []) (fun b ob q => Heap.get?_push_of_some _ q) (Nat.le_refl _) ?_, rfl, q _ (I.hok.fresh (Nat.le_refl _))⟩
    exact ⟨by rw [sizeLine_eq]; simp, [], .nil, IsTup.new _ _⟩
end
end VL

set_option maxRecDepth 100000
set_option maxHeartbeats 2000000
/-! VL: ranges whose ends are of any size. -/
namespace PySem
section
variable {prog : Program} {w : World} {A : Around} {E : Value → Shared → Prop} {s : Shared}
theorem vl_extend_long {R : Result → Shared → Prop} {r : Addr} {a b c : Int} {t u v : Tok} {n : Nat} (hh : A.handled = none) (hr : IsRange s.heap r a b c t u v) (hbig : Builtin.Range.small a b c = false)
    (hn : Builtin.Range.rangeSize a b c = n) (hlen : n ≤ 2 ^ 24) (S : Addr) (res : Value) (c₀ : Nat) (hS : s.heap.get? S = some { cls := .type "list", data := .seq #[] c₀ })
    (hR : ∀ h' tk acc' c', (∀ b o, b ≠ S → s.heap.get? b = some o → h'.get? b = some o) → h'.get? S = some { cls := .type "list", dict := none, data := .seq acc' c', slots := #[] } →
      ItemsOf (fun i v => ∃ t, v = .int (a + i * c) t) acc' n → R (.ok (.ret res)) { s with heap := h', toks := tk }) :
    wpAny (model prog w) A.in1 (Builtin.List.listExtendWith (.ref S) (.ref r) res)
      (fun fin s' => match fin with | .done f => R (.ok f) s' | .again c' => c'.quiet = true ∧ codeAny (model prog w) A c' R s') (fun e s' => R (.error e) s') s := by
  have hSr : S ≠ r := fun e => by rw [e, hr] at hS; simp at hS
  have hSlt : S < s.heap.objs.size := Heap.lt_size hS
  have hSI : S ≠ s.heap.objs.size := Nat.ne_of_lt hSlt
  have hSf : S ∉ [s.heap.objs.size] := fun hm => hSI (List.mem_singleton.mp hm)
  have W := (Walks.longrange (prog := prog) (w := w) (A := A.in1) hh s.heap.objs.size a c n).toS
  have key : ∀ (h : Heap) (c₁ tk : Nat), IsLongIter h s.heap.objs.size (a + ((0 : Nat) : Int) * c) ((n : Int) - ((0 : Nat) : Int)) c → (∀ b o, b ≠ S → s.heap.get? b = some o → h.get? b = some o) →
      h.get? S = some { cls := .type "list", data := .seq #[] c₁ } → codeAny (model prog w) A (.builtin "list.extend.loop" ⟨[.ref S, .ref s.heap.objs.size, res], []⟩) R { s with heap := h, toks := tk } := by
    intro h c₁ tk hit hk hS₁
    refine codeAny_extend_loopS W (by rw [sizeLine_eq]; omega) S hSf res n 0 _ #[] c₁ rfl (Nat.zero_le _) hit hS₁ (ItemsOf.nil _) fun s' acc' c' hm hS' hacc => ?_
    rw [Moved.eq_with hm]
    refine hR s'.heap s'.toks acc' c' (fun b o hb e => hm.heap b o (fun hmem => ?_) (hk b o hb e)) hS' hacc
    rcases List.mem_cons.mp hmem with e' | hmem
    · exact hb e'
    · exact absurd (Heap.lt_size e) (by rw [List.mem_singleton.mp hmem]; exact Nat.lt_irrefl _)
  unfold Builtin.List.listExtendWith
  refine wpAny_bind (wpAny_typeOf (T := "range") ⟨_, hr, rfl⟩ ?_)
  have h1 : Builtin.List.listSameRef (.ref S) (.ref r) = false := by simp [Builtin.List.listSameRef, hSr]
  have h2 : (Value.type "range" == Value.type "list") = false := by decide
  have h3 : (Value.type "range" == Value.type "tuple") = false := by decide
  simp only [h1, h2, h3, Bool.or_false, Bool.false_eq_true, if_false]
  refine wpAny_bind (wpAny_pyIter_longrange hr hbig ?_)
  refine wpAny_bind (wpAny_holding (wpAny_hint_range (n := n) (Heap.get?_push_of_some _ hr) hn hlen ?_))
  have hit₁ : IsLongIter (s.heap.push { cls := .type "longrange_iterator", data := .fields #[rawInt a, rawInt (Builtin.Range.rangeSize a b c), rawInt c] }) s.heap.objs.size (a + ((0 : Nat) : Int) * c) ((n : Int) - ((0 : Nat) : Int)) c := by
    show IsLongIter _ _ _ _ _; rw [hn]; simpa using Heap.get?_push_size _ rfl
  have hS₁ := Heap.get?_push_of_some { cls := .type "longrange_iterator", data := .fields #[rawInt a, rawInt (Builtin.Range.rangeSize a b c), rawInt c] } hS
  refine wpAny_ite_split (fun _ => ?_) (fun _ => wpAny_pure ⟨plainId_quiet F.plain_extend_loop _, key _ c₀ _ hit₁ (fun b o _ e => Heap.get?_push_of_some _ e) hS₁⟩)
  refine wpAny_bind (wpAny_rule ?_)
  refine wpAny_bind ?_
  show wpAny _ _ (updateSeq S (·.push .none) >>= fun _ => updateSeq S (·.pop)) _ _ _
  refine wpAny_bind (wpAny_updateSeq hS₁ rfl ?_)
  have hS₂ := Heap.get?_update_self (Obj.mapSeq (·.push Value.none)) hS₁ rfl
  refine wpAny_updateSeq (hz := by seq_fits) hS₂ rfl ?_
  have hS₃ := Heap.get?_update_self (Obj.mapSeq (·.pop)) hS₂ rfl
  refine wpAny_pure ⟨plainId_quiet F.plain_extend_loop _, key _ _ _ ?_ (fun b o hb e => ?_) hS₃⟩
  · exact (Heap.get?_update_other _ _ hSI).trans ((Heap.get?_update_other _ _ hSI).trans hit₁)
  · exact (Heap.get?_update_other _ _ (Ne.symm hb)).trans ((Heap.get?_update_other _ _ (Ne.symm hb)).trans (Heap.get?_push_of_some _ e))
theorem vl_init_long {R : Result → Shared → Prop} {r : Addr} {a b c : Int} {t u v : Tok} {n : Nat} (hh : A.handled = none) (hr : IsRange s.heap r a b c t u v) (hbig : Builtin.Range.small a b c = false)
    (hn : Builtin.Range.rangeSize a b c = n) (hlen : n ≤ 2 ^ 24) (S : Addr) (hS : s.heap.get? S = some { cls := .type "list", data := .seq #[] })
    (hR : ∀ h' tk acc' c', (∀ b o, b ≠ S → s.heap.get? b = some o → h'.get? b = some o) → h'.get? S = some { cls := .type "list", dict := none, data := .seq acc' c', slots := #[] } →
      ItemsOf (fun i v => ∃ t, v = .int (a + i * c) t) acc' n → R (.ok (.ret .none)) { s with heap := h', toks := tk }) :
    wpAny (model prog w) A.in1 (Builtin.«list.__init__» ⟨[.ref S, .ref r], []⟩)
      (fun fin s' => match fin with | .done f => R (.ok f) s' | .again c' => c'.quiet = true ∧ codeAny (model prog w) A c' R s') (fun e s' => R (.error e) s') s := by
  have hSr : S ≠ r := fun e => by rw [e, hr] at hS; simp at hS
  show wpAny _ _ (do let old ← Builtin.List.listItems (.ref S); Builtin.List.listUpdate (.ref S) (fun _ => #[]); letGo old.toList.reverse; Builtin.List.listExtendWith (.ref S) (.ref r) .none) _ _ s
  refine wpAny_bind ?_
  unfold Builtin.List.listItems
  refine wpAny_bind (wpAny_seqItems hS rfl (wpAny_pure ?_))
  show wpAny _ _ (updateSeq S (fun _ => #[]) >>= fun _ => letGo (#[] : Array Value).toList.reverse >>= fun _ => Builtin.List.listExtendWith (.ref S) (.ref r) .none) _ _ s
  refine wpAny_bind (wpAny_updateSeq hS rfl ?_)
  have hS₂ := Heap.get?_update_self (Obj.mapSeq (fun _ => (#[] : Array Value))) hS rfl
  have oth : ∀ b o, b ≠ S → s.heap.get? b = some o → (s.heap.update S (Obj.mapSeq (fun _ => (#[] : Array Value)))).get? b = some o :=
    fun b o hb e => (Heap.get?_update_other _ _ (Ne.symm hb)).trans e
  refine wpAny_bind (wpAny_letGo ?_)
  refine vl_extend_long hh (oth r _ (Ne.symm hSr) hr) hbig hn hlen S .none _ hS₂ fun h' tk acc' c' hk hS' hacc => ?_
  exact hR h' tk acc' c' (fun b o hb e => hk b o hb (oth b o hb e)) hS' hacc
theorem vl_list_range {Q : Value → Shared → Prop} {r : Addr} {a b c : Int} {t u v : Tok} {n : Nat} (hh : A.handled = none) (hr : IsRange s.heap r a b c t u v) (hn : Builtin.Range.rangeSize a b c = n) (hlen : n ≤ 2 ^ 24)
    (hQ : ∀ h' tk acc' c', (∀ b o, s.heap.get? b = some o → h'.get? b = some o) →
      h'.get? s.heap.objs.size = some { cls := .type "list", dict := none, data := .seq acc' c', slots := #[] } → ItemsOf (fun i v => ∃ t, v = .int (a + i * c) t) acc' n → Q (.ref s.heap.objs.size) { s with heap := h', toks := tk }) :
    wpAny (model prog w) A (call (.type "list") [.ref r]) Q E s := by
  cases sm : Builtin.Range.small a b c with
  | true => exact call_list_range hh hr sm hn hlen hQ
  | false =>
    refine callType_codes (Q₁ := fun obj s₁ => obj = .ref s.heap.objs.size ∧ s₁ = { s with heap := s.heap.push { cls := .type "list", data := .seq #[] } }) F.called_list (F.typeCall_list_1 _) F.entry_list_init
      (code_list_new _ ⟨rfl, rfl⟩) fun obj s₁ h₁ => ?_
    obtain ⟨rfl, rfl⟩ := h₁
    have hS : (s.heap.push { cls := .type "list", data := .seq #[] }).get? s.heap.objs.size = some { cls := .type "list", data := .seq #[] } := Heap.get?_push_size _ rfl
    refine ⟨⟨_, hS, rfl⟩, F.args_list_init_2 _ _, vl_init_long (A := A.in1) hh (Heap.get?_push_of_some _ hr) sm hn hlen _ hS fun h' tk acc' c' hk hS' hacc => ?_⟩
    exact ⟨rfl, hQ h' tk acc' c' (fun b o e => hk b o (Nat.ne_of_lt (Heap.lt_size e)) (Heap.get?_push_of_some _ e)) hS' hacc⟩
end
end PySem
namespace L2
open PySem PySem.Spec PyProof.Rows
theorem vl_turn_long {P : Program} {w : World} {K : PySem.W.Frag} {tg : Expr} (it : Addr) (lo : Int) (n : Nat) : Turn P w K tg (Itr lo n) [it] it (fun i h => IsLongIter h it (lo + (i : Nat) * 1) ((n : Int) - (i : Nat)) 1) where
  mem := by simp
  obj := fun i h st b hb => by
    have e : b = it := by simpa using hb
    subst e
    exact ⟨_, st, fun v z => by
      have z' : Data.fields _ = Data.cell v := z
      cases z'⟩
  keep := fun i h h' st k => k it (by simp) _ st
  item := by
    intro X hP hw hK hc i pins s σ H E I hf st hg
    subst hP hw hK
    obtain ⟨f0, f1, f2, f3, f4, f5⟩ := hf it (by simp)
    have W := Walks.longrange (prog := X.prog) (w := X.w) (I.ok.hd hc) it lo 1 n
    refine W.item i s _ _ hg st fun v h' tk hv st' kk => ?_
    obtain ⟨t, rfl⟩ := hv
    have I1 : Inv X pins σ H { s with heap := h', toks := tk } := I.turned (fun b o hb e => kk b o (by simpa using hb) e) f0 f1 f3 f4 f5
    refine ⟨_, rfl, go_of (s := { s with heap := h', toks := tk }) (n := "longrange_iterator") st' rfl rfl (by decide) ⟨.int (lo + i), H, I1, ⟨t, ?_⟩, ⟨rfl, rfl⟩, st', fun b hb => (hf b hb).1⟩⟩
    rw [Int.mul_one]
  done := by
    intro X hP hw hK hc i pins s σ H E I hf st hg
    subst hP hw hK
    obtain ⟨f0, f1, f2, f3, f4, f5⟩ := hf it (by simp)
    exact wpAny_pyNext_long_end (I.ok.hd hc) st (by have : n ≤ i := hg; omega) fun h' eb => ⟨rfl, I.turned (t' := s.toks) (fun b o hb e => eb b o hb e) f0 f1 f3 f4 f5⟩
  self := fun _ _ _ _ _ st h => wpAny_pyIter_longiter st h
section
variable {X : Cx} {tg : Expr}
/-- a range object just made, walked, its ends of any size -/
theorem vl_range_it {pins : List (Addr × Obj)} {σ : St} {H : Hp} {s : Shared} {R : It → Hp → Prop} {E : Value → Shared → Prop} {lo hi : Int} {t u v : Tok} {tk : Nat} (I : Inv X pins σ H s)
    (q : R (Itr lo (hi - lo).toNat) H) : wpAny (model X.prog X.w) X.A (pyIter (.ref s.heap.objs.size)) (PIE X pins σ tg R) E { s with heap := s.heap.push { cls := .type "range", data := .fields #[.int lo t, .int hi u, .int 1 v] }, toks := tk } := by
  have e1 : lo + ((0 : Nat) : Int) * 1 = lo := by simp
  have e2 : (((hi - lo).toNat : Nat) : Int) - ((0 : Nat) : Int) = Builtin.Range.rangeSize lo hi 1 := by rw [rangeSize_one]; split <;> omega
  have I1 : Inv X pins σ H { s with heap := s.heap.push { cls := .type "range", data := .fields #[.int lo t, .int hi u, .int 1 v] }, toks := tk } := I.kept fun b o e => Heap.get?_push_of_some _ e
  cases sm : Builtin.Range.small lo hi 1 with
  | true =>
    refine wpAny_pyIter_range (IsRange.new ..) sm ?_
    refine ⟨(s.heap.push { cls := .type "range", data := .fields #[.int lo t, .int hi u, .int 1 v] }).objs.size, [(s.heap.push { cls := .type "range", data := .fields #[.int lo t, .int hi u, .int 1 v] }).objs.size], _, _, H, rfl,
      I1.kept (t' := tk) fun b o e => Heap.get?_push_of_some _ e, turn_range _ lo (hi - lo).toNat, ?_, fun b hb => ?_, q⟩
    · show IsRangeIter _ _ (lo + ((0 : Nat) : Int) * 1) ((((hi - lo).toNat : Nat) : Int) - ((0 : Nat) : Int)) 1
      rw [e1, e2]
      exact Heap.get?_push_size _ rfl
    · have e : b = (s.heap.push { cls := .type "range", data := .fields #[.int lo t, .int hi u, .int 1 v] }).objs.size := by simpa using hb
      subst e
      exact I1.fpOk (Nat.le_refl _) (I1.hok.fresh (Nat.le_refl _))
  | false =>
    refine wpAny_pyIter_longrange (IsRange.new ..) sm ?_
    refine ⟨(s.heap.push { cls := .type "range", data := .fields #[.int lo t, .int hi u, .int 1 v] }).objs.size, [(s.heap.push { cls := .type "range", data := .fields #[.int lo t, .int hi u, .int 1 v] }).objs.size], _, _, H, rfl,
      I1.kept (t' := tk) fun b o e => Heap.get?_push_of_some _ e, vl_turn_long _ lo (hi - lo).toNat, ?_, fun b hb => ?_, q⟩
    · show IsLongIter _ _ (lo + ((0 : Nat) : Int) * 1) ((((hi - lo).toNat : Nat) : Int) - ((0 : Nat) : Int)) 1
      rw [e1, e2]
      exact Heap.get?_push_size _ rfl
    · have e : b = (s.heap.push { cls := .type "range", data := .fields #[.int lo t, .int hi u, .int 1 v] }).objs.size := by simpa using hb
      subst e
      exact I1.fpOk (Nat.le_refl _) (I1.hok.fresh (Nat.le_refl _))
def iRng2W (ta : TA) : TI := fun σ H R => ta σ H fun vs H1 => ∃ i j : Int, vs = [.int i, .int j] ∧ R (Itr i (j - i).toNat) H1
theorem pi_range2W {a b : Expr} {ta : TA} {p pos : Pos} (hg : Gl X "range") (hm : X.mg "range" = none) (ha : PA X [a, b] ta) (hs : starEach [a, b] X.env = [(false, eval a X.env), (false, eval b X.env)] := by rfl) (hs2 : starEach [b] X.env = [(false, eval b X.env)] := by rfl) :
    PI X tg (.Call (.Name "range" p) [a, b] [] pos) (iRng2W ta) := by
  refine ⟨fun pins s σ H R I h => ?_⟩
  refine Call_ (ld_blt I hg hm boot_range (PyProof.Rows.callWith_type1 (thn (ha.run pos pins s σ H _ I h) fun us s1 ⟨vs, H1, I1, r1, q1⟩ => ?_) (by rw [hs, hs2]) (by rw [hs2]; rfl)))
  obtain ⟨i, j, e, q⟩ := q1
  subst e
  cases r1 with
  | cons r rr =>
    cases rr with
    | cons r' rr =>
      cases rr
      obtain ⟨t, rfl⟩ := r
      obtain ⟨t', rfl⟩ := r'
      exact call_range_2 (vl_range_it I1 q)
def tLstRgW (te : St → Hp → (Int → Int → Hp → Prop) → Prop) : TE := fun σ H Q => te σ H fun a b H1 => (b - a).toNat ≤ 2 ^ 24 ∧ ∀ q, H1 q = none → Q (.ref q) (upd H1 q (.lst (rgV a b)))
theorem pe_listRgW {e : Expr} {te : St → Hp → (Int → Int → Hp → Prop) → Prop} {p pos : Pos} (hc : X.calm = true) (hg : Gl X "list") (hm : X.mg "list" = none) (he : PRg X e te) (na : starEach [e] X.env = (false, eval e X.env) :: starEach [] X.env := by rfl) : PE X (.Call (.Name "list" p) [e] [] pos) (tLstRgW te) := by
  refine ⟨fun pins s σ H Q I h => ?_⟩
  refine Call_ (ld_blt I hg hm boot_list (PyProof.Rows.callWith_type1 (args_cons (thn (he pins s σ H _ I h) fun x s1 ⟨r, a, b, t, u, v, H1, ex, hr, I1, ok, q⟩ => args_nil ?_) na) na))
  subst ex
  refine vl_list_range (n := (b - a).toNat) (I1.ok.hd hc) hr (rangeSize_nat a b) ok fun h' tk acc c' hk e' hi => ?_
  refine ⟨.ref s1.heap.objs.size, upd H1 s1.heap.objs.size (.lst (rgV a b)), I1.laid hk (Nat.le_refl _) (show ObjOk X.prog X.w _ _ _ (.lst (rgV a b)) from ⟨?_, acc.toList, c', vals_rg hi, ?_⟩), rfl, q _ (I1.hok.fresh (Nat.le_refl _))⟩
  · rw [rgV_length, sizeLine_eq]; omega
  · rw [Array.toArray_toList]; exact e'
end
end L2

set_option maxRecDepth 100000
set_option maxHeartbeats 2000000
/-! VL: the operations. -/
namespace VL
open PySem L2 Evl PyProof.Rows PySem.Spec

theorem nd_inj {α : Type} {l : List α} (nd : l.Nodup) {i j : Nat} {x : α} (h : l[i]? = some x) (h2 : l[j]? = some x) : i = j :=
  (List.getElem?_inj (List.getElem?_eq_some_iff.mp h).1 nd).mp (h.trans h2.symm)
section
variable {K : PySem.W.Frag} {Cl : Nat → Addr} {cs cs' : List Addr} {F F' H H' : Hp} {σ : L2.St} {ρ : Env} {h h' : AHeap} {a p : Addr} {c : Cell} {o : HO}
/-- a new frozen object -/
theorem StOk.newF (S : StOk K Cl cs F H h) (hp : H p = none) : StOk K Cl cs (upd F p o) (upd H p o) h := by
  have hF : F p = none := by
    cases q : F p with
    | none => rfl
    | some u => rw [S.sub _ _ q] at hp; cases hp
  have e : Ex F (upd F p o) := Ex.new hF
  refine ⟨fun b u q => ?_, S.len, S.nd, fun n a q => ?_, fun a q => ?_⟩
  · by_cases hb : b = p
    · subst hb; rw [upd_same] at q ⊢; exact q
    · rw [upd_ne hb] at q ⊢; exact S.sub _ _ q
  · refine (S.cell n a q).mono e ⟨[], by simp⟩ fun u hu => ?_
    rw [upd_ne (ne_of_none hu hp)]
    exact hu
  · have hs := (List.mem_iff_getElem?.mp q)
    obtain ⟨n, hn⟩ := hs
    have hne : a ≠ p := fun z => by
      subst z
      exact (S.cell n a hn).some hp
    rw [upd_ne hne]
    exact S.free a q
theorem Stp.newF (S : StOk K Cl cs F H h) (hp : H p = none) : Stp cs F H cs (upd F p o) (upd H p o) := by
  have hF : F p = none := by
    cases q : F p with
    | none => rfl
    | some u => rw [S.sub _ _ q] at hp; cases hp
  refine ⟨Ex.new hF, ⟨[], by simp⟩, fun b u q _ => ?_, fun b q => ?_, fun b q1 q2 => ?_, fun b q1 q2 => absurd q1 q2⟩
  · rw [upd_ne (ne_of_none q hp)]; exact q
  · by_cases hb : b = p
    · subst hb; rw [upd_same]; simp
    · rw [upd_ne hb]; exact q
  · by_cases hb : b = p
    · subst hb; exact hp
    · rw [upd_ne hb] at q2; exact absurd q1 q2
/-- a new object that is nobody's yet -/
theorem StOk.newN (S : StOk K Cl cs F H h) (hp : H p = none) : StOk K Cl cs F (upd H p o) h := by
  refine ⟨fun b u q => ?_, S.len, S.nd, fun n a q => ?_, S.free⟩
  · rw [upd_ne (ne_of_none (S.sub _ _ q) hp)]; exact S.sub _ _ q
  · refine (S.cell n a q).mono (fun _ _ z => z) ⟨[], by simp⟩ fun u hu => ?_
    rw [upd_ne (ne_of_none hu hp)]
    exact hu
theorem Stp.newN (hp : H p = none) : Stp cs F H cs F (upd H p o) := by
  refine ⟨fun _ _ z => z, ⟨[], by simp⟩, fun b u q _ => ?_, fun b q => ?_, fun b q1 q2 => absurd q1 q2, fun b q1 q2 => absurd q1 q2⟩
  · rw [upd_ne (ne_of_none q hp)]; exact q
  · by_cases hb : b = p
    · subst hb; rw [upd_same]; simp
    · rw [upd_ne hb]; exact q
/-- nobody's object is changed -/
theorem StOk.chgN (S : StOk K Cl cs F H h) (hF : F p = none) (hc : p ∉ cs) : StOk K Cl cs F (upd H p o) h := by
  refine ⟨fun b u q => ?_, S.len, S.nd, fun n a q => ?_, S.free⟩
  · have hb : b ≠ p := fun z => by subst z; rw [hF] at q; cases q
    rw [upd_ne hb]; exact S.sub _ _ q
  · refine (S.cell n a q).mono (fun _ _ z => z) ⟨[], by simp⟩ fun u hu => ?_
    have hb : a ≠ p := fun z => by subst z; exact hc (List.mem_of_getElem? q)
    rw [upd_ne hb]
    exact hu
/-- nobody's object is frozen -/
theorem StOk.freeze (S : StOk K Cl cs F H h) (hF : F p = none) (hc : p ∉ cs) (hH : H p = some o) : StOk K Cl cs (upd F p o) H h := by
  refine ⟨fun b u q => ?_, S.len, S.nd, fun n a q => ?_, fun a q => ?_⟩
  · by_cases hb : b = p
    · subst hb; rw [upd_same] at q; rw [← q]; exact hH
    · rw [upd_ne hb] at q; exact S.sub _ _ q
  · exact (S.cell n a q).mono (Ex.new hF) ⟨[], by simp⟩ fun u hu => hu
  · have hb : a ≠ p := fun z => by subst z; exact hc q
    rw [upd_ne hb]; exact S.free a q
/-- nobody's object becomes a cell -/
theorem StOk.cellNew (S : StOk K Cl cs F H h) (hF : F p = none) (hc : p ∉ cs) (r : COk K Cl (cs ++ [p]) F H p c) : StOk K Cl (cs ++ [p]) F H (h ++ [c]) := by
  refine ⟨S.sub, by simp [S.len], ?_, fun n a q => ?_, fun a q => ?_⟩
  · rw [List.nodup_append]
    refine ⟨S.nd, by simp, fun x hx y hy => ?_⟩
    simp at hy
    subst hy
    exact fun z => hc (z ▸ hx)
  · by_cases hn : n < cs.length
    · rw [List.getElem?_append_left hn] at q
      rw [cells_app (by rw [← S.len]; exact hn)]
      exact (S.cell n a q).mono (fun _ _ z => z) ⟨[p], rfl⟩ fun _ z => z
    · have hn2 : n = cs.length := by
        have := (List.getElem?_eq_some_iff.mp q).1
        simp at this
        omega
      subst hn2
      rw [List.getElem?_append_right (Nat.le_refl _)] at q
      simp at q
      subst q
      rw [S.len, cells_new]
      exact r
  · simp at q
    rcases q with q | q
    · exact S.free a q
    · subst q; exact hF
/-- a cell is changed -/
theorem StOk.cellSet (S : StOk K Cl cs F H h) {n : Nat} (e : cs[n]? = some p) (r : COk K Cl cs F (upd H p o) p c) : StOk K Cl cs F (upd H p o) (h.set n c) := by
  have hn : n < h.length := by rw [← S.len]; exact (List.getElem?_eq_some_iff.mp e).1
  refine ⟨fun b u q => ?_, by simp [S.len], S.nd, fun m a q => ?_, S.free⟩
  · have hb : b ≠ p := fun z => by
      subst z
      rw [S.free b (List.mem_of_getElem? e)] at q
      cases q
    rw [upd_ne hb]; exact S.sub _ _ q
  · by_cases hm : n = m
    · subst hm
      rw [e] at q
      cases q
      rw [cells_set_same hn]
      exact r
    · rw [cells_set_ne hm]
      refine (S.cell m a q).mono (fun _ _ z => z) ⟨[], by simp⟩ fun u hu => ?_
      have hb : a ≠ p := fun z => by
        subst z
        have h1 := (List.getElem?_eq_some_iff.mp e)
        have h2 := (List.getElem?_eq_some_iff.mp q)
        exact hm (nd_inj S.nd e q)
      rw [upd_ne hb]
      exact hu
theorem Stp.chg {F H : Hp} (hc : p ∈ cs) : Stp cs F H cs F (upd H p o) := by
  refine ⟨fun _ _ z => z, ⟨[], by simp⟩, fun b u q n => ?_, fun b q => ?_, fun b q1 q2 => absurd q1 q2, fun b q1 q2 => absurd q1 q2⟩
  · rw [upd_ne fun z => by subst z; exact n hc]; exact q
  · by_cases hb : b = p
    · subst hb; rw [upd_same]; simp
    · rw [upd_ne hb]; exact q
end

/-- a container as it may be read -/
def RepB (K : PySem.W.Frag) (cs : List Addr) (F H : Hp) (b : Bool) (v : V) (d : AV) : Prop :=
  Rep K cs F v d ∨ (b = true ∧ ∃ a, v = .ref a ∧ a ∉ cs ∧ F a = none ∧ ((∃ vs xs, d = .lst xs ∧ H a = some (.lst vs) ∧ Reps K cs F vs xs) ∨ ∃ us xs, d = .dct xs ∧ H a = some (.dK us) ∧ RepK K cs F us xs))
section
variable {K : PySem.W.Frag} {Cl : Nat → Addr} {cs cs' : List Addr} {F F' H H' : Hp} {σ : L2.St} {ρ : Env} {h h' : AHeap} {b : Bool} {v : V} {d : AV}
theorem RepB.step (r : RepB K cs F H b v d) (x : Stp cs F H cs' F' H') : RepB K cs' F' H' b v d := by
  rcases r with r | ⟨hb, a, e, n1, n2, r⟩
  · exact .inl (r.mono x.f x.c)
  · have hs : H a ≠ none := by
      rcases r with ⟨vs, xs, _, q, _⟩ | ⟨vs, xs, _, q, _⟩ <;> rw [q] <;> simp
    have h1 : a ∉ cs' := fun z => hs (x.m a z n1)
    have h2 : F' a = none := by
      cases w : F' a with
      | none => rfl
      | some o => exact absurd (x.n a n2 (by rw [w]; simp)) hs
    refine .inr ⟨hb, a, e, h1, h2, ?_⟩
    rcases r with ⟨vs, xs, e1, q, r⟩ | ⟨vs, xs, e1, q, r⟩
    · exact .inl ⟨vs, xs, e1, x.k _ _ q n1, r.mono x.f x.c⟩
    · exact .inr ⟨vs, xs, e1, x.k _ _ q n1, r.mono x.f x.c⟩
theorem RepB.plain (r : RepB K cs F H false v d) : Rep K cs F v d := by
  rcases r with r | ⟨hb, _⟩
  · exact r
  · cases hb
theorem cell_at {n : Nat} {a : Addr} {xs : List AV} (S : StOk K Cl cs F H h) (e : cs[n]? = some a) (q : cells h n = .lst xs) : ∃ vs, H a = some (.lst vs) ∧ Reps K cs F vs xs := by
  have := S.cell n a e
  rw [q] at this
  exact this
theorem cell_atD {n : Nat} {a : Addr} {xs : List (Key × AV)} (S : StOk K Cl cs F H h) (e : cs[n]? = some a) (q : cells h n = .dct xs) : ∃ vs, H a = some (.dK vs) ∧ RepK K cs F vs xs := by
  have := S.cell n a e
  rw [q] at this
  exact this
theorem RepB.viewW (r : RepB K cs F H b v d) (S : StOk K Cl cs F H h) {xs : List AV} (e : viewW h d = some xs) : ∃ a vs, v = .ref a ∧ H a = some (.lst vs) ∧ Reps K cs F vs xs := by
  rcases r with r | ⟨hb, a, e1, n1, n2, r⟩
  · cases r with
    | lst q r => simp [VL.viewW] at e; subst e; exact ⟨_, _, rfl, S.sub _ _ q, r⟩
    | adr q =>
      rename_i n a
      simp only [VL.viewW] at e
      split at e
      · rename_i xs' hc
        cases e
        obtain ⟨vs, q1, q2⟩ := cell_at S q hc
        exact ⟨_, _, rfl, q1, q2⟩
      · cases e
    | _ => simp [VL.viewW] at e
  · rcases r with ⟨vs, xs', e2, q, r⟩ | ⟨vs, xs', e2, q, r⟩
    · subst e2; simp [VL.viewW] at e; subst e; exact ⟨_, _, e1, q, r⟩
    · subst e2; simp [VL.viewW] at e
theorem RepB.viewE (r : RepB K cs F H b v d) (S : StOk K Cl cs F H h) {xs : List AV} (e : VL.viewE h d = some xs) : ∃ a vs, v = .ref a ∧ (H a = some (.lst vs) ∨ SqT K H a vs) ∧ Reps K cs F vs xs := by
  have old : VL.viewW h d = some xs → ∃ a vs, v = .ref a ∧ (H a = some (.lst vs) ∨ SqT K H a vs) ∧ Reps K cs F vs xs := fun e => by
    obtain ⟨a, vs, e1, e2, e3⟩ := r.viewW S e
    exact ⟨a, vs, e1, .inl e2, e3⟩
  cases d with
  | tup ys =>
    have e : some ys = some xs := e
    cases e
    rcases r with r | ⟨hb, a, e1, n1, n2, r⟩
    · cases r with
      | tup g1 g2 => exact ⟨_, _, rfl, .inr (ex_t S.sub g1), g2⟩
    · rcases r with ⟨vs, xs', e2, q, r⟩ | ⟨vs, xs', e2, q, r⟩ <;> cases e2
  | lst ys => exact old e
  | adr n => exact old e
  | _ => cases e
theorem RepB.view (r : RepB K cs F H b v d) (S : StOk K Cl cs F H h) {xs : List AV} (e : view h d = some xs) : ∃ a vs, v = .ref a ∧ SqL K H a vs ∧ Reps K cs F vs xs := by
  rcases r with r | ⟨hb, a, e1, n1, n2, r⟩
  · cases r with
    | lst q r => simp [VL.view] at e; subst e; exact ⟨_, _, rfl, sq_of (S.sub _ _ q), r⟩
    | ro q r => simp [VL.view] at e; subst e; exact ⟨_, _, rfl, ex_l S.sub q, r⟩
    | adr q =>
      rename_i n a
      simp only [VL.view] at e
      split at e
      · rename_i xs' hc
        cases e
        obtain ⟨vs, q1, q2⟩ := cell_at S q hc
        exact ⟨_, _, rfl, sq_of q1, q2⟩
      · cases e
    | _ => simp [VL.view] at e
  · rcases r with ⟨vs, xs', e2, q, r⟩ | ⟨vs, xs', e2, q, r⟩
    · subst e2; simp [VL.view] at e; subst e; exact ⟨_, _, e1, sq_of q, r⟩
    · subst e2; simp [VL.view] at e
theorem viewT_eq {h : AHeap} {d : AV} {xs : List AV} (e : viewT h d = some xs) : d = .tup xs ∨ view h d = some xs := by
  unfold VL.viewT at e
  split at e
  · cases e; exact .inl rfl
  · exact .inr e
theorem RepB.viewT (r : RepB K cs F H b v d) (S : StOk K Cl cs F H h) {xs : List AV} (e : viewT h d = some xs) : ∃ a vs, v = .ref a ∧ (SqL K H a vs ∨ SqT K H a vs) ∧ Reps K cs F vs xs := by
  rcases viewT_eq e with q | q
  · subst q
    rcases r with r | ⟨hb, a, e1, n1, n2, r⟩
    · cases r with
      | tup q r => exact ⟨_, _, rfl, .inr (ex_t S.sub q), r⟩
    · rcases r with ⟨vs, xs', e2, q, r⟩ | ⟨vs, xs', e2, q, r⟩ <;> cases e2
  · obtain ⟨a, vs, h1, h2, h3⟩ := r.view S q
    exact ⟨a, vs, h1, .inl h2, h3⟩
theorem RepB.viewD (r : RepB K cs F H b v d) (S : StOk K Cl cs F H h) {xs : List (Key × AV)} (e : viewD h d = some xs) : ∃ a vs, v = .ref a ∧ Rd H a (.dK vs) ∧ RepK K cs F vs xs := by
  rcases r with r | ⟨hb, a, e1, n1, n2, r⟩
  · cases r with
    | dct q r => simp [VL.viewD] at e; subst e; exact ⟨_, _, rfl, .inr ⟨_, S.sub _ _ q⟩, r⟩
    | adr q =>
      rename_i n a
      simp only [VL.viewD] at e
      split at e
      · rename_i xs' hc
        cases e
        obtain ⟨vs, q1, q2⟩ := cell_atD S q hc
        exact ⟨_, _, rfl, .inl q1, q2⟩
      · cases e
    | _ => simp [VL.viewD] at e
  · rcases r with ⟨vs, xs', e2, q, r⟩ | ⟨vs, xs', e2, q, r⟩
    · subst e2; simp [VL.viewD] at e
    · subst e2; simp [VL.viewD] at e; subst e; exact ⟨_, _, e1, .inl q, r⟩
mutual
theorem Rep.dpH (S : StOk K Cl cs F H h) : ∀ {v : V} {d : AV}, Rep K cs F v d → ∀ {p : PyData}, VL.pdH h d = some p → Dp K H v p
  | _, _, .non, _, q => by simp [VL.pdH] at q; subst q; exact .non
  | _, _, .bl b, _, q => by simp [VL.pdH] at q; subst q; exact .bl b
  | _, _, .int i, _, q => by simp [VL.pdH] at q; subst q; exact .int i
  | _, _, .str s, _, q => by simp [VL.pdH] at q; subst q; exact .str s
  | _, _, .tup h r, _, q => by
    simp [VL.pdH] at q
    obtain ⟨l, e1, e2⟩ := q
    subst e2
    exact .tup (ex_t S.sub h) (Reps.dpH S r e1)
  | _, _, .lst h r, _, q => by
    simp [VL.pdH] at q
    obtain ⟨l, e1, e2⟩ := q
    subst e2
    exact .lst (sq_of (S.sub _ _ h)) (Reps.dpH S r e1)
  | _, _, .ro h r, _, q => by
    simp [VL.pdH] at q
    obtain ⟨l, e1, e2⟩ := q
    subst e2
    exact .lst (ex_l S.sub h) (Reps.dpH S r e1)
  | _, _, .dct h r, _, q => by simp [VL.pdH] at q
  | _, _, .adr g, _, q => by
    simp only [VL.pdH] at q
    split at q
    · rename_i xs' hc
      simp at q
      obtain ⟨l, e1, e2⟩ := q
      subst e2
      obtain ⟨vs, q1, q2⟩ := cell_at S g hc
      exact .lst (sq_of q1) (q2.dp S.sub e1)
    · cases q
theorem Reps.dpH (S : StOk K Cl cs F H h) : ∀ {v : List V} {d : List AV}, Reps K cs F v d → ∀ {p : List PyData}, VL.pdHs h d = some p → DpAll K H v p
  | _, _, .nil, _, q => by simp [VL.pdHs] at q; subst q; exact .nil
  | _, _, .cons g r, _, q => by
    simp [VL.pdHs, Option.bind_eq_some_iff] at q
    obtain ⟨d1, e1, l, e2, e3⟩ := q
    subst e3
    exact .cons (Rep.dpH S g e1) (Reps.dpH S r e2)
end
theorem Reps.upH : ∀ {v : List V} {d : List AV}, Reps K cs F v d → StOk K Cl cs F H h → ∀ {p : List PyData}, VL.pdHs h d = some p → DpAll K H v p := fun r S _ q => Reps.dpH S r q
theorem RepB.pdH (r : RepB K cs F H b v d) (S : StOk K Cl cs F H h) {p : PyData} (e : pdH h d = some p) : Dp K H v p := by
  rcases r with r | ⟨hb, a, e1, n1, n2, r⟩
  · exact Rep.dpH S r e
  · rcases r with ⟨vs, xs', e2, q, r⟩ | ⟨vs, xs', e2, q, r⟩
    · subst e2
      simp [VL.pdH] at e
      obtain ⟨l, e3, e4⟩ := e
      subst e4 e1
      exact .lst (sq_of q) (r.dpH S e3)
    · subst e2; simp [VL.pdH] at e
theorem RepB.int {i : Int} (r : RepB K cs F H b v (.int i)) : v = .int i := by
  rcases r with r | ⟨_, _, _, _, _, ⟨_, _, e, _⟩ | ⟨_, _, e, _⟩⟩
  · cases r; rfl
  · cases e
  · cases e
theorem RepB.str {i : Str} (r : RepB K cs F H b v (.str i)) : v = .str i := by
  rcases r with r | ⟨_, _, _, _, _, ⟨_, _, e, _⟩ | ⟨_, _, e, _⟩⟩
  · cases r; rfl
  · cases e
  · cases e
theorem RepB.bl {i : Bool} (r : RepB K cs F H b v (.bl i)) : v = .bl i := by
  rcases r with r | ⟨_, _, _, _, _, ⟨_, _, e, _⟩ | ⟨_, _, e, _⟩⟩
  · cases r; rfl
  · cases e
  · cases e
theorem RepB.non (r : RepB K cs F H b v .non) : v = .non := by
  rcases r with r | ⟨_, _, _, _, _, ⟨_, _, e, _⟩ | ⟨_, _, e, _⟩⟩
  · cases r; rfl
  · cases e
  · cases e
theorem RepB.isNon (r : RepB K cs F H b v d) : decide (v = V.non) = isNon d := by
  rcases r with r | ⟨_, _, e1, _, _, ⟨_, _, e, _⟩ | ⟨_, _, e, _⟩⟩
  · cases r <;> rfl
  · subst e e1; rfl
  · subst e e1; rfl
theorem RepB.flat (r : RepB K cs F H b v d) (f : flatA d = true) : flatV v = true ∧ ∀ w e, Rep K cs F w e → flatA e = true → eqV w v = eqF e d := by
  have key : ∀ {v d}, Rep K cs F v d → flatA d = true → flatV v = true ∧ ∀ w e, Rep K cs F w e → flatA e = true → eqV w v = eqF e d := by
    intro v d r f
    cases r with
    | non => exact ⟨rfl, fun w e r f => by cases r <;> first | rfl | cases f⟩
    | bl x => exact ⟨rfl, fun w e r f => by cases r <;> first | rfl | cases f⟩
    | int x => exact ⟨rfl, fun w e r f => by cases r <;> first | rfl | cases f⟩
    | str x => exact ⟨rfl, fun w e r f => by cases r <;> first | rfl | cases f⟩
    | _ => cases f
  rcases r with r | ⟨_, _, _, _, _, ⟨_, _, e, _⟩ | ⟨_, _, e, _⟩⟩
  · exact key r f
  · subst e; cases f
  · subst e; cases f
theorem Reps.flat {vs : List V} {xs : List AV} (r : Reps K cs F vs xs) (f : xs.all flatA = true) {v : V} {d : AV} (rv : RepB K cs F H b v d) (fd : flatA d = true) :
    vs.all flatV = true ∧ inV v vs = xs.any (fun y => eqF y d) := by
  revert xs
  induction vs with
  | nil => intro xs r f; cases r; exact ⟨rfl, rfl⟩
  | cons w vs ih =>
    intro xs r f
    cases r with
    | cons h t =>
      rw [List.all_cons, Bool.and_eq_true] at f
      obtain ⟨i1, i2⟩ := ih t f.2
      have q : RepB K cs F H false w _ := .inl h
      refine ⟨by rw [List.all_cons, (q.flat f.1).1, i1]; rfl, ?_⟩
      unfold inV at i2 ⊢
      rw [List.any_cons, List.any_cons, i2, (rv.flat fd).2 w _ h f.1]
theorem Reps.flatAt {vs : List V} {xs : List AV} (r : Reps K cs F vs xs) (f : xs.all flatA = true) {v : V} {d : AV} (rv : RepB K cs F H b v d) (fd : flatA d = true) {i : Nat} {w : V} {e : AV} (h1 : vs[i]? = some w) (h2 : xs[i]? = some e) : eqV w v = eqF e d := by
  have fe : flatA e = true := List.all_eq_true.mp f e (List.mem_of_getElem? h2)
  obtain ⟨w', e1, r2⟩ := r.get h2
  rw [h1] at e1
  cases e1
  exact (rv.flat fd).2 w e r2 fe
theorem RepB.key (r : RepB K cs F H b v d) {k : Key} (e : keyOf d = some k) : v = kV k := by
  cases d with
  | int i => simp [keyOf] at e; subst e; exact r.int
  | str i => simp [keyOf] at e; subst e; exact r.str
  | _ => simp [keyOf] at e
end

/-- what is wanted of a value -/
def PostV (K : PySem.W.Frag) (Cl : Nat → Addr) (cs : List Addr) (F H : Hp) (h : AHeap) (Q : KA) (R : VK) : Prop :=
  ∀ v d F' H', Stp cs F H cs F' H' → StOk K Cl cs F' H' h → Rep K cs F' v d → Q d → R v H'
section
variable {K : PySem.W.Frag} {Cl : Nat → Addr} {cs : List Addr} {F H : Hp} {h : AHeap} {Q : KA} {R : VK}
theorem PostV.here (p : PostV K Cl cs F H h Q R) (S : StOk K Cl cs F H h) {v : V} {d : AV} (r : Rep K cs F v d) (q : Q d) : R v H := p v d F H .refl S r q
theorem PostV.int (p : PostV K Cl cs F H h Q R) (S : StOk K Cl cs F H h) {i : Int} (q : Q (.int i)) : R (.int i) H := p.here S (.int i) q
theorem PostV.bl (p : PostV K Cl cs F H h Q R) (S : StOk K Cl cs F H h) {i : Bool} (q : Q (.bl i)) : R (.bl i) H := p.here S (.bl i) q
theorem PostV.str (p : PostV K Cl cs F H h Q R) (S : StOk K Cl cs F H h) {i : Str} (q : Q (.str i)) : R (.str i) H := p.here S (.str i) q
theorem PostV.newT (p : PostV K Cl cs F H h Q R) (S : StOk K Cl cs F H h) {vs : List V} {xs : List AV} (r : Reps K cs F vs xs) (q : Q (.tup xs)) : ∀ a, H a = none → R (.ref a) (upd H a (.tup vs)) := fun a ha =>
  p _ _ _ _ (.newF S ha) (S.newF ha) (.tup (st_of upd_same) (r.mono (Stp.newF (o := .tup vs) S ha).f ⟨[], by simp⟩)) q
theorem PostV.newL (p : PostV K Cl cs F H h Q R) (S : StOk K Cl cs F H h) {vs : List V} {xs : List AV} (r : Reps K cs F vs xs) (q : Q (.lst xs)) : ∀ a, H a = none → R (.ref a) (upd H a (.lst vs)) := fun a ha =>
  p _ _ _ _ (.newF S ha) (S.newF ha) (.lst upd_same (r.mono (Stp.newF (o := .lst vs) S ha).f ⟨[], by simp⟩)) q
end

/-- a two-place operation by its weakest reading -/
def OpW (X : Cx) (f : Value → Value → Sem Value) (x y : V) (H : Hp) (Q : VK) : Prop :=
  ∀ (pins : List (Addr × Obj)) (s : Shared) (σ : L2.St) (v u : Value), Inv X pins σ H s → RelV x v → RelV y u → wpAny (model X.prog X.w) X.A (f v u) (EP X pins σ Q) X.xe s
theorem opw_ok {X : Cx} {f : Value → Value → Sem Value} : OpR X f (OpW X f) := fun pins s σ H x y v u Q I rx ry h => h pins s σ v u I rx ry
theorem opw_of {X : Cx} {f : Value → Value → Sem Value} {r : R2} (o : OpR X f r) {x y : V} {H : Hp} {Q : VK} (h : r x y H Q) : OpW X f x y H Q := fun pins s σ v u I rx ry => o pins s σ H x y v u Q I rx ry h
section
variable {X : Cx} {Cl : Nat → Addr} {cs : List Addr} {F H : Hp} {h : AHeap} {Q : KA} {R : VK} {x y : V} {d e : AV} {b b' : Bool}
theorem CDivA.w {i j : Int} (h : CDivA j) : CDivW i j := h
theorem addK_ok (S : StOk X.K Cl cs F H h) (rx : RepB X.K cs F H false x d) (ry : RepB X.K cs F H false y e) (q : addK h d e Q) (p : PostV X.K Cl cs F H h Q R) : OpW X (binaryOp .Add) x y H R := by
  unfold addK at q
  split at q
  · cases rx.int; cases ry.int
    exact opw_of op_add ⟨_, _, rfl, rfl, p.int S q⟩
  · cases rx.str; cases ry.str
    exact opw_of op_add_str ⟨_, _, rfl, rfl, q.1, p.str S q.2⟩
  · rename_i xs ys
    have rx := rx.plain
    have ry := ry.plain
    cases rx with
    | tup h1 r1 =>
      cases ry with
      | tup h2 r2 =>
        rename_i vs _ ws
        refine opw_of op_catA ⟨_, _, vs, ws, rfl, rfl, ex_t S.sub h1, ex_t S.sub h2, by rw [r1.length, r2.length]; exact q.1, fun z => ?_, fun _ z => ?_, fun _ _ => p.newT S (r1.append r2) q.2⟩
        · subst z
          cases r1
          exact p.here S (.tup h2 r2) q.2
        · subst z
          cases r2
          have q2 := q.2
          rw [List.append_nil] at q2
          exact p.here S (.tup h1 r1) q2
  · exact q.elim
theorem strRep_len (x : Str) (n : Int) : (strRep x n).length ≤ x.length * n.toNat + x.length := by
  unfold strRep
  split
  · exact Nat.zero_le _
  · split
    · omega
    · have key : ∀ (k : Nat) (acc : Array Nat), ((List.replicate k x.cps).foldl (· ++ ·) acc).size = acc.size + k * x.cps.size := by
        intro k
        induction k with
        | zero => intro acc; simp
        | succ k ih => intro acc; rw [List.replicate_succ, List.foldl_cons, ih, Array.size_append, Nat.succ_mul]; omega
      show ((List.replicate n.toNat x.cps).foldl (· ++ ·) #[]).size ≤ x.cps.size * n.toNat + x.cps.size
      rw [key, Nat.mul_comm]
      simp
theorem op_mul_str : OpR X (binaryOp .Mult) (fun x y H Q => ∃ z k, x = .str z ∧ y = .int k ∧ (-(2 ^ 60) < k ∧ k < 2 ^ 60 ∧ z.length * k.toNat ≤ 1000000) ∧ Q (.str (strRep z k)) H) := by
  intro pins s σ H x y v u Q I rx ry h
  obtain ⟨z, k, rfl, rfl, ⟨h1, h2, h3⟩, q⟩ := h
  obtain ⟨t, rfl⟩ := rx
  obtain ⟨t', rfl⟩ := ry
  have hs : sizeLine = 16777216 := sizeLine_eq
  have e60 : (2 ^ 60 : Int) = 1152921504606846976 := by decide
  have e63 : (2 ^ 63 : Int) = 9223372036854775808 := by decide
  rw [e60] at h1 h2
  refine PySem.P.mul_str ?_ (fun a b => ?_) (fun a b => ?_) ?_
  · have e1 : decide (k < -(2 ^ 63 : Int)) = false := decide_eq_false (by rw [e63]; omega)
    have e2 : decide (k ≥ 2 ^ 63) = false := decide_eq_false (by rw [e63]; omega)
    rw [e1, e2]; rfl
  · intro c
    have hk : 0 < k := by omega
    have h4 : (z.length : Int) * k ≤ 1000000 := by
      have : ((z.length * k.toNat : Nat) : Int) ≤ ((1000000 : Nat) : Int) := Int.ofNat_le.mpr h3
      rw [Int.natCast_mul] at this
      rw [Int.toNat_of_nonneg (by omega)] at this
      exact this
    have h5 : (2 ^ 63 - 1 : Int) / k < z.length := c
    have h6 := Int.lt_mul_of_ediv_lt hk h5
    have e63 : (2 ^ 63 - 1 : Int) = 9223372036854775807 := by decide
    rw [e63] at h6
    omega
  · unfold Builtin.Str.tooLong
    exact decide_eq_false (by omega)
  · have hl := strRep_len z k
    by_cases a : k < 1
    · have e : strRep z k = Str.empty := if_pos a
      rw [e] at q
      rw [if_pos a]
      exact ⟨by decide, .str Str.empty, H, I.tok _, ⟨_, rfl⟩, q⟩
    · rw [if_neg a]
      by_cases b : (k == 1 || z.length == 0) = true
      · have e : strRep z k = z := by unfold strRep; rw [if_neg a, if_pos b]
        rw [e] at q
        rw [if_pos b]
        exact ⟨.str z, H, I, ⟨_, rfl⟩, q⟩
      · have e : strRep z k = ⟨(List.replicate k.toNat z.cps).foldl (· ++ ·) #[]⟩ := by unfold strRep; rw [if_neg a, if_neg b]
        rw [e] at q hl
        rw [if_neg b]
        refine ⟨?_, .str _, H, I.tok _, ⟨_, rfl⟩, q⟩
        have : z.length ≤ z.length * k.toNat := Nat.le_mul_of_pos_right _ (by omega)
        omega
theorem binK_ok {op : Operator} (S : StOk X.K Cl cs F H h) (rx : RepB X.K cs F H false x d) (ry : RepB X.K cs F H false y e) (q : binK h op d e Q) (p : PostV X.K Cl cs F H h Q R) : OpW X (binaryOp op) x y H R := by
  unfold binK at q
  split at q
  · exact addK_ok S rx ry q p
  · split at q
    · cases rx.int; cases ry.int
      exact opw_of op_sub ⟨_, _, rfl, rfl, p.int S q⟩
    · exact q.elim
  · split at q
    · cases rx.int; cases ry.int
      rcases q.1 with c | c
      · exact opw_of op_mul ⟨_, _, rfl, rfl, c, p.int S q.2⟩
      · exact opw_of op_mulW ⟨_, _, rfl, rfl, c, p.int S q.2⟩
    · cases rx.str; cases ry.int
      exact opw_of op_mul_str ⟨_, _, rfl, rfl, q.1, p.str S q.2⟩
    · cases ry.int
      have rx := rx.plain
      cases rx with
      | tup h1 r1 =>
        obtain ⟨⟨hne, hj⟩, q⟩ := q
        refine opw_of op_repT01 ⟨_, _, _, rfl, rfl, ex_t S.sub h1, fun z => ?_, ?_⟩
        · subst z
          cases r1
          exact hne rfl
        · rcases hj with rfl | rfl
          · exact .inr ⟨rfl, p.newT S .nil q⟩
          · exact .inl ⟨rfl, p.here S (.tup h1 r1) q⟩
    · exact q.elim
  · split at q
    · cases rx.int; cases ry.int
      exact opw_of op_fdivW ⟨_, _, rfl, rfl, CDivA.w q.1, p.int S q.2⟩
    · exact q.elim
  · split at q
    · cases rx.int; cases ry.int
      exact opw_of op_mod ⟨_, _, rfl, rfl, q.1, p.int S q.2⟩
    · exact q.elim
  · split at q
    · cases rx.int; cases ry.int
      exact opw_of op_pow ⟨_, _, rfl, rfl, q.1, p.int S q.2⟩
    · exact q.elim
  · exact q.elim
theorem eqGen_ok (hu : X.A.units + 64 < cLine) {neg : Bool} (S : StOk X.K Cl cs F H h) (rx : RepB X.K cs F H b x d) (ry : RepB X.K cs F H b' y e) (q : eqGen h neg d e Q) (p : PostV X.K Cl cs F H h Q R) : OpW X (compareOp (if neg then .NotEq else .Eq)) x y H R := by
  unfold eqGen at q
  split at q
  · rename_i d1 e1 h1 h2
    have dx := rx.pdH S h1
    have dy := ry.pdH S h2
    cases neg with
    | true => exact opw_of (op_neD hu) ⟨_, _, dx, dy, q.1, q.2.1, p.bl S q.2.2⟩
    | false => exact opw_of (op_eqD hu) ⟨_, _, dx, dy, q.1, q.2.1, p.bl S q.2.2⟩
  · exact q.elim
/-! ### dicts compared -/
def EqI (K : PySem.W.Frag) (H : Hp) (x y : V) : Prop := (∃ i, x = .int i ∧ y = .int i) ∨ ∃ (a b : Addr) (ns : List Int), x = .ref a ∧ y = .ref b ∧ SqL K H a (ns.map V.int) ∧ SqL K H b (ns.map V.int)
theorem hitsI {X : Cx} {pins : List (Addr × Obj)} {σ : L2.St} {H : Hp} {s : Shared} (I : Inv X pins σ H s) {A : Around} (hu : A.in1.units + 64 < cLine) {kvs : List (Key × V)} {vb : List (Key × Value)} (rb : KV kvs vb) {ks : List (Key × V)} {va : List (Key × Value)} (ra : KV ks va) :
    (∀ p ∈ ks, ∃ u, valV kvs p.1 = some u ∧ EqI X.K H p.2 u) → PySem.W.KeqHits A.in1 s vb va true := by
  unfold KV at ra
  induction ra with
  | nil => intro _; exact .nil
  | @cons p q ps qs h t ih =>
    intro hp
    obtain ⟨h1, h2⟩ := h
    obtain ⟨w, e, f⟩ := hp p List.mem_cons_self
    have rr : RelO (some w) (valueAt vb p.1) := by rw [← e]; exact rb.val p.1
    obtain ⟨y, hy, ry⟩ := rr.some_of
    obtain ⟨k, v⟩ := q
    have h1' : p.1 = k := h1
    rw [h1'] at hy
    show PySem.W.KeqHits A.in1 s vb ((k, v) :: qs) (true && true)
    refine .hit hy ?_ (ih fun p' hm => hp p' (List.mem_cons_of_mem _ hm))
    rcases f with ⟨i, e1, e2⟩ | ⟨a, b, ns, e1, e2, q1, q2⟩
    · rw [e1] at h2
      rw [e2] at ry
      exact eqAt_same h2 ry rfl
    · rw [e1] at h2
      rw [e2] at ry
      cases (show v = Value.ref a from h2)
      cases (show y = Value.ref b from ry)
      obtain ⟨us, r1, p1, _⟩ := I.list q1
      obtain ⟨ws, r2, p2, _⟩ := I.list q2
      have := PySem.W.keq_ints (A := A) (s := s) p1.isList r1.ints p2.isList r2.ints hu
      rw [decide_eq_true rfl] at this
      exact this
def rDct (K : PySem.W.Frag) (neg : Bool) : R2 := fun x y H Q => ∃ a b ks ls, x = .ref a ∧ y = .ref b ∧ Rd H a (.dK ks) ∧ Rd H b (.dK ls) ∧ ks.length = ls.length ∧ (∀ p ∈ ks, ∃ u, valV ls p.1 = some u ∧ EqI K H p.2 u) ∧ Q (.bl (!neg)) H
theorem op_eqDct {X : Cx} (hu : X.A.units + 65 < cLine) {neg : Bool} : OpR X (compareOp (if neg then .NotEq else .Eq)) (rDct X.K neg) := by
  intro pins s σ H x y v u Q I rx ry h
  obtain ⟨a, b, ks, ls, rfl, rfl, ea, eb, hlen, hp, q⟩ := h
  obtain rfl : v = Value.ref a := rx
  obtain rfl : u = Value.ref b := ry
  obtain ⟨_, ya, va, ra, da⟩ := dk_rd I.hok ea
  obtain ⟨_, yb, vb, rb, db⟩ := dk_rd I.hok eb
  have hl : va.length = vb.length := by rw [← ra.length, ← rb.length]; exact hlen
  cases neg with
  | false => exact PySem.W.keq_eq (knd := mixKind X.prog X.w) (r := true) ya yb da db (by omega) (fun _ => hitsI I (A := X.A) (by show X.A.units + 1 + 64 < cLine; omega) rb ra hp) (fin_bl I q (by simp [hl]))
  | true => exact PySem.W.keq_ne (knd := mixKind X.prog X.w) (r := true) ya yb da db (by omega) (fun _ => hitsI I (A := X.A) (by show X.A.units + 1 + 64 < cLine; omega) rb ra hp) (fin_bl I q (by simp [hl]))
theorem call_lenRd {X : Cx} : CallR X (.builtin "len") (fun xs H Q => ∃ (a : Addr) (kvs : List (Key × V)), xs = [.ref a] ∧ Rd H a (.dK kvs) ∧ Q (.int kvs.length) H) := by
  intro pins s σ H xs us Q I r q
  obtain ⟨a, kvs, ex, hd, q⟩ := q
  subst ex
  obtain ⟨u, eu, rx⟩ := vals1 r
  subst eu
  cases rx
  exact d_len I hd fun t s' I' => ⟨.int kvs.length, H, I', ⟨t, rfl⟩, q⟩
theorem asInts_map : ∀ ns : List Int, asInts (ns.map .int) = some ns
  | [] => rfl
  | n :: ns => by
    show (asInts (ns.map .int)).map (n :: ·) = _
    rw [asInts_map ns]; rfl
theorem dct_ok (hu : X.A.units + 65 < cLine) {neg : Bool} {xs ys : List (Key × AV)} (S : StOk X.K Cl cs F H h) (rx : RepB X.K cs F H b x (.dct xs)) (ry : RepB X.K cs F H b' y (.dct ys)) (q : dEq xs ys ∧ Q (.bl (!neg))) (p : PostV X.K Cl cs F H h Q R) :
    OpW X (compareOp (if neg then .NotEq else .Eq)) x y H R := by
  obtain ⟨a, vs, rfl, e1, r1⟩ := rx.viewD S rfl
  obtain ⟨b, ws, rfl, e2, r2⟩ := ry.viewD S rfl
  obtain ⟨⟨hl, he⟩, q⟩ := q
  refine opw_of (op_eqDct hu) ⟨a, b, vs, ws, rfl, rfl, e1, e2, by rw [r1.length, r2.length]; exact hl, ?_, p.bl S q⟩
  have key : ∀ {vs : List (Key × V)} {xs : List (Key × AV)}, RepK X.K cs F vs xs → (∀ p ∈ xs, ∃ u, getD ys p.1 = some u ∧ eqv1 p.2 u) → ∀ p ∈ vs, ∃ u, valV ws p.1 = some u ∧ EqI X.K H p.2 u := by
    intro vs xs r
    induction vs generalizing xs with
    | nil => intro _ p m; cases m
    | cons v vs ih =>
      cases r with
      | cons r rs =>
        rename_i k v d xs
        intro hx p m
        rcases List.mem_cons.mp m with rfl | m
        · obtain ⟨u, g1, g2⟩ := hx (k, d) List.mem_cons_self
          rcases r2.get (k := k) with ⟨w, d2, h1, h2, r3⟩ | ⟨_, h2⟩
          · rw [g1] at h2
            cases h2
            refine ⟨w, h1, ?_⟩
            rcases g2 with ⟨i, z1, z2⟩ | ⟨ns, z1, z2⟩
            · have z1 : d = .int i := z1
              subst z1 z2
              cases r
              cases r3
              exact .inl ⟨i, rfl, rfl⟩
            · have z1 : d = .lst (ns.map .int) := z1
              subst z1 z2
              have ra : RepB X.K cs F H true v (.lst (ns.map .int)) := .inl r
              have rb : RepB X.K cs F H true w (.lst (ns.map .int)) := .inl r3
              obtain ⟨a1, vs1, e1, q1, s1⟩ := ra.view S rfl
              obtain ⟨a2, vs2, e2, q2, s2⟩ := rb.view S rfl
              rw [s1.ints (asInts_map ns)] at q1
              rw [s2.ints (asInts_map ns)] at q2
              exact .inr ⟨a1, a2, ns, e1, e2, q1, q2⟩
          · rw [g1] at h2; cases h2
        · exact ih rs (fun p hp => hx p (List.mem_cons_of_mem _ hp)) p m
  exact key r1 he
theorem eqK_ok (hu : X.A.units + 65 < cLine) (S : StOk X.K Cl cs F H h) (rx : RepB X.K cs F H b x d) (ry : RepB X.K cs F H b' y e) (q : eqK h d e Q) (p : PostV X.K Cl cs F H h Q R) : OpW X (compareOp .Eq) x y H R := by
  unfold eqK at q
  split at q
  · cases rx.int; cases ry.int
    exact opw_of op_eq ⟨rfl, p.bl S (by simpa using q)⟩
  · cases rx.str; cases ry.str
    exact opw_of op_eq ⟨rfl, p.bl S (by simpa using q)⟩
  · cases rx.bl; cases ry.bl
    exact opw_of op_eq ⟨rfl, p.bl S (by simpa using q)⟩
  · cases rx.non; cases ry.non
    exact opw_of op_eq ⟨rfl, p.bl S (by simpa using q)⟩
  · cases rx.int; cases ry.str
    exact opw_of op_eq ⟨rfl, p.bl S (by simpa using q)⟩
  · cases rx.str; cases ry.int
    exact opw_of op_eq ⟨rfl, p.bl S (by simpa using q)⟩
  · exact dct_ok (neg := false) (by omega) S rx ry q p
  · exact eqGen_ok (neg := false) (by omega) S rx ry q p
theorem neK_ok (hu : X.A.units + 65 < cLine) (S : StOk X.K Cl cs F H h) (rx : RepB X.K cs F H b x d) (ry : RepB X.K cs F H b' y e) (q : neK h d e Q) (p : PostV X.K Cl cs F H h Q R) : OpW X (compareOp .NotEq) x y H R := by
  unfold neK at q
  split at q
  · cases rx.int; cases ry.int
    exact opw_of op_ne ⟨rfl, p.bl S (by simpa using q)⟩
  · cases rx.str; cases ry.str
    exact opw_of op_ne ⟨rfl, p.bl S (by simpa using q)⟩
  · cases rx.bl; cases ry.bl
    exact opw_of op_ne ⟨rfl, p.bl S (by simpa using q)⟩
  · cases rx.non; cases ry.non
    exact opw_of op_ne ⟨rfl, p.bl S (by simpa using q)⟩
  · cases rx.int; cases ry.str
    exact opw_of op_ne ⟨rfl, p.bl S (by simpa using q)⟩
  · cases rx.str; cases ry.int
    exact opw_of op_ne ⟨rfl, p.bl S (by simpa using q)⟩
  · exact dct_ok (neg := true) (by omega) S rx ry q p
  · exact eqGen_ok (neg := true) (by omega) S rx ry q p
theorem op_dIn (hu : X.A.units + 1 < cLine) : OpR X (compareOp .In) (fun x y H Q => ∃ a o, y = .ref a ∧ DGet H a x o ∧ Q (.bl o.isSome) H) := by
  intro pins s σ H x y v u Q I rx ry h
  obtain ⟨a, o, rfl, g, q⟩ := h
  cases ry
  exact d_in hu I g rx fun s3 I3 => ⟨.bl o.isSome, H, I3, rfl, q⟩
theorem op_dNotIn (hu : X.A.units + 1 < cLine) : OpR X (compareOp .NotIn) (fun x y H Q => ∃ a o, y = .ref a ∧ DGet H a x o ∧ Q (.bl (!o.isSome)) H) := by
  intro pins s σ H x y v u Q I rx ry h
  obtain ⟨a, o, rfl, g, q⟩ := h
  cases ry
  exact d_notIn hu I g rx fun s3 I3 => ⟨.bl (!o.isSome), H, I3, rfl, q⟩
theorem op_nIn (hu : X.A.units + 2 < cLine) : OpR X (compareOp .In) (fun x y H Q => ∃ a b es k, y = .ref a ∧ x = .ref b ∧ H a = some (.ext (DN a es)) ∧ (∀ x ∈ es, KeyN X.K H x.1 x.2.1) ∧ KeyN X.K H k b ∧ Q (.bl (valN es k).isSome) H) := by
  intro pins s σ H x y v u Q I rx ry h
  obtain ⟨a, b, es, k, rfl, rfl, h1, h2, h3, q⟩ := h
  cases ry; cases rx
  exact n_in hu I h1 h2 h3 fun s3 I3 => ⟨.bl _, H, I3, rfl, q⟩
theorem op_nNotIn (hu : X.A.units + 2 < cLine) : OpR X (compareOp .NotIn) (fun x y H Q => ∃ a b es k, y = .ref a ∧ x = .ref b ∧ H a = some (.ext (DN a es)) ∧ (∀ x ∈ es, KeyN X.K H x.1 x.2.1) ∧ KeyN X.K H k b ∧ Q (.bl (!(valN es k).isSome)) H) := by
  intro pins s σ H x y v u Q I rx ry h
  obtain ⟨a, b, es, k, rfl, rfl, h1, h2, h3, q⟩ := h
  cases ry; cases rx
  exact n_notIn hu I h1 h2 h3 fun s3 I3 => ⟨.bl _, H, I3, rfl, q⟩
/-- membership among data -/
theorem deep_items {pins : List (Addr × Obj)} {σ : L2.St} {H : Hp} {s : Shared} (I : Inv X pins σ H s) : ∀ {ds : List PyData} {xs : List V} {us : List Value}, DpAll X.K H xs ds → Vals xs us → us.length = ds.length ∧ ∀ (j : Nat) (u : Value), us[j]? = some u → ∃ e as, ds[j]? = some e ∧ Reads s.heap u e as
  | _, _, _, .nil, .nil => ⟨rfl, fun j u h => by simp at h⟩
  | _, _, _, .cons h r, .cons g t => by
    obtain ⟨l, k⟩ := deep_items I r t
    obtain ⟨as, ra⟩ := Dp.reads I _ _ _ h g
    refine ⟨by simp [l], fun j u hj => ?_⟩
    cases j with
    | zero => simp at hj; subst hj; exact ⟨_, as, rfl, ra⟩
    | succ j => simpa using k j u (by simpa using hj)
open Classical in
noncomputable def deepE (its : List Value) (ds : List PyData) (d : PyData) (u : Value) : Bool := decide (∃ (j : Nat) (e : PyData), its[j]? = some u ∧ ds[j]? = some e ∧ PyData.eqv e d = true)
open Classical in
theorem deep_at {pins : List (Addr × Obj)} {σ : L2.St} {H : Hp} {s : Shared} (I : Inv X pins σ H s) {A : Around} (hu : A.units + 64 < cLine) {x : V} {v : Value} {d : PyData} {ds : List PyData} {xs : List V} {us : List Value} (hx : Dp X.K H x d) (rx : RelV x v) (hy : DpAll X.K H xs ds) (ry : Vals xs us)
    (sd : SeqAt.shaped d = true) (ss : ds.all SeqAt.shaped = true) : (∀ u ∈ us, SeqAt.EqAt A s u v (deepE us ds d u)) ∧ us.any (deepE us ds d) = ds.any fun y => PyData.eqv y d := by
  obtain ⟨l, k⟩ := deep_items I hy ry
  obtain ⟨bs, rd⟩ := Dp.reads I _ _ _ hx rx
  have at_ : ∀ (j : Nat) (u : Value) (e : PyData), us[j]? = some u → ds[j]? = some e → SeqAt.EqAt A s u v (PyData.eqv e d) := by
    intro j u e h1 h2
    obtain ⟨e', as, h3, r⟩ := k j u h1
    rw [h2] at h3
    cases h3
    have se := List.all_eq_true.mp ss e (List.mem_of_getElem? h2)
    exact SeqAt.eqAt_reads e d A s u v as bs r rd (SeqAt.canLay_of_shaped se) (SeqAt.canLay_of_shaped sd) (SeqAt.room_of_shaped se hu)
  refine ⟨fun u hm => ?_, ?_⟩
  · unfold deepE
    by_cases c : ∃ (j : Nat) (e : PyData), us[j]? = some u ∧ ds[j]? = some e ∧ PyData.eqv e d = true
    · rw [decide_eq_true c]
      obtain ⟨j, e, h1, h2, h3⟩ := c
      rw [← h3]
      exact at_ j u e h1 h2
    · rw [decide_eq_false c]
      obtain ⟨j, hj⟩ := List.mem_iff_getElem?.mp hm
      obtain ⟨e, as, h2, _⟩ := k j u hj
      have : PyData.eqv e d = false := by
        cases q : PyData.eqv e d with
        | false => rfl
        | true => exact absurd ⟨j, e, hj, h2, q⟩ c
      rw [← this]
      exact at_ j u e hj h2
  · rw [Bool.eq_iff_iff, List.any_eq_true, List.any_eq_true]
    constructor
    · rintro ⟨u, hm, h⟩
      obtain ⟨j, e, _, h2, h3⟩ := of_decide_eq_true h
      exact ⟨e, List.mem_of_getElem? h2, h3⟩
    · rintro ⟨e, hm, h⟩
      obtain ⟨j, hj⟩ := List.mem_iff_getElem?.mp hm
      have hl : j < us.length := by rw [l]; exact (List.getElem?_eq_some_iff.mp hj).1
      exact ⟨us[j], List.getElem_mem hl, decide_eq_true ⟨j, e, List.getElem?_eq_getElem hl, hj, h⟩⟩
def rInD (K : PySem.W.Frag) (neg : Bool) : R2 := fun x y H Q => ∃ p xs d ds, y = .ref p ∧ (SqL K H p xs ∨ SqT K H p xs) ∧ Dp K H x d ∧ DpAll K H xs ds ∧ SeqAt.shaped d = true ∧ ds.all SeqAt.shaped = true ∧ Q (.bl (if neg then !(ds.any fun y => PyData.eqv y d) else ds.any fun y => PyData.eqv y d)) H
theorem op_inDeep (hu : X.A.units + 65 < cLine) : OpR X (compareOp .In) (rInD X.K false) := by
  have hu1 : X.A.in1.units + 64 < cLine := by rcases units_in1 X.A with q | q <;> omega
  intro pins s σ H x y v u Q I rx ry h
  obtain ⟨p, xs, d, ds, rfl, hq, hx, hy, sd, ss, q⟩ := h
  cases ry
  rcases hq with hq | hq
  · obtain ⟨its, r, pl, hz⟩ := I.list hq
    obtain ⟨k1, k2⟩ := deep_at I hu1 hx rx hy r sd ss
    refine SeqAt.in_listAt (deepE its ds d) pl.isList (fun w hw => k1 w (by simpa using hw)) ⟨.bl _, H, I, rfl, ?_⟩
    rw [show its.toArray.any (deepE its ds d) = its.any (deepE its ds d) by simp, k2]
    exact q
  · obtain ⟨its, r, pl, hz⟩ := I.tuple hq
    obtain ⟨k1, k2⟩ := deep_at I hu1 hx rx hy r sd ss
    refine SeqAt.in_tupleAt (deepE its ds d) pl (fun w hw => k1 w (by simpa using hw)) ⟨.bl _, H, I, rfl, ?_⟩
    rw [show its.toArray.any (deepE its ds d) = its.any (deepE its ds d) by simp, k2]
    exact q
theorem op_notInDeep (hu : X.A.units + 65 < cLine) : OpR X (compareOp .NotIn) (rInD X.K true) := by
  have hu1 : X.A.in1.units + 64 < cLine := by rcases units_in1 X.A with q | q <;> omega
  intro pins s σ H x y v u Q I rx ry h
  obtain ⟨p, xs, d, ds, rfl, hq, hx, hy, sd, ss, q⟩ := h
  cases ry
  rcases hq with hq | hq
  · obtain ⟨its, r, pl, hz⟩ := I.list hq
    obtain ⟨k1, k2⟩ := deep_at I hu1 hx rx hy r sd ss
    refine SeqAt.notIn_listAt (deepE its ds d) pl.isList (fun w hw => k1 w (by simpa using hw)) ⟨.bl _, H, I, rfl, ?_⟩
    rw [show its.toArray.any (deepE its ds d) = its.any (deepE its ds d) by simp, k2]
    exact q
  · obtain ⟨its, r, pl, hz⟩ := I.tuple hq
    obtain ⟨k1, k2⟩ := deep_at I hu1 hx rx hy r sd ss
    refine SeqAt.notIn_tupleAt (deepE its ds d) pl (fun w hw => k1 w (by simpa using hw)) ⟨.bl _, H, I, rfl, ?_⟩
    rw [show its.toArray.any (deepE its ds d) = its.any (deepE its ds d) by simp, k2]
    exact q
theorem RepB.nk {K : PySem.W.Frag} {v : V} (r : RepB K cs F H b v d) {k : NK} (e : nkOf d = some k) : ∃ a, v = .ref a ∧ KeyN K F k a := by
  rcases r with r | ⟨_, _, _, _, _, ⟨_, _, e2, _⟩ | ⟨_, _, e2, _⟩⟩
  · exact nk_rep r e
  · subst e2; cases e
  · subst e2; cases e
theorem cell_atN {K : PySem.W.Frag} {n : Nat} {a : Addr} {xs : List (NK × AV)} (S : StOk K Cl cs F H h) (e : cs[n]? = some a) (q : cells h n = .dctN xs) : ∃ es, H a = some (.ext (DN a es)) ∧ RepN K cs F es xs := by
  have := S.cell n a e
  rw [q] at this
  exact this
theorem RepB.viewN {K : PySem.W.Frag} {v : V} (r : RepB K cs F H b v d) (S : StOk K Cl cs F H h) {xs : List (NK × AV)} (e : viewN h d = some xs) : ∃ a es, v = .ref a ∧ H a = some (.ext (DN a es)) ∧ RepN K cs F es xs := by
  rcases r with r | ⟨_, _, _, _, _, ⟨_, _, e2, _⟩ | ⟨_, _, e2, _⟩⟩
  · cases r <;> simp only [VL.viewN] at e <;> try cases e
    rename_i n a hn
    split at e
    · rename_i ys hc
      cases e
      obtain ⟨es, q1, q2⟩ := cell_atN S hn hc
      exact ⟨a, es, rfl, q1, q2⟩
    · cases e
  · subst e2; cases e
  · subst e2; cases e
theorem KeyN.up {K : PySem.W.Frag} (S : StOk K Cl cs F H h) {k : NK} {a : Addr} (x : KeyN K F k a) : KeyN K H k a := x.mono fun _ _ q => ex_t S.sub q
theorem inK_ok (hu : X.A.units + 65 < cLine) {neg : Bool} (S : StOk X.K Cl cs F H h) (rx : RepB X.K cs F H b x d) (ry : RepB X.K cs F H b' y e) (q : inK h neg d e Q) (p : PostV X.K Cl cs F H h Q R) : OpW X (compareOp (if neg then .NotIn else .In)) x y H R := by
  unfold inK at q
  split at q
  · rename_i z
    split at q
    · rename_i w
      split at q
      · rename_i c hc
        cases rx.str; cases ry.str
        have ew : w = ⟨#[c]⟩ := by
          obtain ⟨w⟩ := w
          obtain ⟨w⟩ := w
          simp at hc
          rw [hc]
        cases neg with
        | true => exact opw_of op_notIn_sign ⟨c, z, by rw [ew], rfl, p.bl S q⟩
        | false => exact opw_of op_in_sign ⟨c, z, by rw [ew], rfl, p.bl S q⟩
      · exact q.elim
    · exact q.elim
  · split at q
    · rename_i xs hv
      obtain ⟨a, vs, rfl, hq, r⟩ := ry.viewT S hv
      rcases q with q | ⟨dd, ds, h1, h2, s1, s2, q⟩
      case inr =>
        have dx := rx.pdH S h1
        have dy := r.dpH S h2
        cases neg with
        | true => exact opw_of (op_notInDeep hu) ⟨a, vs, dd, ds, rfl, hq, dx, dy, s1, s2, p.bl S q⟩
        | false => exact opw_of (op_inDeep hu) ⟨a, vs, dd, ds, rfl, hq, dx, dy, s1, s2, p.bl S q⟩
      obtain ⟨f1, f2⟩ := r.flat q.2.1 rx q.1
      have q3 := q.2.2
      rw [← f2] at q3
      cases neg with
      | true => exact opw_of op_notIn_seq ⟨a, vs, rfl, hq, (rx.flat q.1).1, f1, p.bl S q3⟩
      | false => exact opw_of op_in_seq ⟨a, vs, rfl, hq, (rx.flat q.1).1, f1, p.bl S q3⟩
    · split at q
      · rename_i kvs k hd hk
        obtain ⟨a, vs, rfl, hq, r⟩ := ry.viewD S hd
        cases rx.key hk
        have e1 : (valV vs k).isSome = (getD kvs k).isSome := by
          rcases r.get (k := k) with ⟨v, d, e1, e2, _⟩ | ⟨e1, e2⟩ <;> rw [e1, e2] <;> rfl
        rw [← e1] at q
        cases neg with
        | true => exact opw_of (op_dNotIn (by omega)) ⟨a, _, rfl, .inl ⟨_, _, hq, rfl, rfl⟩, p.bl S q⟩
        | false => exact opw_of (op_dIn (by omega)) ⟨a, _, rfl, .inl ⟨_, _, hq, rfl, rfl⟩, p.bl S q⟩
      · split at q
        · rename_i kvs k hd hk
          obtain ⟨a, es, rfl, hq, r⟩ := ry.viewN S hd
          obtain ⟨kb, rfl, hkb⟩ := rx.nk hk
          have e1 : (valN es k).isSome = (getN kvs k).isSome := by
            rcases r.get (k := k) with ⟨v, d, e1, e2, _⟩ | ⟨e1, e2⟩ <;> rw [e1, e2] <;> rfl
          rw [← e1] at q
          cases neg with
          | true => exact opw_of (op_nNotIn (by omega)) ⟨a, kb, es, k, rfl, rfl, hq, fun x m => (r.keys x m).up S, hkb.up S, p.bl S q⟩
          | false => exact opw_of (op_nIn (by omega)) ⟨a, kb, es, k, rfl, rfl, hq, fun x m => (r.keys x m).up S, hkb.up S, p.bl S q⟩
        · exact q.elim
theorem cmpK_ok (hu : X.A.units + 65 < cLine) {op : CmpOp} (S : StOk X.K Cl cs F H h) (rx : RepB X.K cs F H b x d) (ry : RepB X.K cs F H b' y e) (q : cmpK h op d e Q) (p : PostV X.K Cl cs F H h Q R) : OpW X (compareOp op) x y H R := by
  unfold cmpK at q
  split at q
  · exact eqK_ok hu S rx ry q p
  · exact neK_ok hu S rx ry q p
  · split at q
    · cases rx.int; cases ry.int
      exact opw_of op_lt ⟨_, _, rfl, rfl, p.bl S q⟩
    · exact q.elim
  · split at q
    · cases rx.int; cases ry.int
      exact opw_of op_le ⟨_, _, rfl, rfl, p.bl S q⟩
    · exact q.elim
  · split at q
    · cases rx.int; cases ry.int
      exact opw_of op_gt ⟨_, _, rfl, rfl, p.bl S q⟩
    · exact q.elim
  · split at q
    · cases rx.int; cases ry.int
      exact opw_of op_ge ⟨_, _, rfl, rfl, p.bl S q⟩
    · exact q.elim
  · split at q
    · cases ry.non
      rw [← rx.isNon] at q
      exact opw_of op_isN ⟨rfl, p.bl S q⟩
    · split at q
      · cases rx.bl; cases ry.bl
        exact opw_of op_isBl ⟨_, _, rfl, rfl, p.bl S q⟩
      · exact q.elim
    · exact q.elim
  · split at q
    · cases ry.non
      rw [← rx.isNon] at q
      exact opw_of op_notN ⟨rfl, p.bl S q⟩
    · split at q
      · cases rx.bl; cases ry.bl
        exact opw_of op_notBl ⟨_, _, rfl, rfl, p.bl S q⟩
      · exact q.elim
    · exact q.elim
  · exact inK_ok (neg := false) (by omega) S rx ry q p
  · exact inK_ok (neg := true) (by omega) S rx ry q p
end
/-! items, slices, truth, calls of built-ins -/
def IxW (X : Cx) (x y : V) (H : Hp) (Q : VK) : Prop :=
  ∀ (value slice : Expr) (pins : List (Addr × Obj)) (s : Shared) (σ : L2.St) (v u : Value), Inv X pins σ H s → RelV x v → RelV y u → subscripted slice false v u = operate [v, u] (getItem v u) → wpAny (model X.prog X.w) X.A (subscriptTail value slice v u) (EP X pins σ Q) X.xe s
theorem ixw_ok {X : Cx} : IxR X (IxW X) := fun value slice pins s σ H x y v u Q I rx ry h hs => h value slice pins s σ v u I rx ry hs
theorem ixw_of {X : Cx} {r : R2} (o : IxR X r) {x y : V} {H : Hp} {Q : VK} (h : r x y H Q) : IxW X x y H Q := fun value slice pins s σ v u I rx ry hs => o value slice pins s σ H x y v u Q I rx ry h hs
def SlW (X : Cx) (x : V) (lo hi : Option Int) (H : Hp) (Q : VK) : Prop :=
  ∀ (pins : List (Addr × Obj)) (s : Shared) (σ : L2.St) (v vl vu : Value) (sl : Addr), Inv X pins σ H s → RelV x v → s.heap.IsSliceOf sl vl vu .none → IsPart vl lo → IsPart vu hi →
    ∃ T id, typeLookup (.type T) "__getitem__" = pure (some (.builtin id)) ∧ s.TypeIs v T ∧ wpAny (model X.prog X.w) X.A (getItem v (.ref sl)) (EP X pins σ Q) X.xe s
theorem slw_ok {X : Cx} : SlR X (SlW X) := fun pins s σ H x v vl vu lo hi sl Q I rx hs pl pu h => h pins s σ v vl vu sl I rx hs pl pu
theorem slw_of {X : Cx} {r : V → Option Int → Option Int → Hp → VK → Prop} (o : SlR X r) {x : V} {lo hi : Option Int} {H : Hp} {Q : VK} (h : r x lo hi H Q) : SlW X x lo hi H Q := fun pins s σ v vl vu sl I rx hs pl pu => o pins s σ H x v vl vu lo hi sl Q I rx hs pl pu h
def CallW (X : Cx) (f : Value) (xs : List V) (H : Hp) (Q : VK) : Prop :=
  ∀ (pins : List (Addr × Obj)) (s : Shared) (σ : L2.St) (us : List Value), Inv X pins σ H s → Vals xs us → wpAny (model X.prog X.w) X.A (call f us) (EP X pins σ Q) X.xe s
theorem callw_ok {X : Cx} {f : Value} : CallR X f (CallW X f) := fun pins s σ H xs us Q I r h => h pins s σ us I r
theorem callw_of {X : Cx} {f : Value} {r : List V → Hp → VK → Prop} (o : CallR X f r) {xs : List V} {H : Hp} {Q : VK} (h : r xs H Q) : CallW X f xs H Q := fun pins s σ us I rs => o pins s σ H xs us Q I rs h
section
variable {X : Cx} {Cl : Nat → Addr} {cs : List Addr} {F H : Hp} {h : AHeap} {Q : KA} {R : VK} {x y : V} {d e : AV} {b b' : Bool}
theorem ix_dict (hu : X.A.units + 1 < cLine) : IxR X (fun x y H Q => ∃ a v, x = .ref a ∧ DGet H a y (some v) ∧ Q v H) := by
  intro value slice pins s σ H x y v u Q I rx ry h hs
  obtain ⟨a, w, rfl, g, q⟩ := h
  cases rx
  exact tail_any (dict_typeIs I g) PySem.F.slot_dict_getitem.lookup (d_getItem hu I g ry fun w' s3 I3 rw' => ⟨w, H, I3, rw', q⟩) hs
theorem ix_nk (hu : X.A.units + 2 < cLine) : IxR X (fun x y H Q => ∃ a b es k v, x = .ref a ∧ y = .ref b ∧ H a = some (.ext (DN a es)) ∧ (∀ x ∈ es, KeyN X.K H x.1 x.2.1) ∧ KeyN X.K H k b ∧ valN es k = some v ∧ Q v H) := by
  intro value slice pins s σ H x y v u Q I rx ry h hs
  obtain ⟨a, b, es, k, w, rfl, rfl, h1, h2, h3, h4, q⟩ := h
  cases rx; cases ry
  obtain ⟨_, _, xs, _, dd⟩ := dn_ok I h1 h2
  exact tail_any dd.typeIs PySem.F.slot_dict_getitem.lookup (n_getItem hu I h1 h2 h3 h4 fun w' s3 I3 rw' => ⟨w, H, I3, rw', q⟩) hs
theorem subK_ok (hu : X.A.units + 64 < cLine) (S : StOk X.K Cl cs F H h) (rx : RepB X.K cs F H b x d) (ry : RepB X.K cs F H b' y e) (q : subK h d e Q) (p : PostV X.K Cl cs F H h Q R) : IxW X x y H R := by
  unfold subK at q
  split at q
  · split at q
    · cases rx.str; cases ry.int
      obtain ⟨q1, q2⟩ := q
      split at q2
      · rename_i c hc
        exact ixw_of ix_str ⟨_, _, c, rfl, rfl, q1, hc, p.str S q2⟩
      · exact q2.elim
    · exact q.elim
  · split at q
    · rename_i xs hv
      obtain ⟨a, vs, rfl, hq, r⟩ := rx.viewT S hv
      split at q
      · cases ry.int
        split at q
        · rename_i d' hd
          obtain ⟨v, hv, rv⟩ := r.at hd
          rcases hq with hq | hq
          · exact ixw_of ix_list ⟨a, vs, _, v, rfl, rfl, hq, hv, p.here S rv q⟩
          · exact ixw_of ix_tup ⟨a, vs, _, v, rfl, rfl, hq, hv, p.here S rv q⟩
        · exact q.elim
      · exact q.elim
    · split at q
      · rename_i kvs k hd hk
        obtain ⟨a, vs, rfl, hq, r⟩ := rx.viewD S hd
        cases ry.key hk
        split at q
        · rename_i d' hd'
          rcases r.get (k := k) with ⟨v, d2, e1, e2, r2⟩ | ⟨e1, e2⟩
          · rw [hd'] at e2; cases e2
            refine ixw_of (ix_dict (by omega)) ⟨a, v, rfl, ?_, p.here S r2 q⟩
            rw [← e1]
            exact .inl ⟨_, _, hq, rfl, rfl⟩
          · rw [hd'] at e2; cases e2
        · exact q.elim
      · split at q
        · rename_i kvs k hd hk
          obtain ⟨a, es, rfl, hq, r⟩ := rx.viewN S hd
          obtain ⟨kb, rfl, hkb⟩ := ry.nk hk
          split at q
          · rename_i d' hd'
            rcases r.get (k := k) with ⟨v, d2, e1, e2, r2⟩ | ⟨e1, e2⟩
            · rw [hd'] at e2; cases e2
              exact ixw_of (ix_nk (by omega)) ⟨a, kb, es, k, v, rfl, rfl, hq, fun x m => (r.keys x m).up S, hkb.up S, e1, p.here S r2 q⟩
            · rw [hd'] at e2; cases e2
          · exact q.elim
        · exact q.elim
theorem Reps.cut_whole {K : PySem.W.Frag} {vs : List V} {xs : List AV} (r : Reps K cs F vs xs) {lo hi : Option Int} (w : HT.sIx vs.length 0 lo = 0 ∧ HT.sIx vs.length vs.length hi = vs.length) : _root_.VL.cut xs lo hi = xs := by
  unfold VL.cut
  rw [← r.length, w.1, w.2, r.length]
  simp
theorem sliceK_ok (S : StOk X.K Cl cs F H h) (rx : RepB X.K cs F H false x d) {lo hi : Option Int} (q : sliceK h d lo hi Q) (p : PostV X.K Cl cs F H h Q R) : SlW X x lo hi H R := by
  unfold sliceK at q
  split at q
  · cases rx.str
    exact slw_of sl_str ⟨_, rfl, q.1, p.str S q.2⟩
  · have rx := rx.plain
    cases rx with
    | tup h1 r1 =>
      refine slw_of sl_tupA ⟨_, _, rfl, ex_t S.sub h1, fun w => ?_, fun _ => p.newT S (r1.cut lo hi) q⟩
      rw [r1.cut_whole w] at q
      exact p.here S (.tup h1 r1) q
  · exact q.elim
theorem truK_ok (S : StOk X.K Cl cs F H h) (rx : RepB X.K cs F H b x d) {Q : Bool → Prop} (q : truK h d Q) : ∃ k, TruV X.K x H k ∧ Q k := by
  unfold truK at q
  split at q
  · cases rx.bl; exact ⟨_, rfl, q⟩
  · cases rx.non; exact ⟨_, rfl, q⟩
  · cases rx.int; exact ⟨_, rfl, q⟩
  · cases rx.str; exact ⟨_, ⟨q.1, rfl⟩, q.2⟩
  · split at q
    · rename_i xs hv
      obtain ⟨a, vs, rfl, hq, r⟩ := rx.viewT S hv
      have e : xs.isEmpty = vs.isEmpty := by
        have := r.length
        cases vs <;> cases xs <;> simp at this ⊢
      rw [e] at q
      rcases hq with hq | hq
      · exact ⟨_, .inl ⟨vs, hq, rfl⟩, q⟩
      · exact ⟨_, .inr (.inl ⟨vs, hq, rfl⟩), q⟩
    · exact q.elim
def bVal : Blt → Value
  | .len => .builtin "len" | .abs => .builtin "abs" | .int => .type "int" | .str => .type "str" | .max2 => .builtin "max" | .min2 => .builtin "min" | .maxL => .builtin "max" | .minL => .builtin "min"
  | .sum => .builtin "sum" | .all => .builtin "all" | .any => .builtin "any" | .tuple => .type "tuple" | .repr => .builtin "repr"
inductive RepBs (K : PySem.W.Frag) (cs : List Addr) (F H : Hp) (b : Bool) : List V → List AV → Prop
  | nil : RepBs K cs F H b [] []
  | cons {v : V} {vs : List V} {d : AV} {ds : List AV} : RepB K cs F H b v d → RepBs K cs F H b vs ds → RepBs K cs F H b (v :: vs) (d :: ds)
theorem RepBs.step {K : PySem.W.Frag} {cs' : List Addr} {F' H' : Hp} {vs : List V} {ds : List AV} (r : RepBs K cs F H b vs ds) (x : Stp cs F H cs' F' H') : RepBs K cs' F' H' b vs ds := by
  induction r with
  | nil => exact .nil
  | cons h _ ih => exact .cons (h.step x) ih
theorem RepBs.plain {K : PySem.W.Frag} {vs : List V} {ds : List AV} (r : RepBs K cs F H false vs ds) : Reps K cs F vs ds := by
  induction r with
  | nil => exact .nil
  | cons h _ ih => exact .cons h.plain ih
/-- repr, where no guard is open -/
theorem call_repr_D (gd : X.A.guards = some []) (hu : X.A.units + 64 < cLine) : CallR X (.builtin "repr") fun vs H Q => ∃ v d, vs = [v] ∧ Dp X.K H v d ∧ (d.showable = true ∧ d.hasDict = false ∧ d.depth ≤ 50 ∧ d.shown.length ≤ sizeLine) ∧ Q (.str d.shown) H := by
  rintro pins s σ H vs us Q J rs ⟨v, d, rfl, hd, ⟨h1, h2, h3, h4⟩, q⟩
  cases rs with
  | cons r rs =>
    rename_i u us
    cases rs
    obtain ⟨as, rd⟩ := Dp.reads J d v u hd r
    have fin : ∀ h' tk, (∀ b o, s.heap.get? b = some o → h'.get? b = some o) → ∀ t, EP X pins σ Q (.str d.shown t) { s with heap := h', toks := tk } :=
      fun h' tk hk t => ⟨.str d.shown, H, J.kept hk, ⟨t, rfl⟩, q⟩
    have same : ∀ b o, s.heap.get? b = some o → s.heap.get? b = some o := fun _ _ e => e
    cases rd with
    | none => exact PySem.P.repr_of_none (fin s.heap _ same _)
    | bool b => exact PySem.P.repr_of_bool (fin s.heap _ same _)
    | int i t => exact PySem.P.repr_of_int (by simpa [PyData.showable] using h1) (fin s.heap _ same _)
    | str x t => exact PySem.P.repr_of_str (fin s.heap _ same _) h4
    | list a1 a2 a3 a4 => exact repr_of_reads' (.list a1 a2 a3 a4) h1 (PyData.noDict_hsm h2) gd (by omega) same (fun h' t tk hk => fin h' tk hk t) h4
    | tuple a1 a2 a3 a4 => exact repr_of_reads' (.tuple a1 a2 a3 a4) h1 (PyData.noDict_hsm h2) gd (by omega) same (fun h' t tk hk => fin h' tk hk t) h4
    | dict a1 a2 a3 a4 a5 => cases h2
theorem bltK_ok (hc : X.calm = true) (gd : X.A.guards = some []) (hu : X.A.units + 64 < cLine) (S : StOk X.K Cl cs F H h) {bt : Blt} {vs : List V} {ds : List AV} (rs : RepBs X.K cs F H b vs ds) (q : bltK h bt ds Q) (p : PostV X.K Cl cs F H h Q R) : CallW X (bVal bt) vs H R := by
  unfold bltK at q
  split at q
  · -- len of a text
    cases rs with | cons r1 rs => cases rs; cases r1.str; exact callw_of call_len_str ⟨_, rfl, q.1, p.int S q.2⟩
  · cases rs with
    | cons r1 rs =>
      cases rs
      split at q
      · rename_i xs hv
        obtain ⟨a, vs, rfl, hq, r⟩ := r1.viewT S hv
        refine callw_of call_len_seq ⟨a, vs, rfl, hq, ?_⟩
        rw [r.length]
        exact p.int S q
      · split at q
        · rename_i kvs hd
          obtain ⟨a, vs, rfl, hq, r⟩ := r1.viewD S hd
          refine callw_of call_lenRd ⟨a, vs, rfl, hq, ?_⟩
          rw [r.length]
          exact p.int S q
        · exact q.elim
  · cases rs with | cons r1 rs => cases rs; cases r1.int; exact callw_of call_abs ⟨_, rfl, p.int S q⟩
  · cases rs with | cons r1 rs => cases rs; cases r1.int; exact callw_of call_int1 (.inl ⟨_, rfl, p.int S q⟩)
  · cases rs with | cons r1 rs => cases rs; cases r1.bl; exact callw_of call_int1 (.inr ⟨_, rfl, p.int S q⟩)
  · cases rs with
    | cons r1 rs =>
      cases rs
      cases r1.str
      split at q
      · rename_i n e
        exact callw_of call_int_str ⟨_, n, rfl, e, q.1, p.int S q.2⟩
      · exact q.elim
  · cases rs with | cons r1 rs => cases rs; cases r1.int; exact callw_of call_str_int ⟨_, rfl, q.1, p.str S q.2⟩
  · cases rs with | cons r1 rs => cases rs with | cons r2 rs => cases rs; cases r1.int; cases r2.int; exact callw_of (call_max2 hc) ⟨_, _, rfl, p.int S q⟩
  · cases rs with | cons r1 rs => cases rs with | cons r2 rs => cases rs; cases r1.int; cases r2.int; exact callw_of (call_min2 hc) ⟨_, _, rfl, p.int S q⟩
  · cases rs with
    | cons r1 rs =>
      cases rs
      split at q
      · rename_i ns hv
        obtain ⟨xs, hv, hn⟩ := Option.bind_eq_some_iff.mp hv
        obtain ⟨a, vs, rfl, hq, r⟩ := r1.viewT S hv
        rw [r.ints hn] at hq
        rcases hq with hq | hq
        · exact callw_of (cr_max hc) ⟨a, ns, rfl, hq, q.1, fun m h1 h2 => p.int S (q.2 m h1 h2)⟩
        · exact callw_of (cr_maxT hc hu) ⟨a, ns, rfl, hq, q.1, fun m h1 h2 => p.int S (q.2 m h1 h2)⟩
      · exact q.elim
  · cases rs with
    | cons r1 rs =>
      cases rs
      split at q
      · rename_i ns hv
        obtain ⟨xs, hv, hn⟩ := Option.bind_eq_some_iff.mp hv
        obtain ⟨a, vs, rfl, hq, r⟩ := r1.viewT S hv
        rw [r.ints hn] at hq
        rcases hq with hq | hq
        · exact callw_of (cr_min hc) ⟨a, ns, rfl, hq, q.1, fun m h1 h2 => p.int S (q.2 m h1 h2)⟩
        · exact callw_of (cr_minT hc hu) ⟨a, ns, rfl, hq, q.1, fun m h1 h2 => p.int S (q.2 m h1 h2)⟩
      · exact q.elim
  · cases rs with
    | cons r1 rs =>
      cases rs
      split at q
      · rename_i ns hv
        obtain ⟨xs, hv, hn⟩ := Option.bind_eq_some_iff.mp hv
        obtain ⟨a, vs, rfl, hq, r⟩ := r1.view S hv
        rw [r.ints hn] at hq
        exact callw_of (cr_sum hc) ⟨a, ns, rfl, hq, p.int S q⟩
      · exact q.elim
  · cases rs with
    | cons r1 rs =>
      cases rs
      split at q
      · rename_i ns hv
        obtain ⟨xs, hv, hn⟩ := Option.bind_eq_some_iff.mp hv
        obtain ⟨a, vs, rfl, hq, r⟩ := r1.view S hv
        rw [r.bools hn] at hq
        exact callw_of (cr_all hc) ⟨a, ns, rfl, hq, p.bl S q⟩
      · exact q.elim
  · cases rs with
    | cons r1 rs =>
      cases rs
      split at q
      · rename_i ns hv
        obtain ⟨xs, hv, hn⟩ := Option.bind_eq_some_iff.mp hv
        obtain ⟨a, vs, rfl, hq, r⟩ := r1.view S hv
        rw [r.bools hn] at hq
        exact callw_of (cr_any hc) ⟨a, ns, rfl, hq, p.bl S q⟩
      · exact q.elim
  · cases rs with
    | cons r1 rs =>
      cases rs
      split at q
      · rename_i d hd
        exact callw_of (call_repr_D gd hu) ⟨_, d, rfl, r1.pdH S hd, q.1, p.str S q.2⟩
      · exact q.elim
  · cases rs with
    | cons r1 rs =>
      cases rs
      rcases r1 with r | ⟨_, _, _, _, _, ⟨_, _, e, _⟩ | ⟨_, _, e, _⟩⟩
      · cases r with
        | tup h1 r1 => exact callw_of call_tuple_of ⟨_, _, rfl, .inr ⟨ex_t S.sub h1, p.here S (.tup h1 r1) q⟩⟩
      · cases e
      · cases e
  · cases rs with
    | cons r1 rs =>
      cases rs
      split at q
      · rename_i xs hv
        obtain ⟨a, vs, rfl, hq, r⟩ := r1.view S hv
        exact callw_of call_tuple_of ⟨a, vs, rfl, .inl ⟨hq, p.newT S r q⟩⟩
      · exact q.elim
  · exact q.elim
end
end VL

set_option maxRecDepth 100000
set_option maxHeartbeats 4000000
/-! VL: the promise of a def where no guard stands open: what repr asks. -/
namespace VL
open PySem L2 Evl PyProof.Rows PySem.Spec
/-- what a def keeps, called where no guard is open; no exception leaves it -/
structure FnG (P : Program) (W : World) (K : PySem.W.Frag) (gl : Str → Option Value) (B : Heap) (k : Nat) (f : Addr) (fd : FuncData) (ps : List Str) (sp : Sp) : Prop where
  cnt : ∀ vs H Q E, sp vs H Q E → vs.length = ps.length
  go : ∀ (A : Around) (fr : List PySem.Env) (s : Shared) (H : Hp) (ar : Args) (us : List Value) (vs : List V) (Q : VK) (E : XK),
    A.guards = some [] → Room k A → Env0 P W K gl B A fr s H → BindsTo s fd ar (ps.zip us) → Vals vs us → sp vs H Q E →
    codeAny (model P W) A (.call (.ref f) ar) (CR CX0 fr P W H s Q E) s
section
variable {P : Program} {W : World} {K : PySem.W.Frag} {gl : Str → Option Value} {B : Heap}
theorem FnG.of_body {name qn : Str} {st : Stmt} {f : Addr} {fd : FuncData} {N ps : List Str} {k : Nat} {sp : Sp} (F : Fun K name qn st f fd) (S : FnScope N ps (defScope st)) (cnt : ∀ vs H Q E, sp vs H Q E → vs.length = ps.length)
    (body : ∀ (cv : Value) (A : Around) (fr : List PySem.Env) (s : Shared) (H : Hp) (vs : List V) (Q : VK) (E : XK), (A.deeper (envOfC qn (defScope st) s.heap.objs.size f cv)).guards = some [] →
      Room k (A.deeper (envOfC qn (defScope st) s.heap.objs.size f cv)) → sp vs H Q E →
      ∃ t, PSs (cxOf CX0 P W K gl B N qn (defScope st) f cv A fr s H E).nox (defBody st) t ∧ t { nx := fun _ H' => Q .non H', rt := Q } (L2.start N vs) H) :
    FnG P W K gl B (k + 1) f fd ps sp := by
  obtain ⟨oc, od, kV, dc, pm, an, cv, ct, sl, rfl, at_, code⟩ := F.ex
  constructor
  · exact cnt
  intro A fr s H ar us vs Q E gd room env bnd rel want
  have here : K.In s.heap := env.mod.kin.keeps fun b o z => (env.bs b o z).1
  have kinds : ∀ y ∈ ps.zip us, (defScope st).names.lookup y.1 = some .local ∨ ((defScope st).names.lookup y.1 = some .cell ∧ ((cellsFrom (s.heap.objs.size + 1) (defScope st).names []).lookup y.1).isSome = true) := by
    rintro ⟨nm, v⟩ hy
    rcases S.par nm (List.of_mem_zip hy).1 with z | z
    · exact Or.inl z
    · exact Or.inr ⟨z, PySem.W.cellsFrom_some _ _ _ (Or.inl z)⟩
  refine codeAny_call_function room.depth (here _ _ at_) rfl S.co S.gen rfl (PySem.W.codeRec_of here code) (bnd _ _ _ _ ?_)
  refine wpAny_newFunctionEnv_cells S.kind kinds fun e0 he s1 x => ?_
  cases he
  have calm : s.heap.NoLimit := env.mod.nolimit.keeps fun b o z => (env.bs b o z).1
  refine And.intro (calm.keeps x.toInCall.keep) (codeAny_func ?_)
  obtain ⟨t, pt, run⟩ := body cv A fr s H vs Q E gd (room.deeper _) want
  have J : Inv (cxOf CX0 P W K gl B N qn (defScope st) f cv A fr s H E) [] (L2.start N vs) H s1 := inv_start S room.hd env (cnt _ _ _ _ want) rel x
  refine wpAny_mono (pt.nox.run [] s1 (L2.start N vs) H _ J run) ?_ fun _ _ z => z
  intro fl s2 z
  match fl, z with
  | .ret u, ⟨v, _, H2, J2, rv, q⟩ => exact ⟨v, H2, J2.os, J2.bare, J2.base, J2.hok, rv, q⟩
  | .next, ⟨_, H2, J2, q⟩ => exact ⟨V.non, H2, J2.os, J2.bare, J2.base, J2.hok, rfl, q⟩
  | .brk, ⟨_, _, _, q⟩ => exact q.elim
  | .cont, ⟨_, _, _, q⟩ => exact q.elim
end
section
variable {X : Cx} {k : Nat} {f : Addr} {fd : FuncData} {ps : List Str} {sp : Sp} {x : Str} {p pos : Pos} {e : Expr} {es : List Expr} {t : TA}
theorem FnG.step {pins : List (Addr × Obj)} {σ : L2.St} {H : Hp} {s : Shared} {Q : VK} {us : List Value} {vs : List V} (F : FnG X.prog X.w X.K X.mg X.base k f fd ps sp) (gd : X.A.guards = some []) (room : Room k X.A) (bnd : Binds X.K fd ps [])
    (J : Inv X pins σ H s) (rel : Vals vs us) (want : sp vs H Q E0) : wpAny (model X.prog X.w) X.A (call (.ref f) us) (EP X pins σ Q) X.xe s := by
  have n1 : (us ++ []).length = ps.length := by
    rw [List.append_nil, ← rel.length]
    exact F.cnt _ _ _ _ want
  have b1 := bnd s us J.kIn n1
  rw [List.append_nil] at b1
  refine wpAny_call (codeAny_mono (F.go X.A X.stack s H ⟨us, []⟩ us vs Q E0 gd room J.env0 b1 rel want) ?_)
  intro r s2 z
  match r, z with
  | .ok (.ret u), z => exact J.after z
  | .ok .next, z => exact z.elim
  | .ok .brk, z => exact z.elim
  | .ok .cont, z => exact z.elim
  | .error _, z => exact z.elim
/-- f(e, ..) -/
theorem FnG.call (F : FnG X.prog X.w X.K X.mg X.base k f fd ps sp) (gd : X.A.guards = some []) (room : Room k X.A) (hg : Gl X x) (hm : X.mg x = some (.ref f)) (hk : PySem.W.keepIn X.K (.ref f) = true) (bnd : Binds X.K fd ps [])
    (ha : PA X (e :: es) t) (hdb : (x == ("__debug__" : Str)) = false) (he : starEach (e :: es) X.env = (false, eval e X.env) :: starEach es X.env) (hpl : (backTo pos (starEach es X.env)).any (·.1) = false) :
    PE X (.Call (.Name x p) (e :: es) [] pos) fun σ H Q => t σ H fun vs H1 => sp vs H1 Q E0 := by
  constructor
  intro pins s σ H Q J z
  refine wpAny_Call_Name_kw (ld_glob J hg hm ?_ hdb)
  refine PySem.W.callWith_K (h₀ := X.base) J.ok.mod.kin hk (thn (ha.run pos pins s σ H _ J z) ?_) he hpl
  rintro us s1 ⟨vs, H1, J1, rel, want⟩
  exact ⟨J1.kIn, F.step gd room bnd J1 rel want⟩
/-- f() -/
theorem FnG.call0 (F : FnG X.prog X.w X.K X.mg X.base k f fd ps sp) (gd : X.A.guards = some []) (room : Room k X.A) (hg : Gl X x) (hm : X.mg x = some (.ref f)) (hk : PySem.W.keepIn X.K (.ref f) = true) (bnd : Binds X.K fd ps [])
    (hdb : (x == ("__debug__" : Str)) = false) : PE X (.Call (.Name x p) [] [] pos) fun σ H Q => sp [] H Q E0 := by
  constructor
  intro pins s σ H Q J z
  exact wpAny_Call_Name_kw (ld_glob J hg hm (PySem.W.callWith_K0 J.kIn hk (F.step (us := []) gd room bnd J .nil z)) hdb)
theorem under_gd {A : Around} {C : Addr} {us : List Value} (h : A.guards = some []) : (A.under (.builtin "type.__call__" ⟨.ref C :: us, []⟩)).guards = some [] := by
  first | exact h | (simp [Around.under, Code.guards, Code.isGuard, guardIds, pushGuards, h])
/-- C(..): the new instance, then its __init__ -/
theorem FnG.born {C : Addr} {pins : List (Addr × Obj)} {σ : L2.St} {H : Hp} {s : Shared} {Q : VK} {us : List Value} {vs : List V} (M : Mk X.K C f) (F : FnG X.prog X.w X.K X.mg X.base k f fd ps sp) (gd : X.A.guards = some []) (room : Room (k + 1) X.A) (bnd : Binds X.K fd ps [])
    (J : Inv X pins σ H s) (rel : Vals vs us) (want : ∀ x dx, H x = none → H dx = none → dx ≠ x → sp (.ref x :: vs) (upd (upd H dx (.own x)) x (.ins C dx [])) (fun v H2 => v = .non ∧ Q (.ref x) H2) E0) :
    wpAny (model X.prog X.w) X.A (PySem.call (.ref C) us) (EP X pins σ Q) X.xe s := by
  have n0 : H s.heap.objs.size = none := J.hok.fresh (Nat.le_refl _)
  have n1 : H (s.heap.objs.size + 1) = none := J.hok.fresh (Nat.le_succ _)
  have want := want _ _ n1 n0 (Nat.ne_of_lt (Nat.lt_succ_self _))
  have J2 := Inv.made (C := C) J
  have rel2 : Vals (V.ref (s.heap.objs.size + 1) :: vs) (Value.ref (s.heap.objs.size + 1) :: us) := .cons rfl rel
  have cnt : (Value.ref (s.heap.objs.size + 1) :: us ++ []).length = ps.length := by
    rw [List.append_nil, ← rel2.length]
    exact F.cnt _ _ _ _ want
  have b1 := bnd _ (Value.ref (s.heap.objs.size + 1) :: us) J2.kIn cnt
  rw [List.append_nil] at b1
  refine wpAny_call (make_map (f := f) J.kIn M.makes M.init (beq_iff_eq.mp M.fn) (codeAny_mono (F.go _ X.stack _ _ ⟨Value.ref (s.heap.objs.size + 1) :: us, []⟩ _ _ _ E0 (under_gd gd) (room.make C us []) (J2.env0.make C us []) b1 rel2 want) ?_))
  intro r s2 z
  match r, z with
  | .ok (.ret u), z =>
    obtain ⟨v, H2, J3, rv, ev, q⟩ := J2.after z
    subst ev
    exact ⟨rv, V.ref _, H2, J3, rfl, q⟩
  | .ok .next, z => exact z.elim
  | .ok .brk, z => exact z.elim
  | .ok .cont, z => exact z.elim
  | .error _, z => exact z.elim
theorem FnG.make {C : Addr} (M : Mk X.K C f) (F : FnG X.prog X.w X.K X.mg X.base k f fd ps sp) (gd : X.A.guards = some []) (room : Room (k + 1) X.A) (hg : Gl X x) (hm : X.mg x = some (.ref C)) (bnd : Binds X.K fd ps [])
    (ha : PA X (e :: es) t) (hdb : (x == ("__debug__" : Str)) = false) (he : starEach (e :: es) X.env = (false, eval e X.env) :: starEach es X.env) (hpl : (backTo pos (starEach es X.env)).any (·.1) = false) :
    PE X (.Call (.Name x p) (e :: es) [] pos) fun σ H Q => t σ H fun vs H1 => ∀ a dx, H1 a = none → H1 dx = none → dx ≠ a → sp (.ref a :: vs) (upd (upd H1 dx (.own a)) a (.ins C dx [])) (fun v H2 => v = .non ∧ Q (.ref a) H2) E0 := by
  constructor
  intro pins s σ H Q J z
  refine wpAny_Call_Name_kw (ld_glob J hg hm ?_ hdb)
  refine PySem.W.callWith_K (h₀ := X.base) J.ok.mod.kin M.kp (thn (ha.run pos pins s σ H _ J z) ?_) he hpl
  rintro us s1 ⟨vs, H1, J1, rel, want⟩
  exact ⟨J1.kIn, F.born M gd room bnd J1 rel want⟩
/-- the def of a method, found at the object -/
theorem call_at {o : Expr} {m : Str} {apos : Pos} {env : PySem.Env} {args : List Expr} {A : Around} {M : Model} {Q : Value → Shared → Prop} {E : Value → Shared → Prop} {s : Shared} (hb : attributeBase o m env (eval o env) = eval o env) (hl : (apos.endLine == pos.line) = true) (hf : methodCallForm args.length (backTo pos (starEach args env)) [] = true)
    (h : wpAny M A (eval o env) (fun ov s1 => ∀ pl, wpAny M A (getMethod ov m pl) (fun g s2 => wpAny M A (callWith pos g.1 g.2 (backTo pos (starEach args env)) []) Q E s2) E s1) E s) : wpAny M A (eval (.Call (.Attribute o m apos) args [] pos) env) Q E s := by
  rw [arm_eval_Call, hb]
  refine wpAny_bind (thn h ?_)
  intro ov s1 z
  refine wpAny_bind (wpAny_standAt ?_)
  have same : ∀ few, methodCallPos few o env apos pos = pure pos := fun few => by unfold methodCallPos; simp [hl]
  unfold methodCall
  show wpAny M A (holding [ov] (calleeOf (methodCallForm args.length (backTo pos (starEach args env)) []) o env ov m) >>= _) Q E s1
  rw [hf]
  refine wpAny_bind (wpAny_holding (thn (z _) ?_))
  intro g s2 z2
  exact wpAny_bind (wpAny_of_eq (same _) z2)
/-- a method of the object that stands there, at its class -/
def MethAt (X : Cx) (C : Addr) (m : Str) (sp : Sp) : Prop := ∃ k f fd ps, Cls X.K C ∧ Meth X.K C m f ∧ FnG X.prog X.w X.K X.mg X.base k f fd ps sp ∧ Room k X.A ∧ Binds X.K fd ps []
theorem pe_methG {m : Str} {o : Expr} {apos : Pos} {ta : TE} (ho : PE X o ta) (hb : attributeBase o m X.env (eval o X.env) = eval o X.env) (hl : (apos.endLine == pos.line) = true) (hf : methodCallForm (e :: es).length (backTo pos (starEach (e :: es) X.env)) [] = true) (gd : X.A.guards = some [])
    (ha : PA X (e :: es) t) (he : starEach (e :: es) X.env = (false, eval e X.env) :: starEach es X.env) (hpl : (backTo pos (starEach es X.env)).any (·.1) = false) :
    PE X (.Call (.Attribute o m apos) (e :: es) [] pos) fun σ H Q => ta σ H fun x H1 => ∃ a C dx fs sp, x = .ref a ∧ H1 a = some (.ins C dx fs) ∧ fs.lookup m = none ∧ MethAt X C m sp ∧ t σ H1 fun vs H2 => sp (x :: vs) H2 Q E0 := by
  constructor
  intro pins s σ H Q J z
  refine call_at hb hl hf (thn (ho.run pins s σ H _ J z) ?_)
  rintro u s1 ⟨x, H1, J1, rx, a, C, dx, fs, sp, rfl, ea, l, ⟨k, f, fd, ps, c, hm, F, room, bnd⟩, q⟩ pl
  cases rx
  refine getmeth_ok J1 ea c hm l ?_
  refine PySem.W.callWith_K (first := [.ref a]) (h₀ := X.base) J1.ok.mod.kin hm.kp (thn (ha.run pos pins s1 σ H1 _ J1 q) ?_) he hpl
  rintro us s2 ⟨vs, H2, J2, rel, want⟩
  exact ⟨J2.kIn, F.step (us := .ref a :: us) (vs := .ref a :: vs) gd room bnd J2 (.cons rfl rel) want⟩
theorem pe_methG0 {m : Str} {o : Expr} {apos : Pos} {ta : TE} (ho : PE X o ta) (hb : attributeBase o m X.env (eval o X.env) = eval o X.env) (hl : (apos.endLine == pos.line) = true) (gd : X.A.guards = some []) :
    PE X (.Call (.Attribute o m apos) [] [] pos) fun σ H Q => ta σ H fun x H1 => ∃ a C dx fs sp, x = .ref a ∧ H1 a = some (.ins C dx fs) ∧ fs.lookup m = none ∧ MethAt X C m sp ∧ sp [x] H1 Q E0 := by
  constructor
  intro pins s σ H Q J z
  refine call_at hb hl rfl (thn (ho.run pins s σ H _ J z) ?_)
  rintro u s1 ⟨x, H1, J1, rx, a, C, dx, fs, sp, rfl, ea, l, ⟨k, f, fd, ps, c, hm, F, room, bnd⟩, want⟩ pl
  cases rx
  refine getmeth_ok J1 ea c hm l ?_
  exact PySem.W.callWith_K0 (first := [.ref a]) J1.kIn hm.kp (F.step (us := [.ref a]) (vs := [.ref a]) gd room bnd J1 (.cons rfl .nil) want)
/-- a property of the object that stands there, at its class -/
def PropAt (X : Cx) (C : Addr) (f : Str) (sp : Sp) : Prop := ∃ k p g fd ps, Cls X.K C ∧ PropOf X.K C f p g ∧ FnG X.prog X.w X.K X.mg X.base k g fd ps sp ∧ Room (k + 1) X.A ∧ Binds X.K fd ps []
theorem getprop_G {a C dx p g : Addr} {fs : List (Str × V)} {f : Str} {pins : List (Addr × Obj)} {σ : L2.St} {H : Hp} {s : Shared} {Q : VK} {b : Bool} {E' : Value → Shared → Prop} (I : Inv X pins σ H s) (ea : H a = some (.ins C dx fs)) (c : Cls X.K C) (hp : PropOf X.K C f p g)
    (F : FnG X.prog X.w X.K X.mg X.base k g fd ps sp) (gd : X.A.guards = some []) (hr : Room (k + 1) X.A) (hb : Binds X.K fd ps []) (h : sp [.ref a] H Q E0) :
    wpAny (model X.prog X.w) X.A (getAttr (.ref a) f b) (EP X pins σ Q) E' s := by
  obtain ⟨mA, O, _, _, _, _⟩ := ins_get I.hok ea
  obtain ⟨od, J, _⟩ := O.look
  obtain ⟨rest, hrec⟩ := hp.rec_
  have I1 := I.tok (s.toks + 1)
  have hl : ([Value.ref a] ++ []).length = ps.length := by
    rw [List.append_nil, ← F.cnt _ _ _ _ h]
    rfl
  have hc : (PySem.W.clsIn X.K C).isSome = true := by
    obtain ⟨cd, hc, _⟩ := PySem.W.any_some c.hd
    rw [hc]
    rfl
  have b1 := hb { s with toks := s.toks + 1 } [.ref a] I1.kIn hl
  rw [List.append_nil] at b1
  refine PySem.W.get_bind I.kIn J (PySem.W.plainGet_of (c.get f)).1 (PySem.W.findObj_data hc hp.at_ hp.get hp.tak) (PySem.W.plainGet_of (c.get f)).2 (wpAny_call (PySem.W.prop_get (s := { s with toks := s.toks + 1 }) I.kIn hrec ?_))
  refine codeAny_mono (F.go X.A.in1 X.stack { s with toks := s.toks + 1 } H ⟨[.ref a], []⟩ [.ref a] [.ref a] Q E0 gd hr.in1 I1.env0.in1 b1 (.cons rfl .nil) h) fun r s' hq => ?_
  cases r with
  | error er => exact hq.elim
  | ok fl =>
    cases fl with
    | ret u =>
      obtain ⟨v, H', I3, rv, q3⟩ := I1.after hq
      show wpAny _ _ (handedOut u) _ _ _
      rw [PySem.W.handedOut_of (handed_of rv)]
      exact wpAny_pure ⟨v, H', I3, rv, q3⟩
    | next => exact hq.elim
    | brk => exact hq.elim
    | cont => exact hq.elim
theorem pe_propG {o : Expr} {f : Str} {apos : Pos} {ta : TE} (ho : PE X o ta) (hb : attributeBase o f X.env (eval o X.env) = eval o X.env) (gd : X.A.guards = some []) :
    PE X (.Attribute o f apos) fun σ H Q => ta σ H fun x H1 => ∃ a C dx fs sp, x = .ref a ∧ H1 a = some (.ins C dx fs) ∧ PropAt X C f sp ∧ sp [x] H1 Q E0 := by
  constructor
  intro pins s σ H Q J z
  refine attr_of hb (thn (ho.run pins s σ H _ J z) ?_)
  rintro u s1 ⟨x, H1, J1, rx, a, C, dx, fs, sp, rfl, ea, ⟨k, p, g, fd, ps, c, hp, F, room, bnd⟩, want⟩
  obtain rfl : u = Value.ref a := rx
  exact getprop_G J1 ea c hp F gd room bnd want
end
end VL

set_option maxRecDepth 100000
set_option maxHeartbeats 2000000
/-! VL: t[::-1] of a tuple; dicts of the module. -/
namespace VL
open PySem L2 Evl PyProof.Rows PySem.Spec
section
variable {prog : Program} {w : World} {A : Around} {E : Value → Shared → Prop} {s : Shared}
theorem rev_adjust (n : Nat) : Builtin.Slice.sliceAdjust none none (-1) (n : Int) = ((n : Int) - 1, -1) := by
  unfold Builtin.Slice.sliceAdjust
  have h1 : ((-1 : Int) < 0) := by decide
  simp only [h1, if_true]
theorem rev_places (n : Nat) : Builtin.Slice.slicePlaces ((n : Int) - 1) (-1) (-1) = n := by
  unfold Builtin.Slice.slicePlaces
  have h1 : ¬ ((-1 : Int) > 0) := by decide
  have h2 : (-(-1) : Int) = 1 := by decide
  simp only [h1, if_false, h2, Int.ediv_one]
  split <;> omega
theorem fm_congr {α β : Type} {f g : α → Option β} : ∀ {l : List α}, (∀ a ∈ l, f a = g a) → l.filterMap f = l.filterMap g
  | [], _ => rfl
  | x :: l, h => by rw [List.filterMap_cons, List.filterMap_cons, h x (by simp), fm_congr fun a m => h a (List.mem_cons_of_mem _ m)]
theorem rev_pick (xs : Array Value) : ((List.range xs.size).filterMap fun (m : Nat) => xs[((xs.size : Int) - 1 + (m : Int) * -1).toNat]?).toArray = xs.toList.reverse.toArray := by
  have g := HT.pick_gen xs.toList.reverse.toArray 0 xs.size
  have e : ((List.range xs.size).filterMap fun (m : Nat) => xs[((xs.size : Int) - 1 + (m : Int) * -1).toNat]?) = ((List.range xs.size).filterMap fun (m : Nat) => xs.toList.reverse.toArray[(((0 : Nat) : Int) + (m : Int) * 1).toNat]?) := by
    apply fm_congr
    intro m hm
    have hm := List.mem_range.mp hm
    have e1 : ((xs.size : Int) - 1 + (m : Int) * -1).toNat = xs.size - 1 - m := by omega
    have e2 : (((0 : Nat) : Int) + (m : Int) * 1).toNat = m := by omega
    rw [e1, e2]
    simp only [List.getElem?_toArray]
    rw [List.getElem?_reverse (by simpa using hm)]
    simp
  rw [e, g]
  congr 1
  rw [List.drop_zero]
  exact List.take_of_length_le (by simp)
theorem slicePart_m1 {t : Tok} {Q : Option Int → Shared → Prop} (h : Q (some (-1)) s) : wpAny (model prog w) A (Builtin.Slice.slicePartIndex (.int (-1) t)) Q E s := HT.slicePart_ (.int (-1) t) h
theorem sliceApplied_rev {sl : Addr} {vl vu vs : Value} {n : Nat} {Q : Int × Int × Nat → Shared → Prop} (hs : s.heap.IsSliceOf sl vl vu vs) (pl : IsPart vl none) (pu : IsPart vu none) (ps : IsPart vs (some (-1)))
    (h : Q ((n : Int) - 1, -1, n) s) : wpAny (model prog w) A (Builtin.Slice.sliceApplied (.ref sl) (pure (n : Int))) Q E s := by
  obtain ⟨os, hos, hcs, hds⟩ := id hs
  unfold Builtin.Slice.sliceApplied Builtin.Slice.sliceFields
  refine wpAny_bind (wpAny_bind (wpAny_field hos hds (x := vl) rfl (wpAny_bind (wpAny_field hos hds (x := vu) rfl (wpAny_bind (wpAny_field hos hds (x := vs) rfl (wpAny_pure ?_)))))))
  refine wpAny_bind (HT.slicePart_ ps ?_)
  show wpAny _ _ (if ((-1 : Int) == 0) = true then _ else _) _ _ s
  rw [if_neg (by decide)]
  refine wpAny_bind (HT.slicePart_ pl (wpAny_bind (HT.slicePart_ pu (wpAny_bind (wpAny_pure ?_)))))
  show wpAny _ _ (match Builtin.Slice.sliceAdjust none none (-1) (n : Int) with | (lo, hi) => pure (lo, (-1 : Int), Builtin.Slice.slicePlaces lo hi (-1))) _ _ s
  rw [rev_adjust n]
  show wpAny _ _ (pure ((n : Int) - 1, (-1 : Int), Builtin.Slice.slicePlaces ((n : Int) - 1) (-1) (-1))) _ _ s
  rw [rev_places]
  exact wpAny_pure h
theorem getItem_tuple_rev {t sl : Addr} {items : Array Value} {vl vu vs : Value} {Q : Value → Shared → Prop} (ht : IsTup s.heap t items) (hs : s.heap.IsSliceOf sl vl vu vs) (pl : IsPart vl none) (pu : IsPart vu none) (ps : IsPart vs (some (-1)))
    (h : Q (.ref s.heap.objs.size) { s with heap := s.heap.push { cls := .type "tuple", data := .seq items.toList.reverse.toArray } })
    (hsz : items.size ≤ sizeLine) : wpAny (model prog w) A (getItem (.ref t) (.ref sl)) Q E s := by
  have htake : sizeOk (.seq items.toList.reverse.toArray) := by
    show items.toList.reverse.toArray.size ≤ sizeLine
    rw [List.size_toArray, List.length_reverse, Array.length_toList]
    exact hsz
  obtain ⟨os, hos, hcs, hds⟩ := id hs
  have hTs : s.TypeIs (.ref sl) "slice" := ⟨os, hos, hcs⟩
  unfold getItem
  try with_reducible refine wpAny_holding ?_
  first | refine wpAny_bind (wpAny_pure ?_) | skip
  refine wpAny_bind (wpAny_sequenceKey ht.typeIs (by decide) ?_)
  refine wpAny_bind (wpAny_callSpecial?_slot (name := Str.ofString "__getitem__") ht.typeIs PyProof.Rows.slot_tuple_getitem
    (wpAny_call_entry PyProof.Rows.slot_tuple_getitem ht.typeIs entry_tuple_getitem ?_ (args_tuple_getitem _ _)))
  show wpAny _ _ (Builtin.Tuple.tupleItemsOf (.ref t) >>= _) _ _ s
  refine wpAny_bind (PyProof.Rows.tupleItemsOf_ ht ?_)
  refine wpAny_bind (wpAny_typeOf hTs ?_)
  rw [if_pos (by decide)]
  refine wpAny_bind (sliceApplied_rev hs pl pu ps ?_)
  have hno : ¬ ((((items.size : Int) - 1) == 0 && (-1 : Int) == 1 && (items.size == items.size)) = true) := by
    intro q
    rw [Bool.and_eq_true, Bool.and_eq_true] at q
    have := eq_of_beq q.1.2
    omega
  show wpAny _ _ (if (((items.size : Int) - 1) == 0 && (-1 : Int) == 1 && (items.size == items.size)) = true then _ else _) _ _ s
  rw [if_neg hno, rev_pick]
  first
    | exact wpAny_bind (m := Builtin.Tuple.tupleExact _) (wpAny_newObj_type (wpAny_pure ⟨_, rfl, wpAny_pure h⟩) htake)
    | exact wpAny_bind (m := Builtin.Tuple.tupleExact _) (wpAny_newObj_type (wpAny_bind (wpAny_pure (wpAny_pure ⟨_, rfl, wpAny_pure h⟩))) htake)
    | exact wpAny_bind (wpAny_bind (m := Builtin.Tuple.tupleExact _) (wpAny_newObj_type (wpAny_pure (wpAny_pure ⟨_, rfl, wpAny_pure h⟩)) htake))
    | exact wpAny_bind (wpAny_bind (m := Builtin.Tuple.tupleExact _) (wpAny_newObj_type (wpAny_pure ⟨_, rfl, wpAny_pure h⟩) htake))
end
def notStar1 : Expr → Bool
  | .Starred _ _ => false
  | _ => true
section
variable {X : Cx}
def tRevT (K : PySem.W.Frag) (te : TE) : TE := fun σ H Q => te σ H fun x H1 => ∃ a xs, x = .ref a ∧ SqT K H1 a xs ∧ ∀ p, H1 p = none → Q (.ref p) (upd H1 p (.tup xs.reverse))
theorem pe_revT {e : Expr} {te : TE} {k : Nat} {p1 p2 p3 pos : Pos} (he : PE X e te) : PE X (.Subscript e (.Slice none none (some (.UnaryOp .USub (.Constant (.int 1) k p1) p2)) p3) pos) (tRevT X.K te) := by
  refine ⟨fun pins s σ H Q I h => ?_⟩
  refine Subscript_ (thn (he.run pins s σ H _ I h) fun v s1 ⟨x, H1, I1, r1, q1⟩ => ?_)
  obtain ⟨a, xs, ex, hx, q⟩ := q1
  subst ex
  cases r1
  have hst : PO X (some (.UnaryOp .USub (.Constant (.int 1) k p1) p2)) (tPart (tUn (rU fun i => .int (-i)) (tC (.int 1)))) := po_some (pe_un un_neg pe_int)
  refine wpAny_Slice (thn (po_none.run pins s1 σ H1 (fun o H2 => o = none ∧ H2 = H1) I1 ⟨rfl, rfl⟩) fun vl s2 ⟨l, H2, I2, pl, el, e2⟩ => ?_)
  subst el e2
  refine thn (po_none.run pins s2 σ H2 (fun o H3 => o = none ∧ H3 = H2) I2 ⟨rfl, rfl⟩) fun vu s3 ⟨u, H3, I3, pu, eu, e3⟩ => ?_
  subst eu e3
  refine thn (hst.run pins s3 σ H3 (fun o H4 => o = some (-1) ∧ H4 = H3) I3 ⟨1, rfl, -1, rfl, rfl, rfl⟩) fun vs s4 ⟨o, H4, I4, ps, eo, e4⟩ => ?_
  subst eo e4
  have I5 : Inv X pins σ H4 { s4 with heap := s4.heap.push { cls := .type "slice", data := .fields #[vl, vu, vs] } } := I4.kept (t' := s4.toks) fun b ob q => Heap.get?_push_of_some _ q
  obtain ⟨its, r, ht, hz⟩ := I5.tuple hx
  have hlen : its.toArray.size = xs.length := by rw [List.size_toArray]; exact r.length.symm
  show wpAny (model X.prog X.w) X.A (subscriptTail e (.Slice none none (some (.UnaryOp .USub (.Constant (.int 1) k p1) p2)) p3) (.ref a) (.ref s4.heap.objs.size)) (EP X pins σ Q) X.xe { s4 with heap := s4.heap.push { cls := .type "slice", data := .fields #[vl, vu, vs] } }
  refine tail_any (ops := [.ref a, .ref s4.heap.objs.size]) ht.typeIs (PyProof.Rows.slot_tuple_getitem.lookup) ?_ (by with_unfolding_all rfl)
  refine getItem_tuple_rev ht (Heap.IsSliceOf.new _ vl vu vs) pl pu ps ?_ (by rw [hlen]; exact hz)
  refine ⟨.ref _, _, I5.laid (t' := s4.toks) (o := .tup xs.reverse) (fun b ob q => Heap.get?_push_of_some _ q) (Nat.le_refl _) ?_, rfl, q _ (I5.hok.fresh (Nat.le_refl _))⟩
  exact ⟨by rw [List.length_reverse]; exact hz, _, r.reverse, IsTup.new _ _⟩
/-! ### dicts of the module -/
/-- a dict of the module: keys and values -/
structure GDict (K : PySem.W.Frag) (w : World) (d : Addr) (kvs : List (Str × Int)) : Prop where
  kd : ∃ es n, KDict K w d es n
  v : ∀ z, match kvs.lookup z with
    | some i => ∃ t, PySem.W.nsIn K d z = some (some (.int i t))
    | none => PySem.W.nsIn K d z = some none
def noRef (e : DictEntry) : Prop := e.refKey = false
theorem keyOf_ref {e : DictEntry} {x : Str × Int} (h : He.keyOf e = some x) : e.refKey = false := by
  unfold He.keyOf at h
  split at h
  · rename_i y t q
    unfold DictEntry.refKey
    rw [q]
  · cases h
theorem keyOf_str {e : DictEntry} {x : Str × Int} (h : He.keyOf e = some x) (z : Str) : e.key.isStr z = decide (x.1 = z) := by
  unfold He.keyOf at h
  split at h
  · rename_i y t q
    cases h
    rw [q]
    show (y == z) = _
    by_cases c : y = z
    · subst c; simp
    · simp [c]
  · cases h
theorem find_none {P : Params} {z : Str} : ∀ {l : List DictEntry} {ks : List Str}, l.map He.keyOf = He.keysIn P ks → z ∉ ks → l.find? (·.key.isStr z) = none ∧ l.any (·.refKey) = false
  | [], _, _, _ => ⟨rfl, rfl⟩
  | e :: r, [], h, _ => by cases h
  | e :: r, k :: ks, h, hz => by
    have h1 : He.keyOf e :: r.map He.keyOf = some (k, PyData.keyHash P k) :: He.keysIn P ks := h
    injection h1 with h2 h3
    obtain ⟨i1, i2⟩ := find_none (z := z) h3 fun m => hz (List.mem_cons_of_mem _ m)
    have e1 : e.key.isStr z = false := by
      rw [keyOf_str h2 z]
      exact decide_eq_false fun q => hz (by rw [← q]; simp)
    refine ⟨?_, ?_⟩
    · rw [List.find?_cons, e1]; exact i1
    · rw [List.any_cons, keyOf_ref h2, i2]; rfl
theorem gdict_of {K : PySem.W.Frag} {w : World} {a : Addr} {kvs : List (Str × Int)} (h : He.dicW K a = some (He.keysIn w.params (kvs.map (·.1))))
    (hv : ∀ p ∈ kvs, ∃ t, PySem.W.nsIn K a p.1 = some (some (.int p.2 t))) : GDict K w a kvs where
  kd := He.dicW_ok h
  v := fun z => by
    cases c : kvs.lookup z with
    | some i =>
      have mem : (z, i) ∈ kvs := by
        clear h hv
        induction kvs with
        | nil => cases c
        | cons p r ih =>
          obtain ⟨x, y⟩ := p
          rw [List.lookup_cons] at c
          split at c
          · rename_i q
            have := eq_of_beq q
            cases c
            rw [this]; simp
          · exact List.mem_cons_of_mem _ (ih c)
      exact hv _ mem
    | none =>
      have nm : z ∉ kvs.map (·.1) := by
        clear h hv
        induction kvs with
        | nil => simp
        | cons p r ih =>
          obtain ⟨x, y⟩ := p
          rw [List.lookup_cons] at c
          split at c
          · cases c
          · rename_i q
            intro m
            rcases List.mem_cons.mp m with m | m
            · exact absurd (show (z == x) = true by simp [m]) (by simp [q])
            · exact ih c m
      show PySem.W.nsIn K a z = some none
      unfold He.dicW at h
      cases q : K.lookup a with
      | none => rw [q] at h; cases h
      | some o =>
        obtain ⟨oc, od, dt, osl⟩ := o
        rw [q] at h
        unfold PySem.W.nsIn
        rw [q]
        cases oc with
        | type cc =>
          cases od with
          | none =>
            cases dt with
            | dict es n =>
              simp only at h ⊢
              split at h
              · obtain ⟨f1, f2⟩ := find_none (Option.some.inj h) nm
                rw [f1]
                simp only
                rw [f2]; rfl
              · cases h
            | _ => cases h
          | some b => cases dt <;> cases h
        | _ => cases od <;> cases dt <;> cases h
theorem ix_gdict {d : Addr} {kvs : List (Str × Int)} (D : GDict X.K X.w d kvs) : IxR X (fun x y H Q => ∃ z i, x = .ref d ∧ y = .str z ∧ kvs.lookup z = some i ∧ Q (.int i) H) := by
  intro value slice pins s σ H x y v u Q I rx ry h hs
  obtain ⟨z, i, ex, ey, hi, q⟩ := h
  have := D.v z
  rw [hi] at this
  obtain ⟨t, ht⟩ := this
  obtain ⟨es, n, KD⟩ := D.kd
  exact ix_kdict value slice pins s σ H x y v u Q I rx ry ⟨d, z, .int i, ex, ey, ⟨es, n, _, KD.at_, KD.lit, ht, ⟨t, rfl⟩⟩, q⟩ hs
theorem op_gIn {d : Addr} {kvs : List (Str × Int)} (D : GDict X.K X.w d kvs) : OpR X (compareOp .In) (fun x y H Q => ∃ z, x = .str z ∧ y = .ref d ∧ Q (.bl (kvs.lookup z).isSome) H) := by
  intro pins s σ H x y v u Q I rx ry h
  obtain ⟨z, ex, ey, q⟩ := h
  obtain ⟨es, n, KD⟩ := D.kd
  have := D.v z
  cases c : kvs.lookup z with
  | some i =>
    rw [c] at this q
    obtain ⟨t, ht⟩ := this
    exact op_in_kd KD pins s σ H x y v u Q I rx ry ⟨z, _, ex, ey, ht, q⟩
  | none =>
    rw [c] at this q
    exact op_in_kd KD pins s σ H x y v u Q I rx ry ⟨z, _, ex, ey, this, q⟩
theorem op_gNotIn {d : Addr} {kvs : List (Str × Int)} (D : GDict X.K X.w d kvs) : OpR X (compareOp .NotIn) (fun x y H Q => ∃ z, x = .str z ∧ y = .ref d ∧ Q (.bl (!(kvs.lookup z).isSome)) H) := by
  intro pins s σ H x y v u Q I rx ry h
  obtain ⟨z, ex, ey, q⟩ := h
  obtain ⟨es, n, KD⟩ := D.kd
  have := D.v z
  cases c : kvs.lookup z with
  | some i =>
    rw [c] at this q
    obtain ⟨t, ht⟩ := this
    exact op_notIn_kd KD pins s σ H x y v u Q I rx ry ⟨z, _, ex, ey, ht, q⟩
  | none =>
    rw [c] at this q
    exact op_notIn_kd KD pins s σ H x y v u Q I rx ry ⟨z, _, ex, ey, this, q⟩
/-! ### list.index -/
theorem one_form {e : Expr} {env : PySem.Env} (h : notStar1 e = true) (pos : Pos) : ((backTo pos (starEach [e] env)).all (fun x => !x.1) && (backToKw pos (keywordEach [] env)).all (fun x => x.1.isSome)
      && decide (([e] : List Expr).length + ([] : List Keyword).length + (if ([] : List Keyword).isEmpty then 0 else 1) < 30)) = true := by
  cases e <;> first | rfl | cases h
theorem pe_index {o e : Expr} {apos pos : Pos} {to te : TE} (ho : PE X o to) (he : PE X e te) (hn : notStar1 e = true) (hbase : attributeBase o "index" X.env (eval o X.env) = eval o X.env := by rfl) (hline : (apos.endLine == pos.line) = true := by rfl) :
    PE X (.Call (.Attribute o "index" apos) [e] [] pos) (tBM X.K "list" (rIndex X.K) to (tCons te tNil)) := by
  have hs : starEach [e] X.env = (false, eval e X.env) :: starEach [] X.env := by cases e <;> first | rfl | cases hn
  exact pe_bm PySem.F.plainAttrs_list PySem.F.slot_list_index PySem.F.type_list_index mt_index ho (pa_cons he pa_nil hs) hbase (one_form hn _) hline hs rfl
end
end VL

set_option maxRecDepth 100000
set_option maxHeartbeats 2000000
/-! VL: defs that an exception of an own class may leave; the exception's row; isinstance of it. -/
namespace VL
open PySem L2 Evl PyProof.Rows PySem.Spec
/-! ### the __init__ that keeps the row -/
def spRow (K : PySem.W.Frag) : Sp := fun vs H Q _ => ∃ (a C : Addr) (n : Int), vs = [.ref a, .int n] ∧ OexC K C ∧ PySem.W.findIn K (.ref C) "row" = some none ∧ H a = some (exo a C none) ∧
  ∀ dx, H dx = none → dx ≠ a → Q .non (upd (upd H dx (exd dx [("row", .int n)])) a (exo a C (some dx)))
def isRowInit : List Stmt → Bool
  | [.Assign [.Attribute (.Name a _) b _] (.Name c _) _] => decide (a = "self") && decide (b = "row") && decide (c = "row")
  | _ => false
theorem row_init {P : Program} {W : World} {K : PySem.W.Frag} {gl : Str → Option Value} {B : Heap} {name qn : Str} {st : Stmt} {f : Addr} {fd : FuncData} (F : Fun K name qn st f fd) (S : FnScope ["self", "row"] ["self", "row"] (defScope st))
    (v1 : Vis (defScope st) "self") (v2 : Vis (defScope st) "row") (hb : isRowInit (defBody st) = true) : FnOk P W K gl B CX0 1 f fd ["self", "row"] (spRow K) := by
  obtain ⟨oc, od, kV, dc, pm, an, cv, ct, sl, rfl, at_, code⟩ := F.ex
  refine fn_of (k := 0) at_ code S (fun vs H Q E ⟨a, C, n, e, _⟩ => by rw [e]; rfl) fun A outer s H vs Q E hr ⟨a, C, n, e, T, hno, ea, q⟩ => ?_
  unfold isRowInit at hb
  split at hb
  · rename_i x p1 y p2 z p3 p4 eb
    simp only [Bool.and_eq_true, decide_eq_true_eq] at hb
    obtain ⟨⟨rfl, rfl⟩, rfl⟩ := hb
    rw [eb]
    refine ⟨_, pss_cons (ps_ost (pe_var (i := 0) rfl v1 (by decide +kernel) (by decide +kernel)) (pe_var (i := 1) rfl v2 (by decide +kernel) (by decide +kernel)) rfl) pss_nil, ?_⟩
    subst e
    refine ⟨.int n, rfl, .ref a, rfl, a, C, rfl, T, hno, .inl ⟨ea, fun dx h1 h2 => q dx h1 h2⟩⟩
  · cases hb
/-! ### isinstance of a caught exception that has fields -/
structure ExcD (K : PySem.W.Frag) (D : Addr) : Prop where
  hcl : (PySem.W.clsIn K D).isSome = true
  hga : PySem.W.findIn K (.ref D) "__getattribute__" = some (some (.builtin "BaseException.__getattribute__"))
  hgt : PySem.W.findIn K (.ref D) "__getattr__" = some none
  hsub : PySem.W.subIn K (.ref D) (.type "BaseException") = some true
  ha : PySem.W.findIn K (.ref D) "__class__" = some (some (.builtin "object.__class__"))
  hn : PySem.W.specialIn K (.builtin "object.__class__") "__get__" = some (some (.builtin "getset_descriptor.__get__"))
  ht : PySem.W.takesIn K (.builtin "object.__class__") = some true
  hm : PySem.W.mroIn K D (.type "object") = some true
section
variable {X : Cx} {a D dd : Addr} {oe : Obj} {pn : List (Addr × Obj)}
theorem inst_at {pins : List (Addr × Obj)} {σ : L2.St} {H : Hp} {s : Shared} {fs : List (Str × V)} (hz : Zc (.ref D) (some dd) oe) (hf : ∃ vs, oe.data = .fields vs) (I : Inv (X.suite a ((a, oe) :: pn)) pins σ H s) (ea : H dd = some (.xd fs)) :
    ∃ od, PySem.W.InstAt s.heap a oe D (some od) := by
  obtain ⟨ha, _⟩ := I.pin (a, oe) (List.mem_append_left _ List.mem_cons_self)
  obtain ⟨vs, hd⟩ := hf
  have hx : ObjOk X.prog X.w H s.heap dd (.xd fs) := I.hok dd _ ea
  obtain ⟨mA, hns, hr⟩ := hx
  obtain ⟨od, ho, hl⟩ := lookIn_ns hns
  exact ⟨od, ha, hz.1, by unfold PySem.W.notCls; rw [hd] <;> rfl, by rw [hz.2]; exact ho⟩
theorem call_isX (C : ExcD X.K D) (hz : Zc (.ref D) (some dd) oe) (hf : ∃ vs, oe.data = .fields vs) : CallR (X.suite a ((a, oe) :: pn)) (.builtin "isinstance")
    (fun xs H Q => ∃ (c : V) (cv : Value) (b : Bool) (fs : List (Str × V)), xs = [.ref a, c] ∧ (∀ u, RelV c u → u = cv) ∧ PySem.W.kitOne X.K (.ref D) cv = some b ∧ H dd = some (.xd fs) ∧ Q (.bl b) H) := by
  intro pins s σ H xs us Q I r h
  obtain ⟨c, cv, b, fs, rfl, hcv, e, ea, q⟩ := h
  obtain ⟨u1, u2, rfl, r1, r2⟩ := vals2 r
  cases (show u1 = Value.ref a from r1)
  have ec := hcv _ r2
  subst ec
  obtain ⟨od, J⟩ := inst_at hz hf I ea
  exact PySem.W.kia_one (PySem.W.kitx_exc C.hcl C.hga C.hgt C.hsub C.ha C.hn C.ht C.hm) I.kIn J e (fun z => nomatch z) fun tk => ⟨.bl b, H, I.tok tk, rfl, q⟩
theorem call_isXT (C : ExcD X.K D) (hz : Zc (.ref D) (some dd) oe) (hf : ∃ vs, oe.data = .fields vs) : CallR (X.suite a ((a, oe) :: pn)) (.builtin "isinstance")
    (fun xs H Q => ∃ (tp : Addr) (cs : List V) (us : List Value) (b : Bool) (fs : List (Str × V)), xs = [.ref a, .ref tp] ∧ H tp = some (.tup cs) ∧ Paired ClsV cs us ∧ PySem.W.kitAny X.K (.ref D) us = some b ∧ H dd = some (.xd fs) ∧ Q (.bl b) H) := by
  intro pins s σ H xs us Q I r h
  obtain ⟨tp, cs, ws, b, fs, rfl, hT, k, e, ea, q⟩ := h
  obtain ⟨u1, u2, rfl, r1, r2⟩ := vals2 r
  cases (show u1 = Value.ref a from r1)
  cases (show u2 = Value.ref tp from r2)
  obtain ⟨od, J⟩ := inst_at hz hf I ea
  obtain ⟨_, its, rv, o, h1, h2, n, h3⟩ := (show ObjOk X.prog X.w H s.heap tp (.tup cs) from I.hok tp _ hT)
  have e3 := ClsV.all k rv
  subst e3
  obtain ⟨oc, od, dt, sl⟩ := o
  simp only at h2 h3
  subst h2 h3
  exact PySem.W.kia_tup (PySem.W.kitx_exc C.hcl C.hga C.hgt C.hsub C.ha C.hn C.ht C.hm) I.kIn J h1 e (fun z => nomatch z) fun tk => ⟨.bl b, H, I.tok tk, rfl, q⟩
end
/-! ### defs that an exception may leave -/
structure FnGX (P : Program) (W : World) (K : PySem.W.Frag) (gl : Str → Option Value) (B : Heap) (k : Nat) (f : Addr) (fd : FuncData) (ps : List Str) (sp : Sp) : Prop where
  cnt : ∀ vs H Q E, sp vs H Q E → vs.length = ps.length
  go : ∀ (A : Around) (fr : List PySem.Env) (s : Shared) (H : Hp) (ar : Args) (us : List Value) (vs : List V) (Q : VK) (E : XK),
    A.guards = some [] → Room k A → Env0 P W K gl B A fr s H → BindsTo s fd ar (ps.zip us) → Vals vs us → sp vs H Q E →
    codeAny (model P W) A (.call (.ref f) ar) (CR (L2.CX P W) fr P W H s Q E) s
section
variable {P : Program} {W : World} {K : PySem.W.Frag} {gl : Str → Option Value} {B : Heap}
theorem FnGX.of_body {name qn : Str} {st : Stmt} {f : Addr} {fd : FuncData} {N ps : List Str} {k : Nat} {sp : Sp} (F : Fun K name qn st f fd) (S : FnScope N ps (defScope st)) (cnt : ∀ vs H Q E, sp vs H Q E → vs.length = ps.length)
    (body : ∀ (cv : Value) (A : Around) (fr : List PySem.Env) (s : Shared) (H : Hp) (vs : List V) (Q : VK) (E : XK), (A.deeper (envOfC qn (defScope st) s.heap.objs.size f cv)).guards = some [] →
      Room k (A.deeper (envOfC qn (defScope st) s.heap.objs.size f cv)) → sp vs H Q E →
      ∃ t, PSs (cxOf (L2.CX P W) P W K gl B N qn (defScope st) f cv A fr s H E) (defBody st) t ∧ t { nx := fun _ H' => Q .non H', rt := Q } (L2.start N vs) H) :
    FnGX P W K gl B (k + 1) f fd ps sp := by
  obtain ⟨oc, od, kV, dc, pm, an, cv, ct, sl, rfl, at_, code⟩ := F.ex
  constructor
  · exact cnt
  intro A fr s H ar us vs Q E gd room env bnd rel want
  have here : K.In s.heap := env.mod.kin.keeps fun b o z => (env.bs b o z).1
  have kinds : ∀ y ∈ ps.zip us, (defScope st).names.lookup y.1 = some .local ∨ ((defScope st).names.lookup y.1 = some .cell ∧ ((cellsFrom (s.heap.objs.size + 1) (defScope st).names []).lookup y.1).isSome = true) := by
    rintro ⟨nm, v⟩ hy
    rcases S.par nm (List.of_mem_zip hy).1 with z | z
    · exact Or.inl z
    · exact Or.inr ⟨z, PySem.W.cellsFrom_some _ _ _ (Or.inl z)⟩
  refine codeAny_call_function room.depth (here _ _ at_) rfl S.co S.gen rfl (PySem.W.codeRec_of here code) (bnd _ _ _ _ ?_)
  refine wpAny_newFunctionEnv_cells S.kind kinds fun e0 he s1 x => ?_
  cases he
  have calm : s.heap.NoLimit := env.mod.nolimit.keeps fun b o z => (env.bs b o z).1
  refine And.intro (calm.keeps x.toInCall.keep) (codeAny_func ?_)
  obtain ⟨t, pt, run⟩ := body cv A fr s H vs Q E gd (room.deeper _) want
  have J : Inv (cxOf (L2.CX P W) P W K gl B N qn (defScope st) f cv A fr s H E) [] (L2.start N vs) H s1 := inv_start S room.hd env (cnt _ _ _ _ want) rel x
  refine wpAny_mono (pt.run [] s1 (L2.start N vs) H _ J run) ?_ fun _ _ z => z
  intro fl s2 z
  match fl, z with
  | .ret u, ⟨v, _, H2, J2, rv, q⟩ => exact ⟨v, H2, J2.os, J2.bare, J2.base, J2.hok, rv, q⟩
  | .next, ⟨_, H2, J2, q⟩ => exact ⟨V.non, H2, J2.os, J2.bare, J2.base, J2.hok, rfl, q⟩
  | .brk, ⟨_, _, _, q⟩ => exact q.elim
  | .cont, ⟨_, _, _, q⟩ => exact q.elim
end
section
variable {X : Cx} {k : Nat} {f : Addr} {fd : FuncData} {ps : List Str} {sp : Sp} {x : Str} {p pos : Pos} {e : Expr} {es : List Expr} {t : TA} {W : WX}
theorem FnGX.step {pins : List (Addr × Obj)} {σ : L2.St} {H : Hp} {s : Shared} {Q : VK} {us : List Value} {vs : List V} (F : FnGX X.prog X.w X.K X.mg X.base k f fd ps sp) (gd : X.A.guards = some []) (room : Room k X.A) (bnd : Binds X.K fd ps []) (tk : Takes X W)
    (J : Inv X pins σ H s) (rel : Vals vs us) (want : sp vs H Q fun c d H' => W c d σ H') : wpAny (model X.prog X.w) X.A (call (.ref f) us) (EP X pins σ Q) X.xe s := by
  have n1 : (us ++ []).length = ps.length := by
    rw [List.append_nil, ← rel.length]
    exact F.cnt _ _ _ _ want
  have b1 := bnd s us J.kIn n1
  rw [List.append_nil] at b1
  refine wpAny_call (codeAny_mono (F.go X.A X.stack s H ⟨us, []⟩ us vs Q _ gd room J.env0 b1 rel want) ?_)
  intro r s2 z
  match r, z with
  | .ok (.ret u), z => exact J.after z
  | .ok .next, z => exact z.elim
  | .ok .brk, z => exact z.elim
  | .ok .cont, z => exact z.elim
  | .error er, z => exact passAt tk σ pins H s er s2 J z
/-- f(e, ..), which may raise -/
theorem FnGX.call (F : FnGX X.prog X.w X.K X.mg X.base k f fd ps sp) (gd : X.A.guards = some []) (room : Room k X.A) (hg : Gl X x) (hm : X.mg x = some (.ref f)) (hk : PySem.W.keepIn X.K (.ref f) = true) (bnd : Binds X.K fd ps []) (tk : Takes X W)
    (ha : PA X (e :: es) t) (hdb : (x == ("__debug__" : Str)) = false) (he : starEach (e :: es) X.env = (false, eval e X.env) :: starEach es X.env) (hpl : (backTo pos (starEach es X.env)).any (·.1) = false) :
    PE X (.Call (.Name x p) (e :: es) [] pos) fun σ H Q => t σ H fun vs H1 => sp vs H1 Q fun c d H' => W c d σ H' := by
  constructor
  intro pins s σ H Q J z
  refine wpAny_Call_Name_kw (ld_glob J hg hm ?_ hdb)
  refine PySem.W.callWith_K (h₀ := X.base) J.ok.mod.kin hk (thn (ha.run pos pins s σ H _ J z) ?_) he hpl
  rintro us s1 ⟨vs, H1, J1, rel, want⟩
  exact ⟨J1.kIn, F.step gd room bnd tk J1 rel want⟩
end
end VL

set_option maxRecDepth 100000
set_option maxHeartbeats 2000000
/-! VL: the syntax against the text; each construct. -/
namespace VL
open PySem L2 Evl PyProof.Rows PySem.Spec

/-! ### names -/
structure Tab where
  fname : Nat → Option Str
  gname : Nat → Str
  cname : Nat → Option Str
  iname : Nat → Option Str := fun _ => none
  dname : Nat → Option Str := fun _ => none
  ename : Nat → Option Str := fun _ => none
  xname : Nat → Option Str := fun _ => none
def glB (sc : Scope) (x : Str) : Bool := decide (sc.names.lookup x = some .globalImplicit)
def visB (sc : Scope) (x : Str) : Bool := match sc.names.lookup x with
  | some .local => true
  | some .cell => true
  | some .free => true
  | _ => false
def locB (sc : Scope) (x : Str) : Bool := match sc.names.lookup x with
  | some .local => true
  | some .cell => true
  | _ => false
def plainName (x : Str) : Bool := !(x == ("__debug__" : Str)) && !(x == ("__classdict__" : Str)) && decide (x ≠ "__name__")
theorem glB_ok {X : Cx} {x : Str} (h : glB X.env.scope x = true) : Gl X x := by
  show X.env.scope.names.lookup x = some .globalImplicit
  exact of_decide_eq_true h
theorem visB_ok {sc : Scope} {x : Str} (h : visB sc x = true) : Vis sc x := by
  unfold visB at h
  split at h
  · exact .inl (by assumption)
  · exact .inr (.inl (by assumption))
  · exact .inr (.inr (by assumption))
  · cases h
theorem locB_ok {sc : Scope} {x : Str} (h : locB sc x = true) : Loc sc x := by
  unfold locB at h
  split at h
  · exact .inl (by assumption)
  · exact .inr (by assumption)
  · cases h
theorem plainName_ok {x : Str} (h : plainName x = true) : (x == ("__debug__" : Str)) = false ∧ (x == ("__classdict__" : Str)) = false ∧ x ≠ "__name__" := by
  unfold plainName at h
  simp only [Bool.and_eq_true, Bool.not_eq_true', decide_eq_true_eq] at h
  exact ⟨h.1.1, h.1.2, h.2⟩
def agVar (sc : Scope) (N : List Str) (i : Nat) (x : Expr) : Bool := match x with
  | .Name id _ => decide (N[i]? = some id) && visB sc id && plainName id
  | _ => false
def bName : Blt → Str
  | .len => "len" | .abs => "abs" | .int => "int" | .str => "str" | .max2 => "max" | .min2 => "min" | .maxL => "max" | .minL => "min"
  | .sum => "sum" | .all => "all" | .any => "any" | .tuple => "tuple" | .repr => "repr"
def bltNames : List Str := ["len", "abs", "int", "str", "max", "min", "sum", "all", "any", "tuple", "list", "range", "isinstance", "bool", "dict", "repr", "sorted", "zip", "enumerate", "reversed"]
theorem bName_mem (b : Blt) : bName b ∈ bltNames := by cases b <;> decide +kernel
theorem bName_boot (b : Blt) : bootBuiltins (bName b) = some (bVal b) := by cases b <;> decide +kernel
theorem bName_plain (b : Blt) : plainName (bName b) = true := by cases b <;> decide +kernel
def notStar : Expr → Bool
  | .Starred _ _ => false
  | _ => true
def notSlice : Expr → Bool
  | .Slice _ _ _ _ => false
  | _ => true
def notSet : Expr → Bool
  | .Set _ _ _ => false
  | _ => true
/-- no super() -/
def notSup : Expr → Bool
  | .Call _ _ _ _ => false
  | _ => true
theorem star_cons {x : Expr} (h : notStar x = true) (r : List Expr) (env : PySem.Env) : starEach (x :: r) env = (false, eval x env) :: starEach r env := by
  cases x <;> first | rfl | cases h
theorem star_all : ∀ {es : List Expr}, es.all notStar = true → ∀ (pos : Pos) (env : PySem.Env), (backTo pos (starEach es env)).any (·.1) = false
  | [], _, _, _ => rfl
  | e :: es, h, pos, env => by
    rw [List.all_cons, Bool.and_eq_true] at h
    rw [star_cons h.1]
    show (false || (backTo pos (starEach es env)).any (·.1)) = false
    rw [star_all h.2] <;> rfl
theorem plainIx_of {x : Expr} (h : notSlice x = true) : PlainIx x := fun o i => by
  cases x <;> first | rfl | cases h
theorem folded_of {x : Expr} (h : notSet x = true) (env : PySem.Env) : ∀ v, foldedSetIterable x env v = pure v := fun v => by
  cases x <;> first | rfl | cases h
theorem base_of {x : Expr} (h : notSup x = true) (f : Str) (env : PySem.Env) : attributeBase x f env (eval x env) = eval x env := by
  cases x <;> first | rfl | cases h
/-- a test that is its value's truth -/
def plainT : Expr → Bool
  | .UnaryOp .Not _ _ => false
  | .BoolOp _ _ _ => false
  | .IfExp _ _ _ _ => false
  | .Compare _ _ _ _ => false
  | _ => true
theorem plainT_ok {x : Expr} (h : plainT x = true) (env : PySem.Env) : ∀ whole, isTrue x env whole = (do let v ← whole; standAt x.pos; holding [v] (truthy v)) := fun whole => by
  cases x <;> first | rfl | cases h | (rename_i op _ _; cases op <;> first | rfl | cases h)

/-- a target: its name's kind by the block's scope as written and as it runs -/
def tgN (sc0 sc : Scope) (id : Str) : Bool := (decide (sc0.names.lookup id = some .local) && decide (sc.names.lookup id = some .local)) || (decide (sc0.names.lookup id = some .cell) && decide (sc.names.lookup id = some .cell))
def agNames (sc0 sc : Scope) (N : List Str) : List Nat → List Expr → Bool
  | [], [] => true
  | i :: is, .Name id _ :: es => decide (N[i]? = some id) && tgN sc0 sc id && agNames sc0 sc N is es
  | _, _ => false
def agTg (sc0 sc : Scope) (N : List Str) : Tg → Expr → Bool
  | .nm i, x => match x with
    | .Name id _ => decide (N[i]? = some id) && tgN sc0 sc id
    | _ => false
  | .tup is, x => match x with
    | .Tuple es _ _ => agNames sc0 sc N is es
    | _ => false
def tgIds : Tg → List Nat
  | .nm i => [i]
  | .tup is => is
def ownP (N : List Str) : List Nat → List (Str × Nat)
  | [] => []
  | i :: is => (N.getD i "", i) :: ownP N is
theorem ownP_ids (N : List Str) (is : List Nat) : (ownP N is).map (·.2) = is := by
  induction is with
  | nil => rfl
  | cons i is ih => simp [ownP, ih]

def tail2 (op : BoolOp) (z : Expr) (pos : Pos) : List Expr → Expr
  | [] => z
  | w :: r => .BoolOp op (z :: w :: r) pos
def zipOk (it : It) (t : Expr) : Bool := match it with
  | .zip _ _ => match t with
    | .Tuple _ _ _ => true
    | _ => false
  | _ => true
mutual
def agE (T : Tab) (sc : Scope) (N : List Str) : E → Expr → Bool
  | .var i, x => agVar sc N i x
  | .vw i, x => agVar sc N i x
  | .cint i, x => match x with
    | .Constant (.int j) _ _ => decide (i = j)
    | _ => false
  | .cstr i, x => match x with
    | .Constant (.str j) _ _ => decide (i = j)
    | _ => false
  | .cbl i, x => match x with
    | .Constant (.bool j) _ _ => decide (i = j)
    | _ => false
  | .cnon, x => match x with
    | .Constant .none _ _ => true
    | _ => false
  | .glob g, x => match x with
    | .Name id _ => decide (id = T.gname g) && glB sc id && plainName id
    | _ => false
  | .bin op a b, x => match x with
    | .BinOp l o r _ => decide (op = o) && agE T sc N a l && agE T sc N b r
    | _ => false
  | .neg a, x => match x with
    | .UnaryOp .USub y _ => agE T sc N a y
    | _ => false
  | .not a, x => match x with
    | .UnaryOp .Not y _ => agE T sc N a y
    | _ => false
  | .cmp op a b, x => match x with
    | .Compare l [o] [r] _ => decide (op = o) && agE T sc N a l && agE T sc N b r && !behindInMarks o r
    | _ => false
  | .chain o1 o2 a b c, x => match x with
    | .Compare l [p1, p2] [r1, r2] _ => decide (o1 = p1) && decide (o2 = p2) && agE T sc N a l && agE T sc N b r1 && agE T sc N c r2 && !lastMarks [p1, p2] [r1, r2]
    | _ => false
  | .and a b, x => match x with
    | .BoolOp .And (y :: z :: rest) p => agE T sc N a y && agE T sc N b (tail2 .And z p rest)
    | _ => false
  | .or a b, x => match x with
    | .BoolOp .Or (y :: z :: rest) p => agE T sc N a y && agE T sc N b (tail2 .Or z p rest)
    | _ => false
  | .ite c a b, x => match x with
    | .IfExp t l r _ => agE T sc N c t && agE T sc N a l && agE T sc N b r
    | _ => false
  | .tup es, x => match x with
    | .Tuple xs _ _ => agEs T sc N es xs
    | _ => false
  | .fz n, x => agN T sc N n x
  | .new n, x => agN T sc N n x
  | .sub a i, x => match x with
    | .Subscript l r _ => agE T sc N a l && agE T sc N i r && notSlice r
    | _ => false
  | .slice a lo hi, x => match x with
    | .Subscript l (.Slice u v none _) _ => agE T sc N a l && agO T sc N lo u && agO T sc N hi v
    | _ => false
  | .call f es, x => match x with
    | .Call (.Name id _) xs [] _ => decide (T.fname f = some id) && glB sc id && plainName id && agEs T sc N es xs
    | _ => false
  | .blt b es, x => match x with
    | .Call (.Name id _) (y :: xs) [] _ => decide (id = bName b) && glB sc id && agEs T sc N es (y :: xs)
    | _ => false
  | .isi a t, x => match x with
    | .Call (.Name id _) [y, .Name id2 _] [] _ => decide (id = "isinstance") && glB sc id && decide (id2 = Str.ofString t) && glB sc id2 && agE T sc N a y && notStar y && (["int", "bool", "str", "list", "tuple"] : List String).contains t
    | _ => false
  | .smt m o a, x => match x with
    | .Call (.Attribute y nm apos) [z] [] cpos => (match m with | .join => decide (nm = "join")) && agE T sc N o y && agE T sc N a z && notStar z && notSup y && (apos.endLine == cpos.line)
    | _ => false
  | .attr a f, x => match x with
    | .Attribute y g _ => decide (f = g) && agE T sc N a y && notSup y
    | _ => false
  | .prop a f, x => match x with
    | .Attribute y g _ => decide (f = g) && agE T sc N a y && notSup y
    | _ => false
  | .mcall o m es, x => match x with
    | .Call (.Attribute y nm apos) xs [] cpos => decide (m = nm) && agE T sc N o y && agEs T sc N es xs && notSup y && (apos.endLine == cpos.line) && decide (xs.length < 30)
    | _ => false
  | .make c es, x => match x with
    | .Call (.Name id _) (y :: xs) [] _ => decide (T.cname c = some id) && glB sc id && plainName id && agEs T sc N es (y :: xs)
    | _ => false
  | .tru a, x => agE T sc N a x && plainT x
  | .isC a c, x => match x with
    | .Call (.Name id _) [y, .Name id2 _] [] _ => decide (id = "isinstance") && glB sc id && decide (T.iname c = some id2) && glB sc id2 && plainName id2 && agE T sc N a y && notStar y
    | _ => false
  | .gIn neg a g, x => match x with
    | .Compare l [o] [.Name id p] _ => decide (o = if neg then .NotIn else .In) && agE T sc N a l && decide (T.dname g = some id) && glB sc id && plainName id && !behindInMarks o (.Name id p)
    | _ => false
  | .gGet g a, x => match x with
    | .Subscript (.Name id _) r _ => decide (T.dname g = some id) && glB sc id && plainName id && agE T sc N a r && notSlice r
    | _ => false
  | .idx l a, x => match x with
    | .Call (.Attribute y nm apos) [z] [] cpos => decide (nm = "index") && agE T sc N l y && agE T sc N a z && notStar1 z && notSup y && (apos.endLine == cpos.line)
    | _ => false
  | .popE o, x => match x with
    | .Call (.Attribute y nm apos) [] [] cpos => decide (nm = "pop") && agE T sc N o y && notSup y && (apos.endLine == cpos.line)
    | _ => false
  | .revT a, x => match x with
    | .Subscript l (.Slice none none (some (.UnaryOp .USub (.Constant (.int 1) _ _) _)) _) _ => agE T sc N a l
    | _ => false
def agEs (T : Tab) (sc : Scope) (N : List Str) : Es → List Expr → Bool
  | .nil, xs => match xs with
    | [] => true
    | _ => false
  | .cons e es, xs => match xs with
    | y :: ys => agE T sc N e y && notStar y && agEs T sc N es ys
    | _ => false
def agD (T : Tab) (sc : Scope) (N : List Str) : Es → List (Option Expr) → List Expr → Bool
  | .nil, xs, ys => match xs, ys with
    | [], [] => true
    | _, _ => false
  | .cons k (.cons v es), xs, ys => match xs, ys with
    | some x :: xs, y :: ys => agE T sc N k x && agE T sc N v y && agD T sc N es xs ys
    | _, _ => false
  | .cons _ .nil, _, _ => false
def agO (T : Tab) (sc : Scope) (N : List Str) : Oe → Option Expr → Bool
  | .no, x => match x with
    | none => true
    | _ => false
  | .so e, x => match x with
    | some y => agE T sc N e y
    | _ => false
def agN (T : Tab) (sc : Scope) (N : List Str) : Nw → Expr → Bool
  | .lst es, x => match x with
    | .List xs _ => agEs T sc N es xs
    | _ => false
  | .comp elt tg it cond own, x => match x with
    | .ListComp y [⟨t, i, ifs, a⟩] scope _ => decide (a = 0) && blkC N sc scope (ownP N own) && (tgIds tg).all (fun i => own.contains i) && agTg scope (relS scope sc) N tg t && agI T sc N it i && zipOk it t && notSet i && agE T (relS scope sc) N elt y &&
      (match ifs with
      | [] => match cond with
        | .no => true
        | _ => false
      | [c] => agC T (relS scope sc) N cond c
      | _ => false)
    | _ => false
  | .slice a lo hi, x => match x with
    | .Subscript l (.Slice u v none _) _ => agE T sc N a l && agO T sc N lo u && agO T sc N hi v
    | _ => false
  | .listOf a, x => match x with
    | .Call (.Name id _) [y] [] _ => decide (id = "list") && glB sc id && agE T sc N a y && notStar y
    | _ => false
  | .cat a b, x => match x with
    | .BinOp l o r _ => decide (o = .Add) && agE T sc N a l && agE T sc N b r
    | _ => false
  | .rep a b, x => match x with
    | .BinOp l o r _ => decide (o = .Mult) && agE T sc N a l && agE T sc N b r
    | _ => false
  | .rev a, x => match x with
    | .Subscript l (.Slice none none (some (.UnaryOp .USub (.Constant (.int 1) _ _) _)) _) _ => agE T sc N a l
    | _ => false
  | .dct1 k v, x => match x with
    | .Dict [some y] [z] _ => agE T sc N k y && agE T sc N v z
    | _ => false
  | .dctL es, x => match x with
    | .Dict xs ys _ => agD T sc N es xs ys && decide (0 < xs.length) && decide (xs.length ≤ 15)
    | _ => false
  | .dctN0, x => match x with
    | .Dict [] [] _ => true
    | _ => false
  | .split o a, x => match x with
    | .Call (.Attribute y nm apos) [z] [] cpos => decide (nm = "split") && agE T sc N o y && agE T sc N a z && notStar z && notSup y && (apos.endLine == cpos.line)
    | _ => false
  | .dct0, x => match x with
    | .Dict [] [] _ => true
    | _ => false
  | .dictOf a, x => match x with
    | .Call (.Name id _) [y] [] _ => decide (id = "dict") && glB sc id && agE T sc N a y && notStar y
    | _ => false
  | .sorted a, x => match x with
    | .Call (.Name id _) [y] [] _ => decide (id = "sorted") && glB sc id && agE T sc N a y && notStar y
    | _ => false
  | .rngL a b, x => match x with
    | .Call (.Name id _) [.Call (.Name id2 _) [y, z] [] _] [] _ => decide (id = "list") && glB sc id && decide (id2 = "range") && glB sc id2 && agE T sc N a y && notStar y && agE T sc N b z && notStar z
    | _ => false
def agC (T : Tab) (sc : Scope) (N : List Str) : Oe → Expr → Bool
  | .no, _ => false
  | .so e, x => agE T sc N e x
def agI (T : Tab) (sc : Scope) (N : List Str) : It → Expr → Bool
  | .rng1 a, x => match x with
    | .Call (.Name id _) [y] [] _ => decide (id = "range") && glB sc id && agE T sc N a y && notStar y
    | _ => false
  | .rvR a, x => match x with
    | .Call (.Name id _) [.Call (.Name id2 _) [y] [] _] [] _ => decide (id = "reversed") && glB sc id && decide (id2 = "range") && glB sc id2 && agE T sc N a y && notStar y
    | _ => false
  | .rng2 a b, x => match x with
    | .Call (.Name id _) [y, z] [] _ => decide (id = "range") && glB sc id && agE T sc N a y && notStar y && agE T sc N b z && notStar z
    | _ => false
  | .seq a, x => agE T sc N a x
  | .own i, x => agVar sc N i x
  | .chars a, x => agE T sc N a x
  | .keys a, x => agE T sc N a x
  | .zip a b, x => match x with
    | .Call (.Name id _) [y, z] [] _ => decide (id = "zip") && glB sc id && agE T sc N a y && notStar y && agE T sc N b z && notStar z
    | _ => false
end

/-! ### the context -/
def spOf (K : PySem.W.Frag) (Cl : Nat → Addr) (C : Ctx) (f : Nat) : Sp := fun vs H Q _ => ∃ cs F h ds Qa, StOk K Cl cs F H h ∧ Reps K cs F vs ds ∧ C.call f ds h Qa ∧
  ∀ v d cs' F' H' h', Stp cs F H cs' F' H' → StOk K Cl cs' F' H' h' → Rep K cs' F' v d → Qa d h' → Q v H'
structure XOk (C : Ctx) (T : Tab) (Cl : Nat → Addr) (X : Cx) : Prop where
  nd : X.N.Nodup
  calm : X.calm = true
  units : X.A.units + 65 < cLine
  gd : X.A.guards = some []
  blt : ∀ x, x ∈ bltNames → X.mg x = none
  glob : ∀ g d, C.glob g = some d → ∃ u v, X.mg (T.gname g) = some u ∧ RelV v u ∧ ∀ cs F, Rep X.K cs F v d
  fn : ∀ f x, T.fname f = some x → ∃ k a fd ps, FnG X.prog X.w X.K X.mg X.base k a fd ps (spOf X.K Cl C f) ∧ Room k X.A ∧ X.mg x = some (.ref a) ∧ PySem.W.keepIn X.K (.ref a) = true ∧ Binds X.K fd ps []
  cls : ∀ c x, T.cname c = some x → ∃ f k a fd ps, C.init c = some f ∧ FnG X.prog X.w X.K X.mg X.base k a fd ps (spOf X.K Cl C f) ∧ Room (k + 1) X.A ∧ X.mg x = some (.ref (Cl c)) ∧ Mk X.K (Cl c) a ∧ Binds X.K fd ps []
  mth : ∀ c m f, C.meth c m = some f → ∃ k a fd ps, FnG X.prog X.w X.K X.mg X.base k a fd ps (spOf X.K Cl C f) ∧ Room k X.A ∧ Cls X.K (Cl c) ∧ Meth X.K (Cl c) m a ∧ Binds X.K fd ps []
  prp : ∀ c m f, C.prp c m = some f → ∃ k p a fd ps, FnG X.prog X.w X.K X.mg X.base k a fd ps (spOf X.K Cl C f) ∧ Room (k + 1) X.A ∧ Cls X.K (Cl c) ∧ PropOf X.K (Cl c) m p a ∧ Binds X.K fd ps []
  fld : ∀ c f, C.fld c f = true → Cls X.K (Cl c) ∧ NoAttr X.K (Cl c) f
  gdc : ∀ g x, T.dname g = some x → ∃ kvs d, C.gdct g = some kvs ∧ X.mg x = some (.ref d) ∧ GDict X.K X.w d kvs
  isc : ∀ c x, T.iname c = some x → X.mg x = some (.ref (Cl c)) ∧ C8.InsC X.K (Cl c)
theorem XOk.blk {C : Ctx} {T : Tab} {Cl : Nat → Addr} {X : Cx} (O : XOk C T Cl X) (s : Shared) (H : Hp) (scope : Scope) (cl : List (Str × Addr)) (c : Addr) (fp : List Addr) : XOk C T Cl (X.blk s H scope (compEnvC scope cl c X.env) fp) where
  nd := O.nd
  calm := O.calm
  units := O.units
  gd := O.gd
  blt := O.blt
  glob := O.glob
  fn := O.fn
  cls := O.cls
  mth := O.mth
  prp := O.prp
  fld := O.fld
  gdc := O.gdc
  isc := O.isc

/-! ### weakest readings -/
def WE (X : Cx) (e : Expr) : TE := fun σ H Q => ∀ pins s, Inv X pins σ H s → wpAny (model X.prog X.w) X.A (eval e X.env) (EP X pins σ Q) X.xe s
def WT (X : Cx) (e : Expr) : TT := fun σ H Q => ∀ pins s, Inv X pins σ H s → wpAny (model X.prog X.w) X.A (isTrue e X.env (eval e X.env)) (TP X pins σ Q) X.xe s
def WW (X : Cx) (e : Expr) : TT := fun σ H Q => ∀ (whole : Sem Value) pins s, Inv X pins σ H s → wpAny (model X.prog X.w) X.A (isTrue e X.env whole) (TP X pins σ Q) X.xe s
def WA (X : Cx) (es : List Expr) : TA := fun σ H Q => ∀ (pos : Pos) pins s, Inv X pins σ H s → wpAny (model X.prog X.w) X.A (spliced (backTo pos (starEach es X.env))) (AP X pins σ Q) X.xe s
def WO (X : Cx) (e : Option Expr) : TO := fun σ H Q => ∀ pins s, Inv X pins σ H s → wpAny (model X.prog X.w) X.A (evalPart e X.env) (fun u s' => ∃ o H', Inv X pins σ H' s' ∧ IsPart u o ∧ Q o H') X.xe s
section
variable {X : Cx}
theorem pe_we {e : Expr} : PE X e (WE X e) := ⟨fun pins s σ H Q I h => h pins s I⟩
theorem pt_we {e : Expr} : PT X e (WT X e) := ⟨fun pins s σ H Q I h => h pins s I⟩
theorem po_we {e : Option Expr} : PO X e (WO X e) := ⟨fun pins s σ H Q I h => h pins s I⟩
theorem wo_of {e : Option Expr} {t : TO} (p : PO X e t) {σ : L2.St} {H : Hp} {Q : Option Int → Hp → Prop} (h : t σ H Q) : WO X e σ H Q := fun pins s I => p.run pins s σ H Q I h
theorem pa_we {e : List Expr} : PA X e (WA X e) := ⟨fun pos pins s σ H Q I h => h pos pins s I⟩
theorem we_of {e : Expr} {t : TE} (p : PE X e t) {σ : L2.St} {H : Hp} {Q : VK} (h : t σ H Q) : WE X e σ H Q := fun pins s I => p.run pins s σ H Q I h
theorem wt_of {e : Expr} {t : TT} (p : PT X e t) {σ : L2.St} {H : Hp} {Q : Bool → Hp → Prop} (h : t σ H Q) : WT X e σ H Q := fun pins s I => p.run pins s σ H Q I h
theorem wa_of {e : List Expr} {t : TA} (p : PA X e t) {σ : L2.St} {H : Hp} {Q : List V → Hp → Prop} (h : t σ H Q) : WA X e σ H Q := fun pos pins s I => p.run pos pins s σ H Q I h
end

/-! ### what is shown of each construct -/
def EOk (K : PySem.W.Frag) (Cl : Nat → Addr) (b : Bool) (cs : List Addr) (F H : Hp) (Q : AV → AHeap → Prop) (R : VK) : Prop :=
  ∀ v d cs' F' H' h', Stp cs F H cs' F' H' → StOk K Cl cs' F' H' h' → RepB K cs' F' H' b v d → Q d h' → R v H'
def BOk (K : PySem.W.Frag) (Cl : Nat → Addr) (cs : List Addr) (F H : Hp) (Q : Bool → AHeap → Prop) (R : Bool → Hp → Prop) : Prop :=
  ∀ k cs' F' H' h', Stp cs F H cs' F' H' → StOk K Cl cs' F' H' h' → Q k h' → R k H'
def AOk (K : PySem.W.Frag) (Cl : Nat → Addr) (b : Bool) (cs : List Addr) (F H : Hp) (Q : List AV → AHeap → Prop) (R : List V → Hp → Prop) : Prop :=
  ∀ v d cs' F' H' h', Stp cs F H cs' F' H' → StOk K Cl cs' F' H' h' → RepBs K cs' F' H' b v d → Q d h' → R v H'
def OOk (K : PySem.W.Frag) (Cl : Nat → Addr) (cs : List Addr) (F H : Hp) (Q : Option Int → AHeap → Prop) (R : Option Int → Hp → Prop) : Prop :=
  ∀ k cs' F' H' h', Stp cs F H cs' F' H' → StOk K Cl cs' F' H' h' → Q k h' → R k H'
def NOk (K : PySem.W.Frag) (Cl : Nat → Addr) (cs : List Addr) (F H : Hp) (Q : Cell → AHeap → Prop) (R : VK) : Prop :=
  ∀ p c cs' F' H' h', Stp cs F H cs' F' H' → StOk K Cl cs' F' H' h' → H p = none → F' p = none → p ∉ cs' → COk K Cl cs' F' H' p c → Q c h' → R (.ref p) H'
section
variable (C : Ctx) (T : Tab) (Cl : Nat → Addr)
def SE (X : Cx) (b : Bool) (e : E) (x : Expr) : Prop := ∀ ρ h Q σ cs F H R, StOk X.K Cl cs F H h → EnvOk X.K Cl cs F H σ ρ → WpE C b e ρ h Q → EOk X.K Cl b cs F H Q R → WE X x σ H R
def ST (X : Cx) (e : E) (x : Expr) : Prop := ∀ ρ h Q σ cs F H R, StOk X.K Cl cs F H h → EnvOk X.K Cl cs F H σ ρ → WpT C e ρ h Q → BOk X.K Cl cs F H Q R → WT X x σ H R
def SA (X : Cx) (es : Es) (x : List Expr) : Prop := ∀ ρ h Q σ cs F H R, StOk X.K Cl cs F H h → EnvOk X.K Cl cs F H σ ρ → WpEs C es ρ h Q → AOk X.K Cl false cs F H Q R → WA X x σ H R
def SB (X : Cx) (es : Es) (x : List Expr) : Prop := ∀ ρ h Q σ cs F H R, StOk X.K Cl cs F H h → EnvOk X.K Cl cs F H σ ρ → WpBs C es ρ h Q → AOk X.K Cl true cs F H Q R → WA X x σ H R
def SO (X : Cx) (e : Oe) (x : Option Expr) : Prop := ∀ ρ h Q σ cs F H R, StOk X.K Cl cs F H h → EnvOk X.K Cl cs F H σ ρ → WpO C e ρ h Q → OOk X.K Cl cs F H Q R → WO X x σ H R
def SN (X : Cx) (e : Nw) (x : Expr) : Prop := ∀ ρ h Q σ cs F H R, StOk X.K Cl cs F H h → EnvOk X.K Cl cs F H σ ρ → WpN C e ρ h Q → NOk X.K Cl cs F H Q R → WE X x σ H R
end

section
variable {C : Ctx} {T : Tab} {Cl : Nat → Addr} {X : Cx} {b : Bool} {K : PySem.W.Frag} {cs cs' cs'' : List Addr} {F F' F'' H H' H'' : Hp} {h : AHeap}
theorem EOk.lift {Q : AV → AHeap → Prop} {R : VK} (p : EOk K Cl b cs F H Q R) (x : Stp cs F H cs' F' H') : EOk K Cl b cs' F' H' Q R :=
  fun v d cs2 F2 H2 h2 y S r q => p v d cs2 F2 H2 h2 (x.trans y) S r q
theorem BOk.lift {Q : Bool → AHeap → Prop} {R : Bool → Hp → Prop} (p : BOk K Cl cs F H Q R) (x : Stp cs F H cs' F' H') : BOk K Cl cs' F' H' Q R :=
  fun k cs2 F2 H2 h2 y S q => p k cs2 F2 H2 h2 (x.trans y) S q
theorem NOk.lift {Q : Cell → AHeap → Prop} {R : VK} (p : NOk K Cl cs F H Q R) (x : Stp cs F H cs' F' H') : NOk K Cl cs' F' H' Q R :=
  fun v d cs2 F2 H2 h2 y S r1 r2 r3 r4 q => p v d cs2 F2 H2 h2 (x.trans y) S (x.fresh r1) r2 r3 r4 q
theorem EOk.post {Q : AV → AHeap → Prop} {R : VK} (p : EOk K Cl b cs F H Q R) : PostV K Cl cs F H h (fun z => Q z h) R := fun v d F' H' x S r q => p v d cs F' H' h x S (.inl r) q
/-- what stands behind a lock -/
def Lk (R : VK) : VK := fun v H => R v H ∨ ∃ d u, H d = some u ∧ Mut (some u) ∧ ∀ od, R v (upd H d (.frz od u))
theorem we_lock {x : Expr} {σ : L2.St} {R : VK} (w : WE X x σ H (Lk R)) : WE X x σ H R := fun pins s I => by
  refine thn (w pins s I) fun v s1 ⟨x, H1, I1, r, q⟩ => ?_
  rcases q with q | ⟨d, u, e, mu, q⟩
  · exact ⟨x, H1, I1, r, q⟩
  · obtain ⟨od, I2⟩ := I1.lock e mu
    exact ⟨x, _, I2, r, q od⟩
theorem NOk.fz {Q : AV → AHeap → Prop} {R : VK} (p : EOk K Cl b cs F H Q R) : NOk K Cl cs F H (fun c h1 => match c with
    | .lst xs => Q (.lst xs) h1
    | .dct xs => Q (.dct xs) h1
    | _ => False) (Lk R) := fun a c cs' F' H' h' x S n1 n2 n3 r q => by
  cases c with
  | lst xs =>
    obtain ⟨vs, e, r⟩ := r
    have x2 : Stp cs F H cs' (upd F' a (.lst vs)) H' := by
      refine ⟨x.f.trans (Ex.new n2), x.c, x.k, x.d, fun b q1 q2 => ?_, x.m⟩
      by_cases hb : b = a
      · subst hb; exact n1
      · rw [upd_ne hb] at q2; exact x.n b q1 q2
    exact .inl (p _ (.lst xs) _ _ _ _ x2 (S.freeze n2 n3 e) (.inl (.lst upd_same (r.mono (Ex.new n2) ⟨[], by simp⟩))) q)
  | dct xs =>
    obtain ⟨vs, e, r⟩ := r
    refine .inr ⟨a, .dK vs, e, trivial, fun od => ?_⟩
    have S1 : StOk K Cl cs' F' (upd H' a (.frz od (.dK vs))) h' := S.chgN n2 n3
    have x2 : Stp cs F H cs' (upd F' a (.frz od (.dK vs))) (upd H' a (.frz od (.dK vs))) := by
      refine ⟨x.f.trans (Ex.new n2), x.c, fun b u q1 q2 => ?_, fun b q => ?_, fun b q1 q2 => ?_, x.m⟩
      · rw [upd_ne (fun z => by subst z; rw [n1] at q1; cases q1)]
        exact x.k b u q1 q2
      · by_cases hb : b = a
        · subst hb; rw [upd_same]; simp
        · rw [upd_ne hb]; exact x.d b q
      · by_cases hb : b = a
        · subst hb; exact n1
        · rw [upd_ne hb] at q2; exact x.n b q1 q2
    exact p _ (.dct xs) _ _ _ _ x2 (S1.freeze n2 n3 upd_same) (.inl (.dct upd_same (r.mono (Ex.new n2) ⟨[], by simp⟩))) q
  | dctN xs => exact q.elim
  | obj c fs => exact q.elim
  | dead => exact q.elim
theorem NOk.fzL {Q : AV → AHeap → Prop} {R : VK} (p : EOk K Cl b cs F H Q R) : NOk K Cl cs F H (fun c h1 => match c with
    | .lst xs => Q (.lst xs) h1
    | _ => False) R := fun a c cs' F' H' h' x S n1 n2 n3 r q => by
  cases c with
  | lst xs =>
    obtain ⟨vs, e, r⟩ := r
    have x2 : Stp cs F H cs' (upd F' a (.lst vs)) H' := by
      refine ⟨x.f.trans (Ex.new n2), x.c, x.k, x.d, fun b q1 q2 => ?_, x.m⟩
      by_cases hb : b = a
      · subst hb; exact n1
      · rw [upd_ne hb] at q2; exact x.n b q1 q2
    exact p _ (.lst xs) _ _ _ _ x2 (S.freeze n2 n3 e) (.inl (.lst upd_same (r.mono (Ex.new n2) ⟨[], by simp⟩))) q
  | dct xs => exact q.elim
  | dctN xs => exact q.elim
  | obj c fs => exact q.elim
  | dead => exact q.elim
theorem NOk.new {Q : AV → AHeap → Prop} {R : VK} (p : EOk K Cl b cs F H Q R) : NOk K Cl cs F H (fun c h1 => Q (.adr h1.length) (h1 ++ [c])) R := fun a c cs' F' H' h' x S n1 n2 n3 r q => by
  have x2 : Stp cs F H (cs' ++ [a]) F' H' := by
    refine ⟨x.f, ?_, x.k, x.d, x.n, fun b q1 q2 => ?_⟩
    · obtain ⟨r, e⟩ := x.c
      exact ⟨r ++ [a], by rw [e, List.append_assoc]⟩
    · rw [List.mem_append] at q1
      rcases q1 with q1 | q1
      · exact x.m b q1 q2
      · simp at q1; subst q1; exact n1
  refine p _ (.adr h'.length) _ _ _ _ x2 (S.cellNew n2 n3 (r.mono (fun _ _ z => z) ⟨[a], rfl⟩ fun _ z => z)) (.inl (.adr ?_)) q
  rw [← S.len]
  simp

/-! ### expressions -/
theorem s_var {i : Nat} {x : Expr} (hag : agVar X.env.scope X.N i x = true) : SE C Cl X b (.var i) x := fun ρ h Q σ cs F H R S V w p => by
  unfold agVar at hag
  split at hag
  · rename_i id pos
    simp only [Bool.and_eq_true, decide_eq_true_eq] at hag
    obtain ⟨⟨h1, h2⟩, h3⟩ := hag
    obtain ⟨n1, n2, _⟩ := plainName_ok h3
    simp only [WpE] at w
    split at w
    · rename_i d hd
      obtain ⟨v, e, r⟩ := V.val i d hd
      exact we_of (pe_var h1 (visB_ok h2) n1 n2) ⟨v, e, p _ _ _ _ _ _ .refl S (.inl r) w⟩
    · exact w.elim
  · cases hag
theorem own_rep {i : Nat} {σ : L2.St} {ρ : Env} {c : Cell} (V : EnvOk K Cl cs F H σ ρ) (e : getS ρ i = .own c) : ∃ v, σ[i]? = some (some v) ∧ ∀ d, (∃ xs, c = .lst xs ∧ d = .lst xs) ∨ (∃ xs, c = .dct xs ∧ d = .dct xs) → RepB K cs F H true v d := by
  obtain ⟨a, h1, h2, h3, h4⟩ := V.own i c e
  refine ⟨_, h1, fun d q => ?_⟩
  rcases q with ⟨xs, rfl, rfl⟩ | ⟨xs, rfl, rfl⟩
  · obtain ⟨vs, q1, q2⟩ := h4
    exact .inr ⟨rfl, a, rfl, h2, h3, .inl ⟨vs, xs, rfl, q1, q2⟩⟩
  · obtain ⟨vs, q1, q2⟩ := h4
    exact .inr ⟨rfl, a, rfl, h2, h3, .inr ⟨vs, xs, rfl, q1, q2⟩⟩
theorem s_vw {i : Nat} {x : Expr} (hag : agVar X.env.scope X.N i x = true) : SE C Cl X b (.vw i) x := fun ρ h Q σ cs F H R S V w p => by
  unfold agVar at hag
  split at hag
  · rename_i id pos
    simp only [Bool.and_eq_true, decide_eq_true_eq] at hag
    obtain ⟨⟨h1, h2⟩, h3⟩ := hag
    obtain ⟨n1, n2, _⟩ := plainName_ok h3
    cases b with
    | false => simp only [WpE] at w
    | true =>
      simp only [WpE] at w
      split at w
      · rename_i xs hd
        obtain ⟨v, e, r⟩ := own_rep V hd
        exact we_of (pe_var h1 (visB_ok h2) n1 n2) ⟨v, e, p _ _ _ _ _ _ .refl S (r _ (.inl ⟨xs, rfl, rfl⟩)) w⟩
      · rename_i xs hd
        obtain ⟨v, e, r⟩ := own_rep V hd
        exact we_of (pe_var h1 (visB_ok h2) n1 n2) ⟨v, e, p _ _ _ _ _ _ .refl S (r _ (.inr ⟨xs, rfl, rfl⟩)) w⟩
      · exact w.elim
  · cases hag
theorem s_glob {g : Nat} {id : Str} {pos : Pos} (O : XOk C T Cl X) (h0 : id = T.gname g) (h1 : glB X.env.scope id = true) (h2 : plainName id = true) : SE C Cl X b (.glob g) (.Name id pos) := fun ρ h Q σ cs F H R S V w p => by
  simp only [WpE] at w
  split at w
  · rename_i d hd
    obtain ⟨u, v, e1, e2, r⟩ := O.glob g d hd
    rw [← h0] at e1
    exact we_of (pe_glob (glB_ok h1) e1 e2 (plainName_ok h2).1) (p _ _ _ _ _ _ .refl S (.inl (r _ _)) w)
  · exact w.elim
theorem s_bin {op : Operator} {a c : E} {l r : Expr} {pos : Pos} (ha : SE C Cl X false a l) (hc : SE C Cl X false c r) : SE C Cl X b (.bin op a c) (.BinOp l op r pos) := fun ρ h Q σ cs F H R S V w p => by
  simp only [WpE] at w
  refine we_of (pe_op opw_ok pe_we pe_we) (ha _ _ _ _ _ _ _ _ S V w fun v1 d1 cs1 F1 H1 h1 x1 S1 r1 q1 => ?_)
  refine hc _ _ _ _ _ _ _ _ S1 (V.step x1) q1 fun v2 d2 cs2 F2 H2 h2 x2 S2 r2 q2 => ?_
  exact binK_ok S2 (r1.step x2) r2 q2 ((p.lift (x1.trans x2)).post)
theorem un_w {f : Value → Sem Value} : UnR X f (fun x H Q => ∀ (pins : List (Addr × Obj)) (s : Shared) (σ : L2.St) (v : Value), Inv X pins σ H s → RelV x v → wpAny (model X.prog X.w) X.A (f v) (EP X pins σ Q) X.xe s) :=
  fun pins s σ H x v Q I rx h => h pins s σ v I rx
theorem s_neg {a : E} {l : Expr} {pos : Pos} (ha : SE C Cl X false a l) : SE C Cl X b (.neg a) (.UnaryOp .USub l pos) := fun ρ h Q σ cs F H R S V w p => by
  simp only [WpE] at w
  refine we_of (pe_un un_neg pe_we) (ha _ _ _ _ _ _ _ _ S V w fun v1 d1 cs1 F1 H1 h1 x1 S1 r1 q1 => ?_)
  unfold negK at q1
  split at q1
  · cases r1.int
    exact ⟨_, rfl, (p.lift x1).post.int S1 q1⟩
  · exact q1.elim
theorem s_cmp {op : CmpOp} {a c : E} {l r : Expr} {pos : Pos} (O : XOk C T Cl X) (ha : SE C Cl X true a l) (hc : SE C Cl X true c r) (hm : behindInMarks op r = false) : SE C Cl X b (.cmp op a c) (.Compare l [op] [r] pos) := fun ρ h Q σ cs F H R S V w p => by
  simp only [WpE] at w
  refine we_of (pe_cmpR opw_ok pe_we pe_we hm) (ha _ _ _ _ _ _ _ _ S V w fun v1 d1 cs1 F1 H1 h1 x1 S1 r1 q1 => ?_)
  refine hc _ _ _ _ _ _ _ _ S1 (V.step x1) q1 fun v2 d2 cs2 F2 H2 h2 x2 S2 r2 q2 => ?_
  exact cmpK_ok (by have := O.units; omega) S2 (r1.step x2) r2 q2 ((p.lift (x1.trans x2)).post)
theorem s_cmpT {op : CmpOp} {a c : E} {l r : Expr} {pos : Pos} (O : XOk C T Cl X) (ha : SE C Cl X true a l) (hc : SE C Cl X true c r) (hm : behindInMarks op r = false) : ST C Cl X (.cmp op a c) (.Compare l [op] [r] pos) := fun ρ h Q σ cs F H R S V w p => by
  simp only [WpT] at w
  refine wt_of (pt_cmpR opw_ok pe_we pe_we hm) (ha _ _ _ _ _ _ _ _ S V w fun v1 d1 cs1 F1 H1 h1 x1 S1 r1 q1 => ?_)
  refine hc _ _ _ _ _ _ _ _ S1 (V.step x1) q1 fun v2 d2 cs2 F2 H2 h2 x2 S2 r2 q2 => ?_
  refine cmpK_ok (by have := O.units; omega) S2 (r1.step x2) r2 q2 fun v d F' H' y S3 rv qv => ?_
  split at qv
  · cases rv
    exact ⟨_, rfl, p _ _ _ _ _ ((x1.trans x2).trans y) S3 qv⟩
  · exact qv.elim
theorem s_chain {o1 o2 : CmpOp} {a c e : E} {l r1 r2 : Expr} {pos : Pos} (O : XOk C T Cl X) (ha : SE C Cl X false a l) (hc : SE C Cl X false c r1) (he : SE C Cl X false e r2) (hm : lastMarks [o1, o2] [r1, r2] = false) :
    SE C Cl X b (.chain o1 o2 a c e) (.Compare l [o1, o2] [r1, r2] pos) := fun ρ h Q σ cs F H R S V w p => by
  simp only [WpE] at w
  refine we_of (pe_chain opw_ok opw_ok pe_we pe_we pe_we hm) (ha _ _ _ _ _ _ _ _ S V w fun v1 d1 cs1 F1 H1 h1 x1 S1 r1 q1 => ?_)
  refine hc _ _ _ _ _ _ _ _ S1 (V.step x1) q1 fun v2 d2 cs2 F2 H2 h2 x2 S2 r2 q2 => ?_
  refine cmpK_ok (by have := O.units; omega) S2 (r1.step x2) r2 q2 fun v d F' H' y S3 rv qv => ?_
  split at qv
  · cases rv
    refine ⟨true, rfl, ?_⟩
    rw [if_pos rfl]
    refine he _ _ _ _ _ _ _ _ S3 (V.step ((x1.trans x2).trans y)) qv fun v3 d3 cs3 F3 H3 h3 x3 S4 r3 q3 => ?_
    exact cmpK_ok (by have := O.units; omega) S4 ((r2.step y).step x3) r3 q3 ((p.lift (((x1.trans x2).trans y).trans x3)).post)
  · cases rv
    refine ⟨false, rfl, ?_⟩
    rw [if_neg Bool.false_ne_true]
    exact p _ _ _ _ _ _ ((x1.trans x2).trans y) S3 (.inl (.bl false)) qv
  · exact qv.elim
theorem s_chainT {o1 o2 : CmpOp} {a c e : E} {l r1 r2 : Expr} {pos : Pos} (O : XOk C T Cl X) (ha : SE C Cl X false a l) (hc : SE C Cl X false c r1) (he : SE C Cl X false e r2) (hm : lastMarks [o1, o2] [r1, r2] = false) :
    ST C Cl X (.chain o1 o2 a c e) (.Compare l [o1, o2] [r1, r2] pos) := fun ρ h Q σ cs F H R S V w p => by
  simp only [WpT] at w
  refine wt_of (pt_chain opw_ok opw_ok pe_we pe_we pe_we hm) (ha _ _ _ _ _ _ _ _ S V w fun v1 d1 cs1 F1 H1 h1 x1 S1 r1 q1 => ?_)
  refine hc _ _ _ _ _ _ _ _ S1 (V.step x1) q1 fun v2 d2 cs2 F2 H2 h2 x2 S2 r2 q2 => ?_
  refine cmpK_ok (by have := O.units; omega) S2 (r1.step x2) r2 q2 fun v d F' H' y S3 rv qv => ?_
  split at qv
  · cases rv
    refine ⟨true, rfl, ?_⟩
    rw [if_pos rfl]
    refine he _ _ _ _ _ _ _ _ S3 (V.step ((x1.trans x2).trans y)) qv fun v3 d3 cs3 F3 H3 h3 x3 S4 r3 q3 => ?_
    refine cmpK_ok (by have := O.units; omega) S4 ((r2.step y).step x3) r3 q3 fun v d F' H' y' S5 rv' qv' => ?_
    split at qv'
    · cases rv'
      exact ⟨_, rfl, p _ _ _ _ _ ((((x1.trans x2).trans y).trans x3).trans y') S5 qv'⟩
    · exact qv'.elim
  · cases rv
    refine ⟨false, rfl, ?_⟩
    rw [if_neg Bool.false_ne_true]
    exact ⟨false, rfl, p _ _ _ _ _ ((x1.trans x2).trans y) S3 qv⟩
  · exact qv.elim
theorem s_not {a : E} {l : Expr} {pos : Pos} (ha : SE C Cl X false a l) : SE C Cl X b (.not a) (.UnaryOp .Not l pos) := fun ρ h Q σ cs F H R S V w p => by
  simp only [WpE] at w
  refine we_of (pe_not pe_we) (ha _ _ _ _ _ _ _ _ S V w fun v1 d1 cs1 F1 H1 h1 x1 S1 r1 q1 => ?_)
  split at q1
  · cases r1.bl
    exact ⟨_, rfl, (p.lift x1).post.bl S1 q1⟩
  · exact q1.elim
theorem s_notT {a : E} {l : Expr} {pos : Pos} (ha : ST C Cl X a l) : ST C Cl X (.not a) (.UnaryOp .Not l pos) := fun ρ h Q σ cs F H R S V w p => by
  simp only [WpT] at w
  exact wt_of (pt_not pt_we) (ha _ _ _ _ _ _ _ _ S V w fun k cs1 F1 H1 h1 x1 S1 q1 => p _ _ _ _ _ x1 S1 q1)
theorem pe_two {op : BoolOp} {y z : Expr} {rest : List Expr} {pos : Pos} {tz : TE} (hz : PE X (tail2 op z pos rest) tz) : PE X (.BoolOp op (z :: rest) pos) tz := by
  cases rest with
  | nil => exact pe_one hz
  | cons w r => exact hz
theorem s_and {a c : E} {y z : Expr} {rest : List Expr} {pos : Pos} (ha : SE C Cl X false a y) (hc : SE C Cl X false c (tail2 .And z pos rest)) : SE C Cl X b (.and a c) (.BoolOp .And (y :: z :: rest) pos) := fun ρ h Q σ cs F H R S V w p => by
  simp only [WpE] at w
  refine we_of (pe_and pe_we (pe_two (y := y) pe_we)) (ha _ _ _ _ _ _ _ _ S V w fun v1 d1 cs1 F1 H1 h1 x1 S1 r1 q1 => ?_)
  split at q1
  · cases r1.bl
    refine ⟨true, rfl, ?_⟩
    rw [if_pos rfl]
    exact hc _ _ _ _ _ _ _ _ S1 (V.step x1) q1 fun v2 d2 cs2 F2 H2 h2 x2 S2 r2 q2 => p _ _ _ _ _ _ (x1.trans x2) S2 (.inl r2.plain) q2
  · cases r1.bl
    refine ⟨false, rfl, ?_⟩
    rw [if_neg Bool.false_ne_true]
    exact p _ _ _ _ _ _ x1 S1 (.inl (.bl false)) q1
  · exact q1.elim
theorem s_or {a c : E} {y z : Expr} {rest : List Expr} {pos : Pos} (ha : SE C Cl X false a y) (hc : SE C Cl X false c (tail2 .Or z pos rest)) : SE C Cl X b (.or a c) (.BoolOp .Or (y :: z :: rest) pos) := fun ρ h Q σ cs F H R S V w p => by
  simp only [WpE] at w
  refine we_of (pe_or pe_we (pe_two (y := y) pe_we)) (ha _ _ _ _ _ _ _ _ S V w fun v1 d1 cs1 F1 H1 h1 x1 S1 r1 q1 => ?_)
  split at q1
  · cases r1.bl
    refine ⟨false, rfl, ?_⟩
    rw [if_neg Bool.false_ne_true]
    exact hc _ _ _ _ _ _ _ _ S1 (V.step x1) q1 fun v2 d2 cs2 F2 H2 h2 x2 S2 r2 q2 => p _ _ _ _ _ _ (x1.trans x2) S2 (.inl r2.plain) q2
  · cases r1.bl
    refine ⟨true, rfl, ?_⟩
    rw [if_pos rfl]
    exact p _ _ _ _ _ _ x1 S1 (.inl (.bl true)) q1
  · exact q1.elim
/-- a conjunction's or disjunction's test asks its whole for nothing -/
theorem pw_of {op : BoolOp} {es : List Expr} {pos : Pos} {t : TT} (h : PT X (.BoolOp op es pos) t) : PW X (.BoolOp op es pos) t := ⟨fun whole pins s σ H Q I hw => by
  have := h.run pins s σ H Q I hw
  exact this⟩
theorem s_andT {a c : E} {y z : Expr} {rest : List Expr} {pos : Pos} (ha : ST C Cl X a y) (hc : ST C Cl X c (tail2 .And z pos rest)) : ST C Cl X (.and a c) (.BoolOp .And (y :: z :: rest) pos) := fun ρ h Q σ cs F H R S V w p => by
  simp only [WpT] at w
  have hz : PW X (.BoolOp .And (z :: rest) pos) (WT X (tail2 .And z pos rest)) := by
    cases rest with
    | nil => exact pw_and1 pt_we
    | cons w r => exact pw_of pt_we
  refine wt_of (pw_and pt_we hz).pt (ha _ _ _ _ _ _ _ _ S V w fun k cs1 F1 H1 h1 x1 S1 q1 => ?_)
  cases k with
  | true =>
    rw [if_pos rfl] at q1 ⊢
    exact hc _ _ _ _ _ _ _ _ S1 (V.step x1) q1 (p.lift x1)
  | false =>
    rw [if_neg Bool.false_ne_true] at q1 ⊢
    exact p _ _ _ _ _ x1 S1 q1
theorem s_orT {a c : E} {y z : Expr} {rest : List Expr} {pos : Pos} (ha : ST C Cl X a y) (hc : ST C Cl X c (tail2 .Or z pos rest)) : ST C Cl X (.or a c) (.BoolOp .Or (y :: z :: rest) pos) := fun ρ h Q σ cs F H R S V w p => by
  simp only [WpT] at w
  have hz : PW X (.BoolOp .Or (z :: rest) pos) (WT X (tail2 .Or z pos rest)) := by
    cases rest with
    | nil => exact pw_or1 pt_we
    | cons w r => exact pw_of pt_we
  refine wt_of (pw_or pt_we hz).pt (ha _ _ _ _ _ _ _ _ S V w fun k cs1 F1 H1 h1 x1 S1 q1 => ?_)
  cases k with
  | false =>
    rw [if_neg Bool.false_ne_true] at q1 ⊢
    exact hc _ _ _ _ _ _ _ _ S1 (V.step x1) q1 (p.lift x1)
  | true =>
    rw [if_pos rfl] at q1 ⊢
    exact p _ _ _ _ _ x1 S1 q1
theorem s_truT {a : E} {l : Expr} (ha : SE C Cl X false a l) (hl : plainT l = true) : ST C Cl X (.tru a) l := fun ρ h Q σ cs F H R S V w p => by
  simp only [WpT] at w
  refine wt_of (pt_truth pe_we (plainT_ok hl _)) (ha _ _ _ _ _ _ _ _ S V w fun v1 d1 cs1 F1 H1 h1 x1 S1 r1 q1 => ?_)
  obtain ⟨k, e1, e2⟩ := truK_ok S1 r1 q1
  exact ⟨k, e1, p _ _ _ _ _ x1 S1 e2⟩
theorem s_ite {c a d : E} {t l r : Expr} {pos : Pos} (hc : ST C Cl X c t) (ha : SE C Cl X false a l) (hd : SE C Cl X false d r) : SE C Cl X b (.ite c a d) (.IfExp t l r pos) := fun ρ h Q σ cs F H R S V w p => by
  simp only [WpE] at w
  refine we_of (pe_ifExp pt_we pe_we pe_we) (hc _ _ _ _ _ _ _ _ S V w fun k cs1 F1 H1 h1 x1 S1 q1 => ?_)
  cases k with
  | true =>
    rw [if_pos rfl] at q1 ⊢
    exact ha _ _ _ _ _ _ _ _ S1 (V.step x1) q1 fun v2 d2 cs2 F2 H2 h2 x2 S2 r2 q2 => p _ _ _ _ _ _ (x1.trans x2) S2 (.inl r2.plain) q2
  | false =>
    rw [if_neg Bool.false_ne_true] at q1 ⊢
    exact hd _ _ _ _ _ _ _ _ S1 (V.step x1) q1 fun v2 d2 cs2 F2 H2 h2 x2 S2 r2 q2 => p _ _ _ _ _ _ (x1.trans x2) S2 (.inl r2.plain) q2
theorem s_tup {es : Es} {xs : List Expr} {k : Nat} {pos : Pos} (ha : SA C Cl X es xs) : SE C Cl X b (.tup es) (.Tuple xs k pos) := fun ρ h Q σ cs F H R S V w p => by
  simp only [WpE] at w
  refine we_of (pe_tup pa_we) (ha _ _ _ _ _ _ _ _ S V w fun vs ds cs1 F1 H1 h1 x1 S1 rs q1 => ?_)
  have rs := rs.plain
  exact ⟨by rw [rs.length]; exact q1.1, (p.lift x1).post.newT S1 rs q1.2⟩
theorem s_fz {n : Nw} {x : Expr} (hn : SN C Cl X n x) : SE C Cl X b (.fz n) x := fun ρ h Q σ cs F H R S V w p => by
  simp only [WpE] at w
  exact we_lock (hn _ _ _ _ _ _ _ _ S V w (NOk.fz p))
theorem s_new {n : Nw} {x : Expr} (hn : SN C Cl X n x) : SE C Cl X b (.new n) x := fun ρ h Q σ cs F H R S V w p => by
  simp only [WpE] at w
  exact hn _ _ _ _ _ _ _ _ S V w (NOk.new p)
theorem s_sub {a i : E} {l r : Expr} {pos : Pos} (O : XOk C T Cl X) (ha : SE C Cl X true a l) (hi : SE C Cl X false i r) (hs : notSlice r = true) : SE C Cl X b (.sub a i) (.Subscript l r pos) := fun ρ h Q σ cs F H R S V w p => by
  simp only [WpE] at w
  refine we_of (pe_ix ixw_ok pe_we pe_we (plainIx_of hs)) (ha _ _ _ _ _ _ _ _ S V w fun v1 d1 cs1 F1 H1 h1 x1 S1 r1 q1 => ?_)
  refine hi _ _ _ _ _ _ _ _ S1 (V.step x1) q1 fun v2 d2 cs2 F2 H2 h2 x2 S2 r2 q2 => ?_
  exact subK_ok (by have := O.units; omega) S2 (r1.step x2) r2 q2 ((p.lift (x1.trans x2)).post)
theorem s_so {e : E} {x : Expr} (he : SE C Cl X false e x) : SO C Cl X (.so e) (some x) := fun ρ h Q σ cs F H R S V w p => by
  simp only [WpO] at w
  refine wo_of (po_some pe_we) (he _ _ _ _ _ _ _ _ S V w fun v1 d1 cs1 F1 H1 h1 x1 S1 r1 q1 => ?_)
  split at q1
  · cases r1.int
    exact ⟨_, rfl, p _ _ _ _ _ x1 S1 q1⟩
  · exact q1.elim
theorem s_no : SO C Cl X .no none := fun ρ h Q σ cs F H R S V w p => by
  simp only [WpO] at w
  exact wo_of po_none (p _ _ _ _ _ .refl S w)
theorem OOk.lift {Q : Option Int → AHeap → Prop} {R : Option Int → Hp → Prop} (p : OOk K Cl cs F H Q R) (x : Stp cs F H cs' F' H') : OOk K Cl cs' F' H' Q R :=
  fun k cs2 F2 H2 h2 y S q => p k cs2 F2 H2 h2 (x.trans y) S q
theorem AOk.lift {Q : List AV → AHeap → Prop} {R : List V → Hp → Prop} (p : AOk K Cl b cs F H Q R) (x : Stp cs F H cs' F' H') : AOk K Cl b cs' F' H' Q R :=
  fun v d cs2 F2 H2 h2 y S r q => p v d cs2 F2 H2 h2 (x.trans y) S r q
theorem s_slice {a : E} {lo hi : Oe} {l : Expr} {u v : Option Expr} {p2 pos : Pos} (ha : SE C Cl X false a l) (hl : SO C Cl X lo u) (hh : SO C Cl X hi v) : SE C Cl X b (.slice a lo hi) (.Subscript l (.Slice u v none p2) pos) := fun ρ h Q σ cs F H R S V w p => by
  simp only [WpE] at w
  refine we_of (pe_slice slw_ok pe_we po_we po_we) (ha _ _ _ _ _ _ _ _ S V w fun v1 d1 cs1 F1 H1 h1 x1 S1 r1 q1 => ?_)
  refine hl _ _ _ _ _ _ _ _ S1 (V.step x1) q1 fun k2 cs2 F2 H2 h2 x2 S2 q2 => ?_
  refine hh _ _ _ _ _ _ _ _ S2 ((V.step x1).step x2) q2 fun k3 cs3 F3 H3 h3 x3 S3 q3 => ?_
  exact sliceK_ok S3 ((r1.step x2).step x3) q3 ((p.lift ((x1.trans x2).trans x3)).post)
theorem s_nil : SA C Cl X .nil [] := fun ρ h Q σ cs F H R S V w p => by
  simp only [WpEs] at w
  exact wa_of pa_nil (p _ _ _ _ _ _ .refl S .nil w)
theorem s_cons {e : E} {es : Es} {x : Expr} {xs : List Expr} (he : SE C Cl X false e x) (hs : SA C Cl X es xs) (hx : notStar x = true) : SA C Cl X (.cons e es) (x :: xs) := fun ρ h Q σ cs F H R S V w p => by
  simp only [WpEs] at w
  refine wa_of (pa_cons pe_we pa_we (star_cons hx _ _)) (he _ _ _ _ _ _ _ _ S V w fun v1 d1 cs1 F1 H1 h1 x1 S1 r1 q1 => ?_)
  refine hs _ _ _ _ _ _ _ _ S1 (V.step x1) q1 fun v2 d2 cs2 F2 H2 h2 x2 S2 r2 q2 => ?_
  exact p _ _ _ _ _ _ (x1.trans x2) S2 (.cons (r1.step x2) r2) q2
theorem s_nilB : SB C Cl X .nil [] := fun ρ h Q σ cs F H R S V w p => by
  simp only [WpBs] at w
  exact wa_of pa_nil (p _ _ _ _ _ _ .refl S .nil w)
theorem s_consB {e : E} {es : Es} {x : Expr} {xs : List Expr} (he : SE C Cl X true e x) (hs : SB C Cl X es xs) (hx : notStar x = true) : SB C Cl X (.cons e es) (x :: xs) := fun ρ h Q σ cs F H R S V w p => by
  simp only [WpBs] at w
  refine wa_of (pa_cons pe_we pa_we (star_cons hx _ _)) (he _ _ _ _ _ _ _ _ S V w fun v1 d1 cs1 F1 H1 h1 x1 S1 r1 q1 => ?_)
  refine hs _ _ _ _ _ _ _ _ S1 (V.step x1) q1 fun v2 d2 cs2 F2 H2 h2 x2 S2 r2 q2 => ?_
  exact p _ _ _ _ _ _ (x1.trans x2) S2 (.cons (r1.step x2) r2) q2
theorem s_call {f : Nat} {es : Es} {id : Str} {p1 pos : Pos} {xs : List Expr} (O : XOk C T Cl X) (h0 : T.fname f = some id) (h1 : glB X.env.scope id = true) (h2 : plainName id = true) (hx : xs.all notStar = true) (hn : xs = [] → es = .nil) (ha : SA C Cl X es xs) :
    SE C Cl X b (.call f es) (.Call (.Name id p1) xs [] pos) := fun ρ h Q σ cs F H R S V w p => by
  simp only [WpE] at w
  obtain ⟨k, a, fd, ps, G, hr, hm, hk, hb⟩ := O.fn f id h0
  have key : WA X xs σ H fun vs H1 => spOf X.K Cl C f vs H1 R E0 := by
    refine ha _ _ _ _ _ _ _ _ S V w fun vs ds cs1 F1 H1 h1 x1 S1 rs q1 => ?_
    exact ⟨cs1, F1, h1, ds, Q, S1, rs.plain, q1, fun v d cs' F' H' h' y S' r q => p _ _ _ _ _ _ (x1.trans y) S' (.inl r) q⟩
  cases xs with
  | nil =>
    refine we_of (G.call0 O.gd hr (glB_ok h1) hm hk hb (plainName_ok h2).1) ?_
    show spOf X.K Cl C f [] H R E0
    cases es with
    | nil =>
      simp only [WpEs] at w
      exact ⟨cs, F, h, [], Q, S, .nil, w, fun v d cs' F' H' h' y S' r q => p _ _ _ _ _ _ y S' (.inl r) q⟩
    | cons e es => cases hn rfl
  | cons x xs =>
    rw [List.all_cons, Bool.and_eq_true] at hx
    exact we_of (G.call O.gd hr (glB_ok h1) hm hk hb pa_we (plainName_ok h2).1 (star_cons hx.1 _ _) (star_all hx.2 _ _)) key
theorem s_blt {bt : Blt} {es : Es} {id : Str} {p1 pos : Pos} {y : Expr} {xs : List Expr} (O : XOk C T Cl X) (h0 : id = bName bt) (h1 : glB X.env.scope id = true) (hx : (y :: xs).all notStar = true) (ha : SB C Cl X es (y :: xs)) :
    SE C Cl X b (.blt bt es) (.Call (.Name id p1) (y :: xs) [] pos) := fun ρ h Q σ cs F H R S V w p => by
  simp only [WpE] at w
  subst h0
  rw [List.all_cons, Bool.and_eq_true] at hx
  have hm := O.blt _ (bName_mem bt)
  obtain ⟨n1, n2, n3⟩ := plainName_ok (bName_plain bt)
  have hv := bName_boot bt
  have key : WA X (y :: xs) σ H fun vs H1 => CallW X (bVal bt) vs H1 R := by
    refine ha _ _ _ _ _ _ _ _ S V w fun vs ds cs1 F1 H1 h1 x1 S1 rs q1 => ?_
    exact bltK_ok O.calm O.gd (by have := O.units; omega) S1 rs q1 ((p.lift x1).post)
  have hg : Gl X (bName bt) := glB_ok h1
  revert hm hv key hg n1 n3
  generalize bName bt = nm
  generalize hbv : bVal bt = bv
  intro hm n1 n3 hv key hg
  cases bt <;> cases hbv <;> first
    | exact we_of (pe_callB callw_ok hg hm hv pa_we n3 n1 (star_cons hx.1 _ _) (star_all hx.2 _ _)) key
    | exact we_of (pe_callTy callw_ok hg hm hv pa_we n3 n1 (star_cons hx.1 _ _) (star_all hx.2 _ _)) key
end
end VL

set_option maxRecDepth 100000
set_option maxHeartbeats 1000000
/-! zip over a list or a tuple each, in any mix -/
namespace VL
open PySem PySem.Spec PyProof.Rows L2
/-- b: a tuple; else a list -/
def SqB (K : PySem.W.Frag) (b : Bool) (H : Hp) (a : Addr) (xs : List V) : Prop := match b with
  | true => SqT K H a xs
  | false => SqL K H a xs
def HasB (h : Heap) (b : Bool) (a : Addr) (us : Array Value) : Prop := match b with
  | true => h.IsTuple a us
  | false => h.IsList a us
def AtB (h : Heap) (b : Bool) (it a : Addr) (i : Nat) : Prop := match b with
  | true => h.IsTupleIter it a i
  | false => h.IsListIter it a i
def itB (b : Bool) (a : Addr) : Obj := match b with
  | true => { cls := .type "tuple_iterator", data := .fields #[.ref a, .int 0 0] }
  | false => { cls := .type "list_iterator", data := .fields #[.ref a, .int 0 0] }
theorem begB (b : Bool) (a : Addr) (us : Array Value) : Begins (.ref a) (itB b a) fun h => HasB h b a us := by
  cases b
  · exact begins_list a us
  · exact begins_tuple a us
theorem drB {prog : Program} {w : World} {A : Around} (b : Bool) (hh : A.handled = none) (it a : Addr) (hne : a ≠ it) (us : Array Value) : Draws prog w A it [it, a] us.size (fun i v => us[i]? = some v) (fun i h => AtB h b it a i ∧ HasB h b a us) := by
  cases b
  · exact Draws.list hh it a hne us
  · exact Draws.tuple hh it a hne us
theorem AtB.new {h : Heap} {b : Bool} {it a : Addr} (e : h.get? it = some (itB b a)) : AtB h b it a 0 := by
  cases b
  · exact ⟨_, e, rfl, rfl⟩
  · exact ⟨_, e, rfl, rfl⟩
theorem AtB.upto {h h' : Heap} {b : Bool} {it a : Addr} {i : Nat} (x : AtB h b it a i) (k : ∀ o, h.get? it = some o → h'.get? it = some o) : AtB h' b it a i := by
  cases b
  · exact Heap.IsListIter.at x k
  · exact Heap.IsTupleIter.at x k
theorem AtB.obj {h : Heap} {b : Bool} {it a : Addr} {i : Nat} (x : AtB h b it a i) : ∃ o, h.get? it = some o ∧ ∀ v, o.data ≠ .cell v := by
  cases b
  · obtain ⟨o, e, _, d⟩ := x
    exact ⟨o, e, fun v q => by rw [d] at q; cases q⟩
  · obtain ⟨o, e, _, d⟩ := x
    exact ⟨o, e, fun v q => by rw [d] at q; cases q⟩
theorem HasB.lt {h : Heap} {b : Bool} {a : Addr} {us : Array Value} (x : HasB h b a us) : a < h.objs.size := by
  cases b
  · obtain ⟨_, e, _⟩ := x
    exact Heap.lt_size e
  · obtain ⟨_, e, _⟩ := x
    exact Heap.lt_size e
theorem inv_B {X : Cx} {pins} {σ : L2.St} {H : Hp} {s : Shared} (I : Inv X pins σ H s) {b : Bool} {a : Addr} {xs : List V} (q : SqB X.K b H a xs) : ∃ its : List Value, Vals xs its ∧ HasB s.heap b a its.toArray := by
  cases b
  · obtain ⟨its, rv, p, _⟩ := I.list q
    exact ⟨its, rv, p.isList⟩
  · obtain ⟨its, rv, p, _⟩ := I.tuple q
    exact ⟨its, rv, p⟩
/-- what stands at a and b at each turn, the items in new pairs -/
def ItzB (K : PySem.W.Frag) (b1 b2 : Bool) (a b : Addr) : L2.It where
  go := fun i H => ∃ (xs ys : List V) (x y : V), SqB K b1 H a xs ∧ SqB K b2 H b ys ∧ xs[i]? = some x ∧ ys[i]? = some y
  yld := fun i H v H' => ∃ T x y, v = .ref T ∧ H T = none ∧ H' = upd H T (.tup [x, y]) ∧ (∀ xs, SqB K b1 H a xs → xs[i]? = some x) ∧ ∀ ys, SqB K b2 H b ys → ys[i]? = some y
  stop := fun i H => ∃ xs ys : List V, SqB K b1 H a xs ∧ SqB K b2 H b ys ∧ i = min xs.length ys.length
theorem inj_B {X : Cx} {pins} {σ : L2.St} {H : Hp} {s : Shared} (I : Inv X pins σ H s) {b : Bool} {a : Addr} {xs ys : List V} (q : SqB X.K b H a xs) (r : SqB X.K b H a ys) : xs = ys := by
  cases b
  · exact I.list_inj q r
  · exact I.tuple_inj q r
theorem mem5 {α : Type} {c z TI TO i1 i2 : α} {Q : α → Prop} (h : c ∈ [z, TI, TO, i1, i2]) (a1 : Q z) (a2 : Q TI) (a3 : Q TO) (a4 : Q i1) (a5 : Q i2) : Q c := by
  simp only [List.mem_cons, List.not_mem_nil, or_false] at h
  rcases h with rfl | rfl | rfl | rfl | rfl
  · exact a1
  · exact a2
  · exact a3
  · exact a4
  · exact a5
theorem turn_zipB {P : Program} {w : World} {K : PySem.W.Frag} {es : List Expr} {kk : Nat} {tp : Pos} {b1 b2 : Bool} {a b z TI TO i1 i2 : Addr} (S : ZipSep2 z TI TO i1 i2 [i1, a] [i2, b]) (na : a ≠ i1) (nb : b ≠ i2) :
    Turn P w K (.Tuple es kk tp) (ItzB K b1 b2 a b) [z, TI, TO, i1, i2] z (fun i h => IsZip h z TI TO .none ∧ IsTupOf2 h TI (.ref i1) (.ref i2) ∧ (∃ x y, IsTupOf2 h TO x y) ∧ AtB h b1 i1 a i ∧ AtB h b2 i2 b i) where
  mem := by simp
  obj := fun i h st c hc => by
    obtain ⟨hz, hT, ⟨x, y, hO⟩, h1, h2⟩ := st
    exact mem5 (Q := fun c => ∃ o, h.get? c = some o ∧ ∀ v, o.data ≠ .cell v) hc ⟨_, hz, fun v => nofun⟩ ⟨_, hT, fun v => nofun⟩ ⟨_, hO, fun v => nofun⟩ h1.obj h2.obj
  keep := fun i h h' st k => by
    obtain ⟨hz, hT, ⟨x, y, hO⟩, h1, h2⟩ := st
    have kz := k z (by simp); have kT := k TI (by simp); have kO := k TO (by simp)
    exact ⟨kz _ hz, kT _ hT, ⟨x, y, kO _ hO⟩, h1.upto (k i1 (by simp)), h2.upto (k i2 (by simp))⟩
  item := by
    intro X hP hw hK hc i pins s σ H E I hf st hg
    subst hP hw hK
    obtain ⟨hz, hT, ⟨x0, y0, hO⟩, h1, h2⟩ := st
    obtain ⟨xs, ys, x, y, qx, qy, ex, ey⟩ := hg
    obtain ⟨us, ru, pu⟩ := inv_B I qx
    obtain ⟨ws, rw', pw⟩ := inv_B I qy
    obtain ⟨u, hu, rx⟩ := ru.get ex
    obtain ⟨u', hu', ry⟩ := rw'.get ey
    have l1 := (List.getElem?_eq_some_iff.mp hu).1
    have l2 := (List.getElem?_eq_some_iff.mp hu').1
    have zl : z < s.heap.objs.size := Heap.lt_size hz
    have hh : X.A.in1.handled = none := by rw [show X.A.in1.handled = X.A.handled from rfl]; exact I.ok.hd hc
    refine wpAny_pyNext_zipD2_item (i := i) S (drB b1 hh i1 a na us.toArray) (drB b2 hh i2 b nb ws.toArray) hz hT hO ⟨h1, pu⟩ ⟨h2, pw⟩ (by simpa using l1) (by simpa using l2) fun v v' h' tk ev ev' z' O' t1 t2 T' sz ks => ?_
    have ev : v = u := by
      have := ev.symm.trans (show us.toArray[i]? = some u by simpa using hu)
      injection this
    have ev' : v' = u' := by
      have := ev'.symm.trans (show ws.toArray[i]? = some u' by simpa using hu')
      injection this
    subst ev ev'
    refine ⟨_, rfl, wpAny_letOwnedTupleGo_zip (s := { s with heap := h', toks := tk }) z' fun h2' z2 sb => ?_⟩
    have up : ∀ c o, c ≠ z → c ≠ TO → c ≠ i1 → c ≠ i2 → s.heap.get? c = some o → h2'.get? c = some o := fun c o n1 n2 n3 n4 e => (sb.2 c n1).trans (ks c o n1 n2 n3 n4 e)
    have T2 : h2'.get? s.heap.objs.size = some { cls := .type "tuple", data := .seq #[v, v'] } := (sb.2 _ (Nat.ne_of_gt zl)).trans T'
    have ok : ObjOk X.prog X.w (upd H s.heap.objs.size (.tup [x, y])) h2' s.heap.objs.size (.tup [x, y]) := ⟨by show 2 ≤ sizeLine; decide, [v, v'], .cons rx (.cons ry .nil), ⟨_, T2, rfl, _, rfl⟩⟩
    have I2 : Inv X pins σ (upd H s.heap.objs.size (.tup [x, y])) { s with heap := h2', toks := tk } := I.turnedNew (t' := tk) (ch := [z, TI, TO, i1, i2]) (fun c o n e => by
      simp only [List.mem_cons, List.not_mem_nil, or_false, not_or] at n
      exact up c o n.1 n.2.2.1 n.2.2.2.1 n.2.2.2.2 e) hf (Nat.le_refl _) ok
    refine ⟨.ref s.heap.objs.size, _, I2, rfl, ⟨_, x, y, rfl, I.hok.fresh (Nat.le_refl _), rfl, fun l q => by rw [inj_B I q qx]; exact ex, fun l q => by rw [inj_B I q qy]; exact ey⟩, ⟨z2, up _ _ S.TIz S.TITO S.TIi1 S.TIi2 hT, ⟨v, v', (sb.2 _ S.TOz).trans O'⟩, t1.1.upto fun o e => (sb.2 _ S.zi1.symm).trans e, t2.1.upto fun o e => (sb.2 _ S.zi2.symm).trans e⟩, fun c hc => ?_⟩
    have lt : c < s.heap.objs.size := mem5 (Q := fun c => c < s.heap.objs.size) hc zl (Heap.lt_size hT) (Heap.lt_size hO) (by obtain ⟨o, e, _⟩ := h1.obj; exact Heap.lt_size e) (by obtain ⟨o, e, _⟩ := h2.obj; exact Heap.lt_size e)
    rw [upd_ne (Nat.ne_of_lt lt)]
    exact (hf c hc).1
  done := by
    intro X hP hw hK hc i pins s σ H E I hf st hg
    subst hP hw hK
    obtain ⟨hz, hT, ⟨x0, y0, hO⟩, h1, h2⟩ := st
    obtain ⟨xs, ys, qx, qy, ei⟩ := hg
    obtain ⟨us, ru, pu⟩ := inv_B I qx
    obtain ⟨ws, rw', pw⟩ := inv_B I qy
    have l1 := ru.length; have l2 := rw'.length
    have hh : X.A.in1.handled = none := by rw [show X.A.in1.handled = X.A.handled from rfl]; exact I.ok.hd hc
    have s1 : us.toArray.size = us.length := by simp
    have s2 : ws.toArray.size = ws.length := by simp
    refine wpAny_pyNext_zipD2_end (i := i) S (drB b1 hh i1 a na us.toArray) (drB b2 hh i2 b nb ws.toArray) hz hT hO ⟨h1, pu⟩ ⟨h2, pw⟩ (by omega) (by omega) (by omega) fun h' tk ks => ⟨rfl, I.turnedL (t' := tk) (ch := [z, TI, TO, i1, i2]) (fun c o n e => ?_) hf⟩
    simp only [List.mem_cons, List.not_mem_nil, or_false, not_or] at n
    exact ks c o n.1 n.2.2.1 n.2.2.2.1 n.2.2.2.2 e
  self := fun A i s Q E st h => wpAny_pyIter_zip st.1 h
def iZipB (K : PySem.W.Frag) (ta : TA) : TI := fun σ H R => ta σ H fun vs H1 => ∃ a b k1 k2 xs ys, vs = [.ref a, .ref b] ∧ SqB K k1 H1 a xs ∧ SqB K k2 H1 b ys ∧ R (ItzB K k1 k2 a b) H1
theorem pi_zipB {X : Cx} {e e2 : Expr} {ta : TA} {p pos tp : Pos} {es : List Expr} {kk : Nat} (hg : Gl X "zip") (hm : X.mg "zip" = none) (ha : PA X [e, e2] ta)
    (hs : starEach [e, e2] X.env = (false, eval e X.env) :: starEach [e2] X.env := by rfl) (hl : (backTo pos (starEach [e2] X.env)).any (·.1) = false := by rfl) :
    PI X (.Tuple es kk tp) (.Call (.Name "zip" p) [e, e2] [] pos) (iZipB X.K ta) := by
  refine ⟨fun pins s σ H R I h => ?_⟩
  refine Call_ (ld_blt I hg hm PyProof.Rows.boot_zip (PyProof.Rows.callWith_type1 (thn (ha.run pos pins s σ H _ I h) fun us s1 ⟨vs, H1, I1, r1, q1⟩ => ?_) hs hl))
  obtain ⟨a, b, k1, k2, xs, ys, ev, qx, qy, q⟩ := q1
  subst ev
  cases r1 with
  | cons ra rr =>
    cases rr with
    | cons rb rr =>
      cases rr
      cases ra
      cases rb
      obtain ⟨us, ru, pu⟩ := inv_B I1 qx
      obtain ⟨ws, rw', pw⟩ := inv_B I1 qy
      have la := pu.lt; have lb := pw.lt
      have fp : ∀ c, c ∈ [s1.heap.objs.size + 4, s1.heap.objs.size + 2, s1.heap.objs.size + 3, s1.heap.objs.size, s1.heap.objs.size + 1] → FpOk X pins H1 c := fun c hc => by
        have le : s1.heap.objs.size ≤ c := mem5 (Q := fun c => s1.heap.objs.size ≤ c) hc (Nat.le_add_right _ _) (Nat.le_add_right _ _) (Nat.le_add_right _ _) (Nat.le_refl _) (Nat.le_add_right _ _)
        exact I1.fpOk le (I1.hok.fresh le)
      have sep := zip_sep2 (N := s1.heap.objs.size) (fp1 := [a]) (fp2 := [b]) (fun c hc => by rw [List.mem_singleton.mp hc]; exact la) (fun c hc => by rw [List.mem_singleton.mp hc]; exact lb)
      refine zip_begins2 (begB k1 a us.toArray) (begB k2 b ws.toArray) pu pw fun h' hz hT hO g1 g2 sz hk => wpAny_pyIter_zip hz ?_
      have I2 : Inv X pins σ H1 { s1 with heap := h' } := I1.kept (t' := s1.toks) hk
      exact ⟨s1.heap.objs.size + 4, [s1.heap.objs.size + 4, s1.heap.objs.size + 2, s1.heap.objs.size + 3, s1.heap.objs.size, s1.heap.objs.size + 1], _, _, H1, rfl, I2, turn_zipB sep (Nat.ne_of_lt la) (Nat.ne_of_lt (Nat.lt_succ_of_lt lb)), ⟨hz, hT, ⟨_, _, hO⟩, AtB.new g1, AtB.new g2⟩, fp, q⟩
theorem walk_zipB {K : PySem.W.Frag} {b1 b2 : Bool} {a b : Addr} {xs ys : List V} {n : Nat} (hn : n = min xs.length ys.length) : Walk (ItzB K b1 b2 a b) n (fun H => SqB K b1 H a xs ∧ SqB K b2 H b ys) (YPair (fun i => xs[i]?) (fun i => ys[i]?)) where
  goes := fun i H hi ⟨q1, q2⟩ => by
    have l1 : i < xs.length := by omega
    have l2 : i < ys.length := by omega
    exact ⟨xs, ys, xs[i], ys[i], q1, q2, List.getElem?_eq_getElem l1, List.getElem?_eq_getElem l2⟩
  stops := fun H ⟨q1, q2⟩ => ⟨xs, ys, q1, q2, hn⟩
  yields := fun i H v H' hi ⟨q1, q2⟩ ⟨T, x, y, e1, e2, e3, e4, e5⟩ => ⟨T, x, y, e1, e2, e3, e4 xs q1, e5 ys q2⟩
open PySem.Sem (wp)
/-- list.extend of a tuple -/
theorem ext_tup_meets (l : Addr) (its : Array Value) (n : Nat) (b : Addr) (its2 : Array Value) (hlong : ¬(!its.isEmpty && Builtin.List.listTooLong (its.size + its2.size)) = true) (hz : its.size + its2.size ≤ sizeLine) :
    Meets (Builtin.«list.extend» ⟨[.ref l, .ref b], []⟩) (fun _ R s => s.heap.get? l = some { cls := .type "list", dict := none, data := .seq its n, slots := #[] } ∧ s.heap.IsTuple b its2 ∧ R (.ok (.ret Value.none)) { s with heap := s.heap.update l (Obj.mapSeq fun x => x ++ its2), toks := s.toks }) :=
  .of_wp fun prog w A R s h => by
    obtain ⟨hl, ⟨o, ho, hc, m, hd⟩, hR⟩ := h
    show wpAny _ A.in1 (Builtin.List.listExtendWith (.ref l) (.ref b) .none) _ _ s
    unfold Builtin.List.listExtendWith
    refine wpAny_bind (wpAny_typeOf ⟨o, ho, hc⟩ ?_)
    have e : (Builtin.List.listSameRef (.ref l) (.ref b) || Value.type "tuple" == Value.type "list" || Value.type "tuple" == Value.type "tuple") = true := by simp
    simp only [e, if_true]
    refine wpAny_bind ?_
    unfold Builtin.List.listItems
    refine wpAny_bind (wpAny_seqItems ho hd (wpAny_pure ?_))
    refine wpAny_bind ?_
    refine wpAny_bind (wpAny_seqItems hl rfl (wpAny_pure ?_))
    simp only [hlong]
    show wpAny _ A.in1 (updateSeq l (· ++ its2) >>= fun _ => ret .none) _ _ s
    have hz' : (its ++ its2).size ≤ sizeLine + 1 := by rw [Array.size_append]; omega
    refine wpAny_bind (wpAny_updateSeq (f := (· ++ its2)) (_hz' := hz') hl rfl ?_)
    exact wpAny_pure ⟨_, rfl, hR⟩
/-- list.extend of a list that stands in H, or of a tuple -/
def rExtA (K : PySem.W.Frag) : V → List V → Hp → VK → Prop := fun x vs H Q => ∃ l b xs zs, x = .ref l ∧ vs = [.ref b] ∧ H l = some (.lst xs) ∧ (H b = some (.lst zs) ∨ SqT K H b zs) ∧ xs.length + zs.length ≤ sizeLine ∧ Q .non (upd H l (.lst (xs ++ zs)))
theorem mt_extA {X : Cx} : MtM X "list.extend" (rExtA X.K) := by
  intro pins s σ H x vs v us Q I rx rv h
  obtain ⟨l, b, xs, zs, rfl, rfl, hH, hB, hz, q⟩ := h
  rcases hB with hB | hB
  · exact mt_extend pins s σ H _ _ v us Q I rx rv ⟨l, b, xs, zs, rfl, rfl, hH, hB, hz, q⟩
  cases rx
  obtain ⟨u, rfl, ru⟩ := rv.one
  cases ru
  obtain ⟨z, its, n, r, hl, e⟩ := I.lstM hH
  obtain ⟨its2, r2, p2, hl2⟩ := I.tuple hB
  have lz := r2.length
  have lx := r.length
  have hsz : its.toArray.size + its2.toArray.size ≤ sizeLine := by rw [List.size_toArray, List.size_toArray]; omega
  have hlong : ¬ (!its.toArray.isEmpty && Builtin.List.listTooLong (its.toArray.size + its2.toArray.size)) = true := by
    rw [notLongL hsz, Bool.and_false]
    exact Bool.false_ne_true
  refine call_meets F.slot_list_extend ⟨_, e, rfl⟩ F.entry_list_extend (F.args_list_extend_2 _ _)
    (ext_tup_meets l its.toArray n b its2.toArray hlong hsz) ⟨e, p2, ?_⟩
  refine ⟨.non, _, I.lset (its' := its ++ its2) hH e (by simp) (r.append r2) ?_, rfl, q⟩
  rw [List.length_append]
  omega
end VL

set_option maxRecDepth 100000
set_option maxHeartbeats 2000000
/-! VL: isinstance, join, new lists, what is walked, comprehensions. -/
namespace VL
open PySem L2 Evl PyProof.Rows PySem.Spec

section
variable {C : Ctx} {T : Tab} {Cl : Nat → Addr} {X : Cx} {b : Bool} {K : PySem.W.Frag} {cs cs' cs'' : List Addr} {F F' F'' H H' H'' : Hp} {h : AHeap}
theorem tyx_l {a : Addr} {vs : List V} (q : SqL K H a vs) : TyX K H (.ref a) (.type "list") := by
  rcases q with (q | ⟨o, q⟩) | ⟨o, its, n, h1, h2, _⟩
  · exact .base (.lst q)
  · exact .base (.frz q)
  · exact .kList h1 h2
theorem tyx_t {a : Addr} {vs : List V} (q : SqT K H a vs) : TyX K H (.ref a) (.type "tuple") := by
  rcases q with (q | ⟨o, q⟩) | ⟨o, its, n, h1, h2, _⟩
  · exact .base (.tup q)
  · exact .fTuple q
  · exact .kTuple h1 h2
def tyNames : List String := ["int", "bool", "str", "list", "tuple"]
theorem ty_boot {t : String} (h : tyNames.contains t = true) : bootBuiltins (Str.ofString t) = some (.type t) ∧ Str.ofString t ∈ bltNames ∧ plainName (Str.ofString t) = true := by
  have h' : t ∈ tyNames := by simpa using h
  simp only [tyNames, List.mem_cons, List.not_mem_nil, or_false] at h'
  rcases h' with rfl | rfl | rfl | rfl | rfl <;> exact ⟨by decide +kernel, by decide +kernel, by decide +kernel⟩
theorem isiK_ok (S : StOk X.K Cl cs F H h) {x : V} {d : AV} (rx : RepB X.K cs F H b x d) {t : String} {Q : KA} {R : VK} (q : isiK d t h Q) (p : PostV X.K Cl cs F H h Q R) : rIsi X.K [x, .ty t] H R := by
  have fin : ∀ {tx : String} {k : Bool}, TyX X.K H x (.type tx) → kitB tx t = some k → Q (.bl k) → rIsi X.K [x, .ty t] H R := fun {tx k} h1 h2 q => ⟨x, .ty t, .type tx, .type t, k, rfl, .ty t, h1, kit_ty h2, p.bl S q⟩
  unfold isiK at q
  split at q
  · cases rx.non
    obtain ⟨e, q⟩ := q
    rcases e with rfl | rfl | rfl | rfl | rfl <;> exact fin (.base .non) (by decide +kernel) q
  · cases rx.bl
    rcases q with ⟨rfl, q⟩ | ⟨rfl, q⟩ | ⟨rfl | rfl | rfl, q⟩ <;> exact fin (.base (.bl _)) (by decide +kernel) q
  · cases rx.int
    rcases q with ⟨rfl, q⟩ | ⟨rfl | rfl | rfl | rfl, q⟩ <;> exact fin (.base (.int _)) (by decide +kernel) q
  · cases rx.str
    rcases q with ⟨rfl, q⟩ | ⟨rfl | rfl | rfl | rfl, q⟩ <;> exact fin (.base (.str _)) (by decide +kernel) q
  · rename_i xs
    have hx : ∃ a vs, x = .ref a ∧ SqT X.K H a vs := by
      rcases rx with r | ⟨_, _, _, _, _, ⟨_, _, e, _⟩ | ⟨_, _, e, _⟩⟩
      · cases r with
        | tup h1 r1 => exact ⟨_, _, rfl, ex_t S.sub h1⟩
      · cases e
      · cases e
    obtain ⟨a, vs, rfl, hq⟩ := hx
    rcases q with ⟨rfl, q⟩ | ⟨rfl | rfl | rfl | rfl, q⟩ <;> exact fin (tyx_t hq) (by decide +kernel) q
  · exact q.elim
  · split at q
    · rename_i xs hv
      obtain ⟨a, vs, rfl, hq, _⟩ := rx.view S hv
      rcases q with ⟨rfl, q⟩ | ⟨rfl | rfl | rfl | rfl, q⟩ <;> exact fin (tyx_l hq) (by decide +kernel) q
    · exact q.elim
theorem s_isi {a : E} {t : String} {id id2 : Str} {p1 p2 pos : Pos} {y : Expr} (O : XOk C T Cl X) (h0 : id = "isinstance") (h1 : glB X.env.scope id = true) (h2 : id2 = Str.ofString t) (h3 : glB X.env.scope id2 = true) (ht : tyNames.contains t = true) (hy : notStar y = true)
    (ha : SE C Cl X true a y) : SE C Cl X b (.isi a t) (.Call (.Name id p1) [y, .Name id2 p2] [] pos) := fun ρ h Q σ cs F H R S V w p => by
  simp only [WpE] at w
  subst h0 h2
  obtain ⟨e1, e2, e3⟩ := ty_boot ht
  obtain ⟨n1, n2, n3⟩ := plainName_ok e3
  have pt : PE X (.Name (Str.ofString t) p2) (tC (.ty t)) := pe_bltn (glB_ok h3) (O.blt _ e2) e1 rfl n3 n1
  refine we_of (pe_callB call_isi (glB_ok h1) (O.blt _ (by decide +kernel)) (by decide +kernel) (pa_cons pe_we (pa_cons pt pa_nil) (star_cons hy _ _)) (by decide +kernel) (by decide +kernel) (star_cons hy _ _)) ?_
  refine ha _ _ _ _ _ _ _ _ S V w fun v1 d1 cs1 F1 H1 h1 x1 S1 r1 q1 => ?_
  exact isiK_ok S1 r1 q1 ((p.lift x1).post)
theorem s_smt {m : Sm} {o a : E} {nm : Str} {y z : Expr} {apos cpos : Pos} (hm : (match m with | .join => decide (nm = "join")) = true) (ho : SE C Cl X false o y) (ha : SE C Cl X true a z) (hz : notStar z = true) (hy : notSup y = true) (hl : (apos.endLine == cpos.line) = true) :
    SE C Cl X b (.smt m o a) (.Call (.Attribute y nm apos) [z] [] cpos) := fun ρ h Q σ cs F H R S V w p => by
  simp only [WpE] at w
  cases m with
  | join =>
    have hm : nm = "join" := of_decide_eq_true hm
    subst hm
    refine we_of (pe_join pe_we pe_we (star_cons hz _ _) (base_of hy _ _) hl) ?_
    refine ho _ _ _ _ _ _ _ _ S V w fun v1 d1 cs1 F1 H1 h1 x1 S1 r1 q1 => ?_
    split at q1
    · cases r1.str
      refine ⟨⟨_, rfl⟩, ha _ _ _ _ _ _ _ _ S1 (V.step x1) q1 fun v2 d2 cs2 F2 H2 h2 x2 S2 r2 q2 => ?_⟩
      unfold smtK at q2
      simp only at q2
      split at q2
      · rename_i ys hv
        obtain ⟨xs, hv, hn⟩ := Option.bind_eq_some_iff.mp hv
        obtain ⟨a, vs, rfl, hq, r⟩ := r2.viewT S2 hv
        rw [r.strs hn] at hq
        exact ⟨_, a, ys, rfl, rfl, hq, q2.1, (p.lift (x1.trans x2)).post.str S2 q2.2⟩
      · exact q2.elim
    · exact q1.elim

/-! ### objects of own classes -/
theorem Rep.adr_inv {K : PySem.W.Frag} {cs : List Addr} {F : Hp} {v : V} {n : Nat} (r : Rep K cs F v (.adr n)) : ∃ a, v = .ref a ∧ cs[n]? = some a := by
  cases r with
  | adr e => exact ⟨_, rfl, e⟩
theorem obj_at (S : StOk K Cl cs F H h) {n c : Nat} {a : Addr} {fs : List (Str × AV)} (e : cs[n]? = some a) (hc : cells h n = .obj c fs) : ∃ dx fvs, H a = some (.ins (Cl c) dx fvs) ∧ RepF K cs F fvs fs := by
  have := S.cell n a e
  rw [hc] at this
  exact this
theorem s_attr {a : E} {f : Str} {y : Expr} {pos : Pos} (O : XOk C T Cl X) (ha : SE C Cl X false a y) (hy : notSup y = true) : SE C Cl X b (.attr a f) (.Attribute y f pos) := fun ρ h Q σ cs F H R S V w p => by
  simp only [WpE] at w
  refine we_of (pe_fld pe_we (base_of hy _ _)) (ha _ _ _ _ _ _ _ _ S V w fun v1 d1 cs1 F1 H1 h1 x1 S1 r1 q1 => ?_)
  split at q1
  · rename_i n
    split at q1
    · rename_i c fs hc
      obtain ⟨hf, q1⟩ := q1
      split at q1
      · rename_i d hd
        obtain ⟨a, rfl, e⟩ := Rep.adr_inv r1.plain
        obtain ⟨dx, fvs, e2, r⟩ := obj_at S1 e hc
        obtain ⟨v, hv, rv⟩ := r.get hd
        exact ⟨a, Cl c, dx, fvs, v, rfl, e2, (O.fld c f hf).1, (O.fld c f hf).2, hv, p _ _ _ _ _ _ x1 S1 (.inl rv) q1⟩
      · exact q1.elim
    · exact q1.elim
  · exact q1.elim
theorem s_prop {o : E} {f : Str} {y : Expr} {pos : Pos} (O : XOk C T Cl X) (ho : SE C Cl X false o y) (hy : notSup y = true) : SE C Cl X b (.prop o f) (.Attribute y f pos) := fun ρ h Q σ cs F H R S V w p => by
  simp only [WpE] at w
  refine we_of (pe_propG pe_we (base_of hy _ _) O.gd) (ho _ _ _ _ _ _ _ _ S V w fun v1 d1 cs1 F1 H1 h1 x1 S1 r1 q1 => ?_)
  split at q1
  · rename_i n
    split at q1
    · rename_i c fs hc
      split at q1
      · rename_i g hg
        obtain ⟨a, ea, e⟩ := Rep.adr_inv r1.plain
        subst ea
        obtain ⟨dx, fvs, e2, r⟩ := obj_at S1 e hc
        obtain ⟨k, p', a', fd, ps, G, room, hc1, hm, hb⟩ := O.prp c f g hg
        refine ⟨a, Cl c, dx, fvs, spOf X.K Cl C g, rfl, e2, ⟨k, p', a', fd, ps, hc1, hm, G, room, hb⟩, ?_⟩
        exact ⟨cs1, F1, h1, [.adr n], Q, S1, .cons r1.plain .nil, q1, fun v d cs' F' H' h' y S' r q => p _ _ _ _ _ _ (x1.trans y) S' (.inl r) q⟩
      · exact q1.elim
    · exact q1.elim
  · exact q1.elim
theorem few_form {xs : List Expr} (hx : xs.all notStar = true) (hn : xs.length < 30) (pos : Pos) (env : PySem.Env) : methodCallForm xs.length (backTo pos (starEach xs env)) [] = true := by
  have := star_all hx pos env
  unfold methodCallForm
  rw [List.any_eq_false] at this
  have e : (backTo pos (starEach xs env)).all (fun x => !x.1) = true := by
    rw [List.all_eq_true]
    intro x hx
    have := this x hx
    simpa using this
  simp [e, hn]
theorem s_mcall {o : E} {m : Str} {es : Es} {y : Expr} {apos cpos : Pos} {xs : List Expr} (O : XOk C T Cl X) (ho : SE C Cl X false o y) (hy : notSup y = true) (hl : (apos.endLine == cpos.line) = true) (hx : xs.all notStar = true) (hn : xs.length < 30) (hnil : xs = [] → es = .nil) (ha : SA C Cl X es xs) :
    SE C Cl X b (.mcall o m es) (.Call (.Attribute y m apos) xs [] cpos) := fun ρ h Q σ cs F H R S V w p => by
  simp only [WpE] at w
  have key : ∀ v1 d1 cs1 F1 H1 h1, Stp cs F H cs1 F1 H1 → StOk X.K Cl cs1 F1 H1 h1 → RepB X.K cs1 F1 H1 false v1 d1 → (match d1 with
      | .adr n => match cells h1 n with
        | .obj c fs => match fs.lookup m with
          | some _ => False
          | none => match C.meth c m with
            | some f => WpEs C es ρ h1 fun xs h2 => C.call f (d1 :: xs) h2 Q
            | none => False
        | _ => False
      | _ => False) → ∃ a CC dx fs sp, v1 = .ref a ∧ H1 a = some (.ins CC dx fs) ∧ fs.lookup m = none ∧ MethAt X CC m sp ∧ WA X xs σ H1 fun vs H2 => sp (v1 :: vs) H2 R E0 := by
    intro v1 d1 cs1 F1 H1 h1 x1 S1 r1 q1
    split at q1
    · rename_i n
      split at q1
      · rename_i c fs hc
        split at q1
        · exact q1.elim
        · rename_i hlk
          split at q1
          · rename_i f hf
            obtain ⟨a, rfl, e⟩ := Rep.adr_inv r1.plain
            obtain ⟨dx, fvs, e2, r⟩ := obj_at S1 e hc
            obtain ⟨k, g, fd, ps, G, room, hc1, hm, hb⟩ := O.mth c m f hf
            refine ⟨a, Cl c, dx, fvs, spOf X.K Cl C f, rfl, e2, r.none hlk, ⟨k, g, fd, ps, hc1, hm, G, room, hb⟩, ?_⟩
            refine ha _ _ _ _ _ _ _ _ S1 (V.step x1) q1 fun vs ds cs2 F2 H2 h2 x2 S2 rs q2 => ?_
            exact ⟨cs2, F2, h2, .adr n :: ds, Q, S2, .cons (r1.plain.mono x2.f x2.c) rs.plain, q2, fun v d cs' F' H' h' y S' r q => p _ _ _ _ _ _ ((x1.trans x2).trans y) S' (.inl r) q⟩
          · exact q1.elim
      · exact q1.elim
    · exact q1.elim
  cases xs with
  | nil =>
    have := hnil rfl
    subst this
    refine we_of (pe_methG0 pe_we (base_of hy _ _) hl O.gd) (ho _ _ _ _ _ _ _ _ S V w fun v1 d1 cs1 F1 H1 h1 x1 S1 r1 q1 => ?_)
    obtain ⟨a, CC, dx, fs, sp, e1, e2, e3, e4, _⟩ := key v1 d1 cs1 F1 H1 h1 x1 S1 r1 q1
    subst e1
    split at q1
    · rename_i n
      split at q1
      · rename_i c fs' hc
        split at q1
        · exact q1.elim
        · rename_i hlk
          split at q1
          · rename_i f hf
            obtain ⟨a', ea, e⟩ := Rep.adr_inv r1.plain
            cases ea
            obtain ⟨dx', fvs, e2', r⟩ := obj_at S1 e hc
            obtain ⟨k, g, fd, ps, G, room, hc1, hm, hb⟩ := O.mth c m f hf
            simp only [WpEs] at q1
            exact ⟨a, Cl c, dx', fvs, spOf X.K Cl C f, rfl, e2', r.none hlk, ⟨k, g, fd, ps, hc1, hm, G, room, hb⟩, cs1, F1, h1, [.adr n], Q, S1, .cons r1.plain .nil, q1, fun v d cs' F' H' h' y S' r q => p _ _ _ _ _ _ (x1.trans y) S' (.inl r) q⟩
          · exact q1.elim
      · exact q1.elim
    · exact q1.elim
  | cons x xs =>
    have hx2 := hx
    rw [List.all_cons, Bool.and_eq_true] at hx2
    refine we_of (pe_methG pe_we (base_of hy _ _) hl (few_form hx hn _ _) O.gd pa_we (star_cons hx2.1 _ _) (star_all hx2.2 _ _)) (ho _ _ _ _ _ _ _ _ S V w fun v1 d1 cs1 F1 H1 h1 x1 S1 r1 q1 => ?_)
    exact key v1 d1 cs1 F1 H1 h1 x1 S1 r1 q1
theorem s_make {c : Nat} {es : Es} {id : Str} {p1 pos : Pos} {x : Expr} {xs : List Expr} (O : XOk C T Cl X) (h0 : T.cname c = some id) (h1 : glB X.env.scope id = true) (h2 : plainName id = true) (hx : (x :: xs).all notStar = true) (ha : SA C Cl X es (x :: xs)) :
    SE C Cl X b (.make c es) (.Call (.Name id p1) (x :: xs) [] pos) := fun ρ h Q σ cs F H R S V w p => by
  simp only [WpE] at w
  obtain ⟨f, k, g, fd, ps, hi, G, room, hm, M, hb⟩ := O.cls c id h0
  rw [List.all_cons, Bool.and_eq_true] at hx
  refine we_of (G.make M O.gd room (glB_ok h1) hm hb pa_we (plainName_ok h2).1 (star_cons hx.1 _ _) (star_all hx.2 _ _)) (ha _ _ _ _ _ _ _ _ S V w fun vs ds cs1 F1 H1 h1' x1 S1 rs q1 => ?_)
  rw [hi] at q1
  intro a dx na nd ne
  have ne2 : a ≠ dx := fun z => ne z.symm
  have hF : F1 a = none := by
    cases q : F1 a with
    | none => rfl
    | some u => rw [S1.sub _ _ q] at na; cases na
  have hc : a ∉ cs1 := fun z => by
    obtain ⟨n, hn⟩ := List.mem_iff_getElem?.mp z
    exact (S1.cell n a hn).some na
  have na2 : upd H1 dx (.own a) a = none := by rw [upd_ne ne2]; exact na
  have S2 := (S1.newN (o := .own a) nd).newN (o := .ins (Cl c) dx []) na2
  have y1 : Stp cs1 F1 H1 cs1 F1 (upd (upd H1 dx (.own a)) a (.ins (Cl c) dx [])) := (Stp.newN nd).trans (Stp.newN na2)
  have S3 := S2.cellNew (c := .obj c []) hF hc ⟨dx, [], upd_same, .nil⟩
  have y2 : Stp cs1 F1 H1 (cs1 ++ [a]) F1 (upd (upd H1 dx (.own a)) a (.ins (Cl c) dx [])) := by
    refine ⟨y1.f, ⟨[a], rfl⟩, y1.k, y1.d, y1.n, fun b q1 q2 => ?_⟩
    rw [List.mem_append] at q1
    rcases q1 with q1 | q1
    · exact absurd q1 q2
    · simp at q1; subst q1; exact na
  have ga : (cs1 ++ [a])[h1'.length]? = some a := by
    rw [← S1.len]
    simp
  refine ⟨cs1 ++ [a], F1, h1' ++ [.obj c []], .adr h1'.length :: ds, _, S3, .cons (.adr ga) (rs.plain.mono y2.f y2.c), q1, fun v d cs' F' H' h' y S' r q => ?_⟩
  split at q
  · cases r
    refine ⟨rfl, p _ _ _ _ _ _ ((x1.trans y2).trans y) S' (.inl (.adr ?_)) q⟩
    obtain ⟨r, e⟩ := y.c
    exact get_pre e ga
  · exact q.elim

/-! ### dicts of the module, places, tuples turned round, own classes asked for -/
theorem s_gGet {a : E} {g : Nat} {id : Str} {p1 pos : Pos} {r : Expr} (O : XOk C T Cl X) (h0 : T.dname g = some id) (h1 : glB X.env.scope id = true) (h2 : plainName id = true) (hs : notSlice r = true) (ha : SE C Cl X false a r) :
    SE C Cl X b (.gGet g a) (.Subscript (.Name id p1) r pos) := fun ρ h Q σ cs F H R S V w p => by
  simp only [WpE] at w
  obtain ⟨kvs, d, hg, m1, D⟩ := O.gdc g id h0
  rw [hg] at w
  have pt : PE X (.Name id p1) (tC (.ref d)) := pe_glob (glB_ok h1) m1 rfl (plainName_ok h2).1
  refine we_of (pe_ix (ix_gdict D) pt pe_we (plainIx_of hs)) ?_
  refine ha _ _ _ _ _ _ _ _ S V w fun v1 d1 cs1 F1 H1 h1 x1 S1 r1 q1 => ?_
  unfold gGetK at q1
  simp only at q1
  split at q1
  · cases r1.str
    split at q1
    · rename_i i hi
      exact ⟨_, _, rfl, rfl, hi, (p.lift x1).post.int S1 q1⟩
    · exact q1.elim
  · exact q1.elim
theorem s_gIn {neg : Bool} {a : E} {g : Nat} {id : Str} {p1 pos : Pos} {l : Expr} {o : CmpOp} (O : XOk C T Cl X) (ho : o = if neg then .NotIn else .In) (h0 : T.dname g = some id) (h1 : glB X.env.scope id = true) (h2 : plainName id = true) (hm : behindInMarks o (.Name id p1) = false) (ha : SE C Cl X false a l) :
    SE C Cl X b (.gIn neg a g) (.Compare l [o] [.Name id p1] pos) := fun ρ h Q σ cs F H R S V w p => by
  simp only [WpE] at w
  obtain ⟨kvs, d, hg, m1, D⟩ := O.gdc g id h0
  rw [hg] at w
  have pt : PE X (.Name id p1) (tC (.ref d)) := pe_glob (glB_ok h1) m1 rfl (plainName_ok h2).1
  cases neg with
  | true =>
    simp only [if_true] at ho
    subst ho
    refine we_of (pe_cmpR (op_gNotIn D) pe_we pt hm) (ha _ _ _ _ _ _ _ _ S V w fun v1 d1 cs1 F1 H1 h1 x1 S1 r1 q1 => ?_)
    unfold gInK at q1
    simp only at q1
    split at q1
    · cases r1.str
      exact ⟨_, rfl, rfl, (p.lift x1).post.bl S1 q1⟩
    · exact q1.elim
  | false =>
    simp only [Bool.false_eq_true, if_false] at ho
    subst ho
    refine we_of (pe_cmpR (op_gIn D) pe_we pt hm) (ha _ _ _ _ _ _ _ _ S V w fun v1 d1 cs1 F1 H1 h1 x1 S1 r1 q1 => ?_)
    unfold gInK at q1
    simp only at q1
    split at q1
    · cases r1.str
      exact ⟨_, rfl, rfl, (p.lift x1).post.bl S1 q1⟩
    · exact q1.elim
theorem s_gInT {neg : Bool} {a : E} {g : Nat} {id : Str} {p1 pos : Pos} {l : Expr} {o : CmpOp} (O : XOk C T Cl X) (ho : o = if neg then .NotIn else .In) (h0 : T.dname g = some id) (h1 : glB X.env.scope id = true) (h2 : plainName id = true) (hm : behindInMarks o (.Name id p1) = false) (ha : SE C Cl X false a l) :
    ST C Cl X (.gIn neg a g) (.Compare l [o] [.Name id p1] pos) := fun ρ h Q σ cs F H R S V w p => by
  simp only [WpT] at w
  obtain ⟨kvs, d, hg, m1, D⟩ := O.gdc g id h0
  rw [hg] at w
  have pt : PE X (.Name id p1) (tC (.ref d)) := pe_glob (glB_ok h1) m1 rfl (plainName_ok h2).1
  cases neg with
  | true =>
    simp only [if_true] at ho
    subst ho
    refine wt_of (pt_cmpR (op_gNotIn D) pe_we pt hm) (ha _ _ _ _ _ _ _ _ S V w fun v1 d1 cs1 F1 H1 h1 x1 S1 r1 q1 => ?_)
    unfold gInK at q1
    simp only at q1
    split at q1
    · cases r1.str
      exact ⟨_, rfl, rfl, _, rfl, p _ _ _ _ _ x1 S1 q1⟩
    · exact q1.elim
  | false =>
    simp only [Bool.false_eq_true, if_false] at ho
    subst ho
    refine wt_of (pt_cmpR (op_gIn D) pe_we pt hm) (ha _ _ _ _ _ _ _ _ S V w fun v1 d1 cs1 F1 H1 h1 x1 S1 r1 q1 => ?_)
    unfold gInK at q1
    simp only at q1
    split at q1
    · cases r1.str
      exact ⟨_, rfl, rfl, _, rfl, p _ _ _ _ _ x1 S1 q1⟩
    · exact q1.elim
theorem s_idx {l a : E} {nm : Str} {y z : Expr} {apos cpos : Pos} (hm : nm = "index") (hl : SE C Cl X true l y) (ha : SE C Cl X false a z) (hz : notStar1 z = true) (hy : notSup y = true) (hp : (apos.endLine == cpos.line) = true) :
    SE C Cl X b (.idx l a) (.Call (.Attribute y nm apos) [z] [] cpos) := fun ρ h Q σ cs F H R S V w p => by
  simp only [WpE] at w
  subst hm
  refine we_of (pe_index pe_we pe_we hz (base_of hy _ _) hp) ?_
  refine hl _ _ _ _ _ _ _ _ S V w fun v1 d1 cs1 F1 H1 h1 x1 S1 r1 q1 => ?_
  obtain ⟨hv, q1⟩ := q1
  obtain ⟨xs0, hv⟩ := Option.isSome_iff_exists.mp hv
  obtain ⟨a0, vs0, e0, hq0, _⟩ := r1.view S1 hv
  refine ⟨by rw [e0]; exact .inl ⟨rfl, _, hq0⟩, ?_⟩
  refine ha _ _ _ _ _ _ _ _ S1 (V.step x1) q1 fun v2 d2 cs2 F2 H2 h2 x2 S2 r2 q2 => ?_
  unfold idxK at q2
  split at q2
  · rename_i xs hv2
    obtain ⟨f1, f2, q3⟩ := q2
    obtain ⟨a1, vs, e1, hq, r⟩ := (r1.step x2).view S2 hv2
    split at q3
    · rename_i j hj
      obtain ⟨hlt, hp1, hp2⟩ := List.findIdx?_eq_some_iff_getElem.mp hj
      have hlv : j < vs.length := by rw [r.length]; exact hlt
      refine ⟨a1, vs, v2, j, vs[j], e1, rfl, hq, (r2.flat f1).1, (r.flat f2 r2 f1).1, List.getElem?_eq_getElem hlv, ?_, fun m z' hm hz' => ?_, (p.lift (x1.trans x2)).post.int S2 q3⟩
      · rw [r.flatAt f2 r2 f1 (List.getElem?_eq_getElem hlv) (List.getElem?_eq_getElem hlt)]
        exact hp1
      · have hm2 : m < xs.length := Nat.lt_trans hm hlt
        rw [r.flatAt f2 r2 f1 hz' (List.getElem?_eq_getElem hm2)]
        exact Bool.eq_false_iff.mpr (hp2 m hm)
    · exact q3.elim
  · exact q2.elim
theorem s_popE {o : E} {nm : Str} {y : Expr} {apos cpos : Pos} (hm : nm = "pop") (ho : SE C Cl X false o y) (hy : notSup y = true) (hp : (apos.endLine == cpos.line) = true) :
    SE C Cl X b (.popE o) (.Call (.Attribute y nm apos) [] [] cpos) := fun ρ h Q σ cs F H R S V w p => by
  simp only [WpE] at w
  subst hm
  refine we_of (pe_bm0 PySem.F.plainAttrs_list PySem.F.slot_list_pop PySem.F.type_list_pop mt_pop pe_we (base_of hy _ _) hp) ?_
  refine ho _ _ _ _ _ _ _ _ S V w fun v1 d1 cs1 F1 H1 h1 x1 S1 r1 q1 => ?_
  split at q1
  · rename_i m
    split at q1
    · rename_i xs hc
      split at q1
      · rename_i d hl
        have r1 := r1.plain
        cases r1 with
        | adr g1 =>
          rename_i a
          obtain ⟨vs, g2, g3⟩ := cell_at S1 g1 hc
          have hl2 : xs[xs.length - 1]? = some d := by rw [← List.getLast?_eq_getElem?]; exact hl
          obtain ⟨v, hv, rv⟩ := g3.get hl2
          rw [← g3.length] at hv
          refine ⟨.inl ⟨rfl, vs, sq_of g2⟩, a, vs, v, rfl, rfl, g2, hv, ?_⟩
          have ds : Reps X.K cs1 F1 vs.dropLast xs.dropLast := by
            rw [List.dropLast_eq_take, List.dropLast_eq_take, g3.length]
            exact g3.take _
          exact (p.lift (x1.trans (Stp.chg (List.mem_of_getElem? g1)))) v d _ _ _ _ .refl (S1.cellSet g1 (show COk X.K Cl cs1 F1 _ a (.lst xs.dropLast) from ⟨_, upd_same, ds⟩)) (.inl rv) q1
      · exact q1.elim
    · exact q1.elim
  · exact q1.elim
theorem s_revT {a : E} {l : Expr} {k : Nat} {p1 p2 p3 pos : Pos} (ha : SE C Cl X false a l) : SE C Cl X b (.revT a) (.Subscript l (.Slice none none (some (.UnaryOp .USub (.Constant (.int 1) k p1) p2)) p3) pos) := fun ρ h Q σ cs F H R S V w p => by
  simp only [WpE] at w
  refine we_of (pe_revT pe_we) (ha _ _ _ _ _ _ _ _ S V w fun v1 d1 cs1 F1 H1 h1 x1 S1 r1 q1 => ?_)
  split at q1
  · have r1' := r1.plain
    cases r1' with
    | tup g1 g2 => exact ⟨_, _, rfl, ex_t S1.sub g1, (p.lift x1).post.newT S1 g2.rev q1⟩
  · exact q1.elim
theorem s_isC {a : E} {c : Nat} {id id2 : Str} {p1 p2 pos : Pos} {y : Expr} (O : XOk C T Cl X) (h0 : id = "isinstance") (h1 : glB X.env.scope id = true) (h2 : T.iname c = some id2) (h3 : glB X.env.scope id2 = true) (h4 : plainName id2 = true) (hy : notStar y = true)
    (ha : SE C Cl X false a y) : SE C Cl X b (.isC a c) (.Call (.Name id p1) [y, .Name id2 p2] [] pos) := fun ρ h Q σ cs F H R S V w p => by
  simp only [WpE] at w
  subst h0
  obtain ⟨m1, IC⟩ := O.isc c id2 h2
  have pt : PE X (.Name id2 p2) (tC (.ref (Cl c))) := pe_glob (glB_ok h3) m1 rfl (plainName_ok h4).1
  refine we_of (pe_callB (C8.call_isC IC) (glB_ok h1) (O.blt _ (by decide +kernel)) (by decide +kernel) (pa_cons pe_we (pa_cons pt pa_nil) (star_cons hy _ _)) (by decide +kernel) (by decide +kernel) (star_cons hy _ _)) ?_
  refine ha _ _ _ _ _ _ _ _ S V w fun v1 d1 cs1 F1 H1 h1 x1 S1 r1 q1 => ?_
  unfold isCK at q1
  split at q1
  · rename_i n
    split at q1
    · rename_i c' fs hc
      obtain ⟨rfl, q1⟩ := q1
      obtain ⟨a, rfl, e⟩ := Rep.adr_inv r1.plain
      obtain ⟨dx, fvs, e2, r⟩ := obj_at S1 e hc
      exact ⟨a, dx, fvs, rfl, e2, (p.lift x1).post.bl S1 q1⟩
    · exact q1.elim
  · exact q1.elim

/-! ### new lists -/
theorem NOk.made {Q : Cell → AHeap → Prop} {R : VK} (p : NOk K Cl cs F H Q R) (S : StOk K Cl cs F H h) {a : Addr} {o : HO} {c : Cell} (ha : H a = none) (r : COk K Cl cs F (upd H a o) a c) (q : Q c h) : R (.ref a) (upd H a o) := by
  have hF : F a = none := by
    cases w : F a with
    | none => rfl
    | some u => rw [S.sub _ _ w] at ha; cases ha
  have hc : a ∉ cs := fun z => by
    obtain ⟨n, hn⟩ := List.mem_iff_getElem?.mp z
    exact (S.cell n a hn).some ha
  exact p a c cs F _ h (.newN ha) (S.newN ha) ha hF hc r q
theorem n_lst {es : Es} {xs : List Expr} {pos : Pos} (ha : SA C Cl X es xs) : SN C Cl X (.lst es) (.List xs pos) := fun ρ h Q σ cs F H R S V w p => by
  simp only [WpN] at w
  refine we_of (pe_lst pa_we) (ha _ _ _ _ _ _ _ _ S V w fun vs ds cs1 F1 H1 h1 x1 S1 rs q1 => ?_)
  have rs := rs.plain
  exact ⟨by rw [rs.length]; exact q1.1, fun a ha => (p.lift x1).made S1 ha (show COk X.K Cl cs1 F1 _ a (.lst ds) from ⟨vs, upd_same, rs⟩) q1.2⟩
theorem reps_strs {K : PySem.W.Frag} {cs : List Addr} {F : Hp} : ∀ ys : List Str, Reps K cs F (ys.map V.str) (ys.map AV.str)
  | [] => .nil
  | y :: ys => .cons (.str y) (reps_strs ys)
theorem n_split {o a : E} {nm : Str} {y z : Expr} {apos cpos : Pos} (hm : nm = "split") (ho : SE C Cl X false o y) (ha : SE C Cl X false a z) (hz : notStar z = true) (hy : notSup y = true) (hl : (apos.endLine == cpos.line) = true) :
    SN C Cl X (.split o a) (.Call (.Attribute y nm apos) [z] [] cpos) := fun ρ h Q σ cs F H R S V w p => by
  simp only [WpN] at w
  subst hm
  refine we_of (pe_split pe_we pe_we (star_cons hz _ _) (base_of hy _ _) hl) ?_
  refine ho _ _ _ _ _ _ _ _ S V w fun v1 d1 cs1 F1 H1 h1 x1 S1 r1 q1 => ?_
  split at q1
  · cases r1.str
    refine ⟨⟨_, rfl⟩, ha _ _ _ _ _ _ _ _ S1 (V.step x1) q1 fun v2 d2 cs2 F2 H2 h2 x2 S2 r2 q2 => ?_⟩
    split at q2
    · cases r2.str
      obtain ⟨q3, q4, q5⟩ := q2
      exact ⟨_, _, rfl, rfl, q3, q4, fun a ha => (p.lift (x1.trans x2)).made S2 ha (show COk X.K Cl cs2 F2 _ a (.lst _) from ⟨_, upd_same, reps_strs _⟩) q5⟩
    · exact q2.elim
  · exact q1.elim
theorem n_slice {a : E} {lo hi : Oe} {l : Expr} {u v : Option Expr} {p2 pos : Pos} (ha : SE C Cl X true a l) (hl : SO C Cl X lo u) (hh : SO C Cl X hi v) : SN C Cl X (.slice a lo hi) (.Subscript l (.Slice u v none p2) pos) := fun ρ h Q σ cs F H R S V w p => by
  simp only [WpN] at w
  refine we_of (pe_slice sl_list pe_we po_we po_we) (ha _ _ _ _ _ _ _ _ S V w fun v1 d1 cs1 F1 H1 h1 x1 S1 r1 q1 => ?_)
  refine hl _ _ _ _ _ _ _ _ S1 (V.step x1) q1 fun k2 cs2 F2 H2 h2 x2 S2 q2 => ?_
  refine hh _ _ _ _ _ _ _ _ S2 ((V.step x1).step x2) q2 fun k3 cs3 F3 H3 h3 x3 S3 q3 => ?_
  split at q3
  · rename_i xs hv
    obtain ⟨a, vs, rfl, hq, r⟩ := ((r1.step x2).step x3).view S3 hv
    exact ⟨a, vs, rfl, hq, fun a ha => (p.lift ((x1.trans x2).trans x3)).made S3 ha (show COk X.K Cl cs3 F3 _ a (.lst (cut xs k2 k3)) from ⟨_, upd_same, r.cut k2 k3⟩) q3⟩
  · exact q3.elim
theorem n_list {a : E} {id : Str} {p1 pos : Pos} {y : Expr} (O : XOk C T Cl X) (h0 : id = "list") (h1 : glB X.env.scope id = true) (hy : notStar y = true) (ha : SE C Cl X true a y) : SN C Cl X (.listOf a) (.Call (.Name id p1) [y] [] pos) := fun ρ h Q σ cs F H R S V w p => by
  simp only [WpN] at w
  subst h0
  refine we_of (pe_callTy (callw_ok (f := .type "list")) (glB_ok h1) (O.blt _ (by decide +kernel)) (by decide +kernel) (pa_cons pe_we pa_nil (star_cons hy _ _)) (by decide +kernel) (by decide +kernel) (star_cons hy _ _)) ?_
  refine ha _ _ _ _ _ _ _ _ S V w fun v1 d1 cs1 F1 H1 h1 x1 S1 r1 q1 => ?_
  split at q1
  · rename_i xs hv
    obtain ⟨a, vs, rfl, hq, r⟩ := r1.viewT S1 hv
    exact callw_of call_list_of ⟨a, vs, rfl, hq, fun a ha => (p.lift x1).made S1 ha (show COk X.K Cl cs1 F1 _ a (.lst xs) from ⟨_, upd_same, r⟩) q1⟩
  · split at q1
    · rename_i kvs hn
      obtain ⟨a, es, rfl, hq, r⟩ := r1.viewN S1 hn
      exact callw_of (call_list_dN O.calm) ⟨a, es, rfl, hq, fun a ha => (p.lift x1).made S1 ha (show COk X.K Cl cs1 F1 _ a (.lst _) from ⟨_, upd_same, r.list⟩) q1⟩
    · exact q1.elim
theorem n_dctN0 {pos : Pos} : SN C Cl X .dctN0 (.Dict [] [] pos) := fun ρ h Q σ cs F H R S V w p => by
  simp only [WpN] at w
  exact we_of pe_dnewN fun a ha => p.made S ha (show COk X.K Cl cs F _ a (.dctN []) from ⟨_, upd_same, .nil⟩) w
theorem n_cat {a c : E} {l r : Expr} {pos : Pos} (ha : SE C Cl X true a l) (hc : SE C Cl X true c r) : SN C Cl X (.cat a c) (.BinOp l .Add r pos) := fun ρ h Q σ cs F H R S V w p => by
  simp only [WpN] at w
  refine we_of (pe_op op_cat pe_we pe_we) (ha _ _ _ _ _ _ _ _ S V w fun v1 d1 cs1 F1 H1 h1 x1 S1 r1 q1 => ?_)
  refine hc _ _ _ _ _ _ _ _ S1 (V.step x1) q1 fun v2 d2 cs2 F2 H2 h2 x2 S2 r2 q2 => ?_
  split at q2
  · rename_i xs ys hx hy
    obtain ⟨a1, vs, rfl, e1, t1⟩ := (r1.step x2).viewW S2 hx
    obtain ⟨a2, ws, rfl, e2, t2⟩ := r2.viewW S2 hy
    exact ⟨a1, a2, vs, ws, rfl, rfl, e1, e2, by rw [t1.length, t2.length]; exact q2.1, fun a ha => (p.lift (x1.trans x2)).made S2 ha (show COk X.K Cl cs2 F2 _ a (.lst (xs ++ ys)) from ⟨_, upd_same, t1.append t2⟩) q2.2⟩
  · exact q2.elim

theorem Reps.rep {vs : List V} {ds : List AV} (r : Reps K cs F vs ds) : ∀ n : Nat, Reps K cs F (List.replicate n vs).flatten (List.replicate n ds).flatten
  | 0 => .nil
  | n + 1 => by rw [List.replicate_succ, List.replicate_succ, List.flatten_cons, List.flatten_cons]; exact r.append (Reps.rep r n)
theorem n_rep {a c : E} {l r : Expr} {pos : Pos} (ha : SE C Cl X true a l) (hc : SE C Cl X false c r) : SN C Cl X (.rep a c) (.BinOp l .Mult r pos) := fun ρ h Q σ cs F H R S V w p => by
  simp only [WpN] at w
  refine we_of (pe_op op_rep pe_we pe_we) (ha _ _ _ _ _ _ _ _ S V w fun v1 d1 cs1 F1 H1 h1 x1 S1 r1 q1 => ?_)
  refine hc _ _ _ _ _ _ _ _ S1 (V.step x1) q1 fun v2 d2 cs2 F2 H2 h2 x2 S2 r2 q2 => ?_
  split at q2
  · rename_i xs k hx
    obtain ⟨a1, vs, rfl, e1, t1⟩ := (r1.step x2).viewW S2 hx
    have r2 := r2.plain
    cases r2
    exact ⟨a1, k, vs, rfl, rfl, e1, q2.1.1, q2.1.2, by rw [t1.length]; exact q2.2.1, fun a ha => (p.lift (x1.trans x2)).made S2 ha (show COk X.K Cl cs2 F2 _ a (.lst (List.replicate k.toNat xs).flatten) from ⟨_, upd_same, t1.rep k.toNat⟩) q2.2.2⟩
  · exact q2.elim

theorem Stp.chgNew {p : Addr} {o : HO} (x : Stp cs F H cs' F' H') (hp : H p = none) : Stp cs F H cs' F' (upd H' p o) := by
  refine ⟨x.f, x.c, fun b u q n => ?_, fun b q => ?_, x.n, x.m⟩
  · rw [upd_ne fun z => by subst z; rw [hp] at q; cases q]
    exact x.k b u q n
  · by_cases hb : b = p
    · subst hb; rw [upd_same]; simp
    · rw [upd_ne hb]; exact x.d b q
theorem keyOf_rep {d : AV} {v : V} {k : Key} (e : keyOf d = some k) (r : RepB K cs F H false v d) : v = kV k := by
  have r := r.plain
  cases d <;> simp only [keyOf] at e <;> cases e <;> cases r <;> rfl
theorem n_dct1 {k v : E} {x y : Expr} {pos : Pos} (hk : SE C Cl X false k x) (hv : SE C Cl X false v y) : SN C Cl X (.dct1 k v) (.Dict [some x] [y] pos) := fun ρ h Q σ cs F H R S V w p => by
  simp only [WpN] at w
  refine we_of (pe_disp (pps_cons pe_we pe_we pps_nil) rfl rfl (by simp) (by simp)) ?_
  intro a na
  have S1 := S.newN (o := .dK []) na
  have x0 : Stp cs F H cs F (upd H a (.dK [])) := Stp.newN na
  refine hk _ _ _ _ _ _ _ _ S1 (V.step x0) w fun v1 d1 cs1 F1 H1 h1 x1 S2 r1 q1 => ?_
  refine hv _ _ _ _ _ _ _ _ S2 ((V.step x0).step x1) q1 fun v2 d2 cs2 F2 H2 h2 x2 S3 r2 q2 => ?_
  split at q2
  · rename_i key e
    have x12 := x1.trans x2
    have here : upd H a (.dK []) a = some (.dK []) := upd_same
    have hc : a ∉ cs := fun z => by
      obtain ⟨n, hn⟩ := List.mem_iff_getElem?.mp z
      exact (S.cell n a hn).some na
    have hF : F a = none := by
      cases q : F a with
      | none => rfl
      | some u => rw [S.sub _ _ q] at na; cases na
    have e2 : H2 a = some (.dK []) := x12.k a _ here hc
    have hF2 : F2 a = none := by
      cases q : F2 a with
      | none => rfl
      | some u =>
        have := x12.n a hF (by rw [q]; simp)
        rw [here] at this; cases this
    have hn2 : a ∉ cs2 := fun z => by
      have := x12.m a z hc
      rw [here] at this; cases this
    refine ⟨e2, [(key, v2)], ?_, by simp, ?_⟩
    · rw [keyOf_rep e r1]; rfl
    · exact p a (.dct [(key, d2)]) cs2 F2 _ h2 ((x0.trans x12).chgNew na) (S3.chgN hF2 hn2) na hF2 hn2 ⟨_, upd_same, .cons r2.plain .nil⟩ q2
  · exact q2.elim
/-! ### displays of pairs -/
def trsOf (X : Cx) : List (Option Expr) → List Expr → List (TE × TE)
  | some x :: xs, y :: ys => (WE X x, WE X y) :: trsOf X xs ys
  | _, _ => []
def flatP : List (V × V) → List V
  | [] => []
  | (a, b) :: r => a :: b :: flatP r
def PD (K : PySem.W.Frag) (Cl : Nat → Addr) (cs : List Addr) (F H : Hp) (Q : List AV → AHeap → Prop) (R : List (V × V) → Hp → Prop) : Prop :=
  ∀ ps ds cs' F' H' h', Stp cs F H cs' F' H' → StOk K Cl cs' F' H' h' → Reps K cs' F' (flatP ps) ds → Q ds h' → R ps H'
theorem PD.lift {Q : List AV → AHeap → Prop} {R : List (V × V) → Hp → Prop} (p : PD K Cl cs F H Q R) (x : Stp cs F H cs' F' H') : PD K Cl cs' F' H' Q R := fun ps ds cs2 F2 H2 h2 y S r q => p ps ds cs2 F2 H2 h2 (x.trans y) S r q
def SD (C : Ctx) (Cl : Nat → Addr) (X : Cx) (es : Es) (xs : List (Option Expr)) (ys : List Expr) : Prop :=
  (∀ pos, PPs X pos xs ys (trsOf X xs ys)) ∧ xs.all (·.isSome) = true ∧ xs.length = ys.length ∧
  ∀ ρ h Q σ cs F H R, StOk X.K Cl cs F H h → EnvOk X.K Cl cs F H σ ρ → WpEs C es ρ h Q → PD X.K Cl cs F H Q R → tPairs (trsOf X xs ys) σ H R
theorem d_nil : SD C Cl X .nil [] [] := ⟨fun _ => pps_nil, rfl, rfl, fun ρ h Q σ cs F H R S V w p => by
  simp only [WpEs] at w
  exact p [] [] _ _ _ _ .refl S .nil w⟩
theorem d_cons {k v : E} {es : Es} {x y : Expr} {xs : List (Option Expr)} {ys : List Expr} (hk : SE C Cl X false k x) (hv : SE C Cl X false v y) (hr : SD C Cl X es xs ys) : SD C Cl X (.cons k (.cons v es)) (some x :: xs) (y :: ys) := by
  obtain ⟨a1, a2, a3, a4⟩ := hr
  refine ⟨fun pos => pps_cons pe_we pe_we (a1 pos), by simp [a2], by simp [a3], fun ρ h Q σ cs F H R S V w p => ?_⟩
  simp only [WpEs] at w
  refine hk _ _ _ _ _ _ _ _ S V w fun v1 d1 cs1 F1 H1 h1 x1 S1 r1 q1 => ?_
  refine hv _ _ _ _ _ _ _ _ S1 (V.step x1) q1 fun v2 d2 cs2 F2 H2 h2 x2 S2 r2 q2 => ?_
  refine a4 _ _ _ _ _ _ _ _ S2 ((V.step x1).step x2) q2 fun ps ds cs3 F3 H3 h3 x3 S3 rs q3 => ?_
  exact p ((v1, v2) :: ps) _ _ _ _ _ ((x1.trans x2).trans x3) S3 (.cons ((r1.step x2).step x3).plain (.cons (r2.step x3).plain rs)) q3
theorem RepK.merge {vs : List (Key × V)} {ds : List (Key × AV)} (r : RepK K cs F vs ds) : ∀ {ws : List (Key × V)} {es : List (Key × AV)}, RepK K cs F ws es → RepK K cs F (mergeK ws vs) (mergeA es ds) := by
  induction vs generalizing ds with
  | nil => intro ws es h; cases r; exact h
  | cons v vs ih =>
    intro ws es h
    cases r with
    | cons r1 r2 => exact ih r2 (h.put r1)
theorem pairs_rep : ∀ {ps : List (V × V)} {ds : List AV} {kps : List (Key × AV)}, Reps K cs F (flatP ps) ds → pairsOf ds = some kps → ∃ kvs : List (Key × V), ps = kvs.map (fun kv => (kV kv.1, kv.2)) ∧ RepK K cs F kvs kps
  | [], _, _, .nil, e => by simp [pairsOf] at e; subst e; exact ⟨[], rfl, .nil⟩
  | (a, b) :: ps, _, kps, .cons r1 (.cons r2 rs), e => by
    simp only [pairsOf] at e
    split at e
    · rename_i k ks e1 e2
      cases e
      obtain ⟨kvs, h1, h2⟩ := pairs_rep rs e2
      refine ⟨(k, b) :: kvs, ?_, .cons r2 h2⟩
      rw [h1, keyOf_rep (H := F) e1 (.inl r1)]
      rfl
    · cases e
theorem n_dctL {es : Es} {xs : List (Option Expr)} {ys : List Expr} {pos : Pos} (hsz : xs ≠ [] ∧ xs.length ≤ 15) (hd : SD C Cl X es xs ys) : SN C Cl X (.dctL es) (.Dict xs ys pos) := fun ρ h Q σ cs F H R S V w p => by
  simp only [WpN] at w
  obtain ⟨a1, a2, a3, a4⟩ := hd
  have key : xs ≠ [] ∧ xs.length ≤ 15 → WE X (.Dict xs ys pos) σ H R := by
    intro hx
    refine we_of (pe_disp (a1 pos) a2 a3 hx.1 hx.2) ?_
    intro a na
    have S1 := S.newN (o := .dK []) na
    have x0 : Stp cs F H cs F (upd H a (.dK [])) := Stp.newN na
    refine a4 _ _ _ _ _ _ _ _ S1 (V.step x0) w fun ps ds cs2 F2 H2 h2 x12 S3 rs q2 => ?_
    split at q2
    · rename_i kps e
      obtain ⟨q3, q4, q2⟩ := q2
      have here : upd H a (.dK []) a = some (.dK []) := upd_same
      have hc : a ∉ cs := fun z => by
        obtain ⟨n, hn⟩ := List.mem_iff_getElem?.mp z
        exact (S.cell n a hn).some na
      have hF : F a = none := by
        cases q : F a with
        | none => rfl
        | some u => rw [S.sub _ _ q] at na; cases na
      have e2 : H2 a = some (.dK []) := x12.k a _ here hc
      have hF2 : F2 a = none := by
        cases q : F2 a with
        | none => rfl
        | some u =>
          have := x12.n a hF (by rw [q]; simp)
          rw [here] at this; cases this
      have hn2 : a ∉ cs2 := fun z => by
        have := x12.m a z hc
        rw [here] at this; cases this
      obtain ⟨kvs, g1, g2⟩ := pairs_rep rs e
      refine ⟨e2, kvs, g1, by rw [g2.length]; exact q3, ?_⟩
      exact p a (.dct (mergeA [] kps)) cs2 F2 _ h2 ((x0.trans x12).chgNew na) (S3.chgN hF2 hn2) na hF2 hn2 ⟨_, upd_same, g2.merge .nil⟩ q2
    · exact q2.elim
  exact key hsz
theorem n_dct0 {pos : Pos} : SN C Cl X .dct0 (.Dict [] [] pos) := fun ρ h Q σ cs F H R S V w p => by
  simp only [WpN] at w
  exact we_of pe_dnewK fun a ha => p.made S ha (show COk X.K Cl cs F _ a (.dct []) from ⟨_, upd_same, .nil⟩) w
theorem n_dictOf {a : E} {id : Str} {p1 pos : Pos} {y : Expr} (O : XOk C T Cl X) (h0 : id = "dict") (h1 : glB X.env.scope id = true) (hy : notStar y = true) (ha : SE C Cl X false a y) : SN C Cl X (.dictOf a) (.Call (.Name id p1) [y] [] pos) := fun ρ h Q σ cs F H R S V w p => by
  simp only [WpN] at w
  subst h0
  refine we_of (pe_callTy call_dictD (glB_ok h1) (O.blt _ (by decide +kernel)) (by decide +kernel) (pa_cons pe_we pa_nil (star_cons hy _ _)) (by decide +kernel) (by decide +kernel) (star_cons hy _ _)) ?_
  refine ha _ _ _ _ _ _ _ _ S V w fun v1 d1 cs1 F1 H1 h1 x1 S1 r1 q1 => ?_
  split at q1
  · rename_i xs hv
    obtain ⟨a, vs, rfl, hq, r⟩ := r1.viewD S1 hv
    exact ⟨a, vs, rfl, hq, fun a ha => (p.lift x1).made S1 ha (show COk X.K Cl cs1 F1 _ a (.dct xs) from ⟨_, upd_same, r⟩) q1⟩
  · exact q1.elim
theorem reps_ints {K : PySem.W.Frag} {cs : List Addr} {F : Hp} : ∀ ns : List Int, Reps K cs F (ns.map V.int) (ns.map AV.int)
  | [] => .nil
  | n :: ns => .cons (.int n) (reps_ints ns)
theorem n_sorted {a : E} {id : Str} {p1 pos : Pos} {y : Expr} (O : XOk C T Cl X) (h0 : id = "sorted") (h1 : glB X.env.scope id = true) (hy : notStar y = true) (ha : SE C Cl X false a y) : SN C Cl X (.sorted a) (.Call (.Name id p1) [y] [] pos) := fun ρ h Q σ cs F H R S V w p => by
  simp only [WpN] at w
  subst h0
  refine we_of (pe_callB cr_sortedI (glB_ok h1) (O.blt _ (by decide +kernel)) (by decide +kernel) (pa_cons pe_we pa_nil (star_cons hy _ _)) (by decide +kernel) (by decide +kernel) (star_cons hy _ _)) ?_
  refine ha _ _ _ _ _ _ _ _ S V w fun v1 d1 cs1 F1 H1 h1 x1 S1 r1 q1 => ?_
  split at q1
  · rename_i ns hv
    obtain ⟨xs, hv1, hv2⟩ := Option.bind_eq_some_iff.mp hv
    obtain ⟨a, vs, rfl, hq, r⟩ := r1.view S1 hv1
    rw [r.ints hv2] at hq
    exact ⟨a, ns, rfl, hq, fun ns' p1 g1 g2 g3 => (p.lift x1).made S1 g3 (show COk X.K Cl cs1 F1 _ p1 (.lst (ns'.map .int)) from ⟨_, upd_same, reps_ints ns'⟩) (q1 ns' g1 g2)⟩
  · exact q1.elim
theorem n_rngL {a c : E} {id id2 : Str} {p1 p2 pos pos2 : Pos} {y z : Expr} (O : XOk C T Cl X) (h0 : id = "list") (h1 : glB X.env.scope id = true) (h2 : id2 = "range") (h3 : glB X.env.scope id2 = true) (hy : notStar y = true) (hz : notStar z = true) (ha : SE C Cl X false a y) (hc : SE C Cl X false c z) :
    SN C Cl X (.rngL a c) (.Call (.Name id p1) [.Call (.Name id2 p2) [y, z] [] pos2] [] pos) := fun ρ h Q σ cs F H R S V w p => by
  simp only [WpN] at w
  subst h0 h2
  refine we_of (pe_listRgW O.calm (glB_ok h1) (O.blt _ (by decide +kernel)) (prg_2 (glB_ok h3) (O.blt _ (by decide +kernel)) pe_we pe_we (star_cons hy _ _) (star_cons hz _ _) (star_all (es := [z]) (by rw [List.all_cons, hz]; rfl) _ _)) rfl) ?_
  refine ha _ _ _ _ _ _ _ _ S V w fun v1 d1 cs1 F1 H1 h1 x1 S1 r1 q1 => ?_
  refine hc _ _ _ _ _ _ _ _ S1 (V.step x1) q1 fun v2 d2 cs2 F2 H2 h2 x2 S2 r2 q2 => ?_
  split at q2
  · rename_i i n
    obtain ⟨b5, q2⟩ := q2
    cases r1.int
    cases r2.int
    refine ⟨i, n, rfl, rfl, b5, fun q hq => (p.lift (x1.trans x2)).made S2 hq (show COk X.K Cl cs2 F2 _ q (.lst ((List.range (n - i).toNat).map fun (k : Nat) => .int (i + (k : Int)))) from ⟨_, upd_same, ?_⟩) q2⟩
    unfold rgV
    have := reps_ints (K := X.K) (cs := cs2) (F := F2) ((List.range (n - i).toNat).map fun (k : Nat) => i + (k : Int))
    rw [List.map_map, List.map_map] at this
    exact this
  · exact q2.elim
theorem n_rev {a : E} {l : Expr} {k : Nat} {p1 p2 p3 pos : Pos} (ha : SE C Cl X true a l) : SN C Cl X (.rev a) (.Subscript l (.Slice none none (some (.UnaryOp .USub (.Constant (.int 1) k p1) p2)) p3) pos) := fun ρ h Q σ cs F H R S V w p => by
  simp only [WpN] at w
  refine we_of (pe_revL pe_we) (ha _ _ _ _ _ _ _ _ S V w fun v1 d1 cs1 F1 H1 h1 x1 S1 r1 q1 => ?_)
  split at q1
  · rename_i xs hv
    obtain ⟨a, vs, rfl, hq, r⟩ := r1.view S1 hv
    exact ⟨a, vs, rfl, hq, fun a ha => (p.lift x1).made S1 ha (show COk X.K Cl cs1 F1 _ a (.lst xs.reverse) from ⟨_, upd_same, r.rev⟩) q1⟩
  · exact q1.elim

/-! ### what is walked -/
/-- from where the walk began: st, also through what the frame owns -/
def Rl (st : Bool) (cs : List Addr) (F H : Hp) (cs' : List Addr) (F' H' : Hp) : Prop := match st with
  | true => Stp cs F H cs' F' H'
  | false => Ex F F' ∧ ∃ r, cs' = cs ++ r
theorem Rl.of {st : Bool} (x : Stp cs F H cs' F' H') : Rl st cs F H cs' F' H' := by
  cases st with
  | true => exact x
  | false => exact ⟨x.f, x.c⟩
def IOk (K : PySem.W.Frag) (Cl : Nat → Addr) (st : Bool) (cs : List Addr) (F H : Hp) (Q : List AV → (AHeap → Prop) → AHeap → Prop) (R : L2.It → Hp → Prop) : Prop :=
  ∀ J items chk G Y cs' F' H' h', Stp cs F H cs' F' H' → StOk K Cl cs' F' H' h' → L2.Walk J items.length G Y →
    (∀ cs2 F2 H2 h2, Rl st cs' F' H' cs2 F2 H2 → StOk K Cl cs2 F2 H2 h2 → chk h2 → G H2) →
    (∀ i H2 v H3 cs2 F2 h2 d, StOk K Cl cs2 F2 H2 h2 → Ex F' F2 → (∃ r, cs2 = cs' ++ r) → items[i]? = some d → chk h2 → Y i H2 v H3 → ∃ F3, Stp cs2 F2 H2 cs2 F3 H3 ∧ StOk K Cl cs2 F3 H3 h2 ∧ Rep K cs2 F3 v d) →
    Q items chk h' → R J H'
def WI (X : Cx) (tg iter : Expr) : TI := fun σ H R => ∀ pins s, Inv X pins σ H s → wpAny (model X.prog X.w) X.A (eval iter X.env) (fun v s1 => wpAny (model X.prog X.w) X.A (pyIter v) (PIE X pins σ tg R) X.xe s1) X.xe s
theorem pi_we {tg iter : Expr} : PI X tg iter (WI X tg iter) := ⟨fun pins s σ H R I h => h pins s I⟩
theorem wi_of {tg iter : Expr} {t : TI} (p : PI X tg iter t) {σ : L2.St} {H : Hp} {R : L2.It → Hp → Prop} (h : t σ H R) : WI X tg iter σ H R := fun pins s I => p.run pins s σ H R I h
def SI (C : Ctx) (Cl : Nat → Addr) (X : Cx) (st : Bool) (tg : Expr) (e : It) (x : Expr) : Prop := ∀ ρ h Q σ cs F H (R : L2.It → Hp → Prop), StOk X.K Cl cs F H h → EnvOk X.K Cl cs F H σ ρ → WpI C e ρ h Q → IOk X.K Cl st cs F H Q R → WI X tg x σ H R
theorem i_rng1 {st : Bool} {tg : Expr} {a : E} {id : Str} {p1 pos : Pos} {y : Expr} (O : XOk C T Cl X) (h0 : id = "range") (h1 : glB X.env.scope id = true) (hy : notStar y = true) (ha : SE C Cl X false a y) : SI C Cl X st tg (.rng1 a) (.Call (.Name id p1) [y] [] pos) := fun ρ h Q σ cs F H R S V w p => by
  simp only [WpI] at w
  subst h0
  refine wi_of (pi_range1 (glB_ok h1) (O.blt _ (by decide +kernel)) (pa_cons pe_we pa_nil (star_cons hy _ _)) (star_cons hy _ _)) ?_
  refine ha _ _ _ _ _ _ _ _ S V w fun v1 d1 cs1 F1 H1 h1 x1 S1 r1 q1 => ?_
  split at q1
  · rename_i n
    cases r1.int
    refine ⟨n, rfl, q1.1.1, q1.1.2, p _ _ _ (fun _ => True) (YFn fun i => .int (0 + i)) _ _ _ _ x1 S1 (by rw [List.length_map, List.length_range]; exact walk_range) (fun _ _ _ _ _ _ _ => trivial) ?_ q1.2⟩
    intro i H2 v H3 cs2 F2 h2 d S e c hd _ ⟨y1, y2⟩
    subst y1 y2
    rw [List.getElem?_map] at hd
    obtain ⟨j, hj, rfl⟩ := Option.map_eq_some_iff.mp hd
    have hj' := (List.getElem?_eq_some_iff.mp hj).2
    simp at hj'
    subst hj'
    refine ⟨F2, .refl, S, ?_⟩
    show Rep X.K cs2 F2 (.int (0 + (i : Int))) (.int (i : Int))
    rw [Int.zero_add]
    exact .int _
  · exact q1.elim
theorem i_rvR {st : Bool} {tg : Expr} {a : E} {id id2 : Str} {p1 p2 pos pos2 : Pos} {y : Expr} (O : XOk C T Cl X) (h0 : id = "reversed") (h1 : glB X.env.scope id = true) (g0 : id2 = "range") (g1 : glB X.env.scope id2 = true) (hy : notStar y = true) (ha : SE C Cl X false a y) : SI C Cl X st tg (.rvR a) (.Call (.Name id p1) [.Call (.Name id2 p2) [y] [] pos2] [] pos) := fun ρ h Q σ cs F H R S V w p => by
  simp only [WpI] at w
  subst h0 g0
  refine wi_of (pi_revR (glB_ok h1) (O.blt _ (by decide +kernel)) (prg_1 (glB_ok g1) (O.blt _ (by decide +kernel)) pe_we (star_cons hy _ _)) rfl) ?_
  refine ha _ _ _ _ _ _ _ _ S V w fun v1 d1 cs1 F1 H1 h1 x1 S1 r1 q1 => ?_
  split at q1
  · rename_i n
    cases r1.int
    refine ⟨n, rfl, by omega, by omega, q1.1.1, q1.1.2, p _ _ _ (fun _ => True) (YFn fun i => .int (0 + (((n - 0).toNat : Nat) : Int) - 1 + (i : Nat) * (-1))) _ _ _ _ x1 S1 (by
      have e : (n - 0).toNat = n.toNat := by rw [Int.sub_zero]
      rw [List.length_map, List.length_range, e]; exact walk_rangeC) (fun _ _ _ _ _ _ _ => trivial) ?_ q1.2⟩
    intro i H2 v H3 cs2 F2 h2 d S e c hd _ ⟨y1, y2⟩
    subst y1 y2
    rw [List.getElem?_map] at hd
    obtain ⟨j, hj, rfl⟩ := Option.map_eq_some_iff.mp hd
    obtain ⟨hj1, hj2⟩ := List.getElem?_eq_some_iff.mp hj
    have hj' : i = j := by simpa using hj2
    subst hj'
    rw [List.length_range] at hj1
    refine ⟨F2, .refl, S, ?_⟩
    have ev : (0 : Int) + (((n - 0).toNat : Nat) : Int) - 1 + (i : Nat) * (-1) = n - 1 - (i : Int) := by omega
    show Rep X.K cs2 F2 (.int ((0 : Int) + (((n - 0).toNat : Nat) : Int) - 1 + (i : Nat) * (-1))) (.int (n - 1 - (i : Int)))
    rw [ev]
    exact .int _
  · exact q1.elim
theorem i_rng2 {st : Bool} {tg : Expr} {a c : E} {id : Str} {p1 pos : Pos} {y z : Expr} (O : XOk C T Cl X) (h0 : id = "range") (h1 : glB X.env.scope id = true) (hy : notStar y = true) (hz : notStar z = true) (ha : SE C Cl X false a y) (hc : SE C Cl X false c z) :
    SI C Cl X st tg (.rng2 a c) (.Call (.Name id p1) [y, z] [] pos) := fun ρ h Q σ cs F H R S V w p => by
  simp only [WpI] at w
  subst h0
  refine wi_of (pi_range2W (glB_ok h1) (O.blt _ (by decide +kernel)) (pa_cons pe_we (pa_cons pe_we pa_nil (star_cons hz _ _)) (star_cons hy _ _)) (by rw [star_cons hy, star_cons hz]; rfl) (star_cons hz _ _)) ?_
  refine ha _ _ _ _ _ _ _ _ S V w fun v1 d1 cs1 F1 H1 h1 x1 S1 r1 q1 => ?_
  refine hc _ _ _ _ _ _ _ _ S1 (V.step x1) q1 fun v2 d2 cs2 F2 H2 h2 x2 S2 r2 q2 => ?_
  split at q2
  · rename_i i0 n
    cases r1.int
    cases r2.int
    refine ⟨i0, n, rfl, p _ _ _ (fun _ => True) (YFn fun i => .int (i0 + i)) _ _ _ _ (x1.trans x2) S2 (by simpa using walk_range) (fun _ _ _ _ _ _ _ => trivial) ?_ q2.2⟩
    intro i H2 v H3 cs2 F2 h2 d S e c hd _ ⟨y1, y2⟩
    subst y1 y2
    rw [List.getElem?_map] at hd
    obtain ⟨j, hj, rfl⟩ := Option.map_eq_some_iff.mp hd
    have hj' := (List.getElem?_eq_some_iff.mp hj).2
    simp at hj'
    subst hj'
    exact ⟨F2, .refl, S, .int _⟩
  · exact q2.elim
theorem i_chars {st : Bool} {tg : Expr} {a : E} {x : Expr} (ha : SE C Cl X false a x) : SI C Cl X st tg (.chars a) x := fun ρ h Q σ cs F H R S V w p => by
  simp only [WpI] at w
  refine wi_of (pi_str pe_we) (ha _ _ _ _ _ _ _ _ S V w fun v1 d1 cs1 F1 H1 h1 x1 S1 r1 q1 => ?_)
  split at q1
  · rename_i z
    cases r1.str
    refine ⟨z, rfl, p _ _ _ (fun _ => True) _ _ _ _ _ x1 S1 (by simpa using walk_str) (fun _ _ _ _ _ _ _ => trivial) ?_ q1⟩
    intro i H2 v H3 cs2 F2 h2 d S e c hd _ ⟨y1, cc, y2, y3⟩
    subst y1 y3
    rw [List.getElem?_map] at hd
    obtain ⟨j, hj, rfl⟩ := Option.map_eq_some_iff.mp hd
    have : z.cps[i]? = some j := by simpa using hj
    rw [y2] at this
    cases this
    exact ⟨F2, .refl, S, .str _⟩
  · exact q1.elim
theorem keys_reps {K : PySem.W.Frag} {cs : List Addr} {F : Hp} {us : List (Key × V)} {kvs : List (Key × AV)} (r : RepK K cs F us kvs) {i : Nat} {k : Key} {v : V} (e : us[i]? = some (k, v)) : ∃ d, kvs[i]? = some (k, d) := by
  induction us generalizing kvs i with
  | nil => simp at e
  | cons u us ih =>
    cases r with
    | cons r rs =>
      cases i with
      | zero => simp at e ⊢; exact e.1
      | succ i => simp at e ⊢; exact ih rs e
theorem i_keys {st : Bool} {tg : Expr} {a : E} {x : Expr} (ha : SE C Cl X false a x) : SI C Cl X st tg (.keys a) x := fun ρ h Q σ cs F H R S V w p => by
  simp only [WpI] at w
  refine wi_of (pi_keys pe_we) (ha _ _ _ _ _ _ _ _ S V w fun v1 d1 cs1 F1 H1 h1 x1 S1 r1 q1 => ?_)
  split at q1
  · rename_i kvs
    have r1' := r1.plain
    cases r1' with
    | dct g1 g2 =>
      rename_i a o us
      refine ⟨a, o, rfl, .inl ⟨us, S1.sub _ _ g1, ?_⟩⟩
      refine p _ _ _ (fun H => H a = some (.frz o (.dK us))) _ _ _ _ _ x1 S1 (by rw [List.length_map, ← g2.length]; exact walk_keys) (fun cs2 F2 H2 h2 rl S2 _ => ?_) ?_ q1
      · have mo : Ex F1 F2 := by
          cases st with
          | true => exact Stp.f rl
          | false => exact rl.1
        exact S2.sub _ _ (mo _ _ g1)
      · intro i H2 v H3 cs2 F2 h2 d S e c hd _ ⟨y1, k, u, y2, y3⟩
        subst y1 y3
        obtain ⟨d0, hk⟩ := keys_reps g2 y2
        rw [List.getElem?_map, hk] at hd
        cases hd
        refine ⟨F2, .refl, S, ?_⟩
        cases k with
        | inl i => exact .int i
        | inr z => exact .str z
  · exact q1.elim
/-- a list or a tuple that zip goes through: it stays as it is -/
theorem zs_rep {K : PySem.W.Frag} {cs : List Addr} {F : Hp} {v : V} {d : AV} {xs : List AV} (e : zs d = some xs) (r : Rep K cs F v d) : ∃ a k vs, v = .ref a ∧ (∀ F' H' : Hp, Ex F F' → Ex F' H' → SqB K k H' a vs) ∧ Reps K cs F vs xs := by
  cases d <;> simp only [zs] at e <;> try cases e
  · cases r with
    | tup g1 g2 => exact ⟨_, true, _, rfl, fun F' H' m s => ex_t s (ex_t m g1), g2⟩
  · cases r with
    | lst g1 g2 => exact ⟨_, false, _, rfl, fun F' H' m s => sq_of (s _ _ (m _ _ g1)), g2⟩
theorem i_zip {st : Bool} {tg : Expr} {a c : E} {id : Str} {p1 pos : Pos} {y z : Expr} (O : XOk C T Cl X) (h0 : id = "zip") (h1 : glB X.env.scope id = true) (hy : notStar y = true) (hz : notStar z = true) (ht : ∃ es k tp, tg = .Tuple es k tp) (ha : SE C Cl X false a y) (hc : SE C Cl X false c z) :
    SI C Cl X st tg (.zip a c) (.Call (.Name id p1) [y, z] [] pos) := fun ρ h Q σ cs F H R S V w p => by
  simp only [WpI] at w
  subst h0
  obtain ⟨es, kk, tp, rfl⟩ := ht
  refine wi_of (pi_zipB (glB_ok h1) (O.blt _ (by decide +kernel)) (pa_cons pe_we (pa_cons pe_we pa_nil (star_cons hz _ _)) (star_cons hy _ _)) (star_cons hy _ _) (star_all (es := [z]) (by rw [List.all_cons, hz]; rfl) _ _)) ?_
  refine ha _ _ _ _ _ _ _ _ S V w fun v1 d1 cs1 F1 H1 h1 x1 S1 r1 q1 => ?_
  refine hc _ _ _ _ _ _ _ _ S1 (V.step x1) q1 fun v2 d2 cs2 F2 H2 h2 x2 S2 r2 q2 => ?_
  split at q2
  · rename_i xs ys ex ey
    obtain ⟨a1, k1, vs, e1, st1, g2⟩ := zs_rep ex (r1.step x2).plain
    obtain ⟨a2, k2, ws, e2, st2, g3⟩ := zs_rep ey r2.plain
    subst e1 e2
    refine ⟨a1, a2, k1, k2, vs, ws, rfl, st1 _ _ (fun _ _ z => z) S2.sub, st2 _ _ (fun _ _ z => z) S2.sub, ?_⟩
    refine p _ _ _ (fun H => SqB X.K k1 H a1 vs ∧ SqB X.K k2 H a2 ws) _ _ _ _ _ (x1.trans x2) S2 (walk_zipB (by rw [List.length_map, List.length_zip, g2.length, g3.length])) (fun cs3 F3 H3 h3 rl S3 _ => ?_) ?_ q2
    · have mo : Ex F2 F3 := by
        cases st with
        | true => exact Stp.f rl
        | false => exact rl.1
      exact ⟨st1 _ _ mo S3.sub, st2 _ _ mo S3.sub⟩
    · intro i H3 v H4 cs3 F3 h3 d S e c hd _ ⟨T, x, y, y1, y2, y3, y4, y5⟩
      subst y1 y3
      obtain ⟨da, ha, ra⟩ := g2.get' y4
      obtain ⟨db, hb, rb⟩ := g3.get' y5
      have hd' : d = .tup [da, db] := by
        rw [List.getElem?_map, List.getElem?_zip_eq_some (z := (da, db)) |>.mpr ⟨ha, hb⟩] at hd
        cases hd; rfl
      subst hd'
      refine ⟨upd F3 T (.tup [x, y]), Stp.newF S y2, S.newF y2, .tup (.inl (.inl upd_same)) ?_⟩
      have hF : F3 T = none := by
        cases q : F3 T with
        | none => rfl
        | some u => rw [S.sub _ _ q] at y2; cases y2
      exact .cons ((ra.mono e c).mono (Ex.new hF) ⟨[], by simp⟩) (.cons ((rb.mono e c).mono (Ex.new hF) ⟨[], by simp⟩) .nil)
  · exact q2.elim
theorem WpI_seq_vw {i : Nat} {ρ : Env} {h : AHeap} {Q} (w : WpI C (.seq (.vw i)) ρ h Q) : False := by
  simp only [WpI, WpE] at w
/-- a list or a tuple: which of the two shows where it is walked -/
theorem pi_seq {tg iter : Expr} {te : TE} (he : PE X iter te) : PI X tg iter (fun σ H R => te σ H fun x H1 => ∃ a, x = .ref a ∧ (((∃ xs, SqL X.K H1 a xs) ∧ R (Itl X.K a) H1) ∨ ((∃ xs, SqT X.K H1 a xs) ∧ R (Itt X.K a) H1))) := by
  refine ⟨fun pins s σ H R I h => ?_⟩
  refine thn (he.run pins s σ H _ I h) fun v s1 ⟨x, H1, I1, r1, a, e, q⟩ => ?_
  subst e
  rcases q with ⟨⟨xs, hq⟩, q⟩ | ⟨⟨xs, hq⟩, q⟩
  · obtain ⟨its, rv, pl, hz⟩ := I1.list hq
    cases r1
    have fresh : H1 s1.heap.objs.size = none := I1.hok.fresh (Nat.le_refl _)
    refine wpAny_pyIter_list pl.isList ⟨s1.heap.objs.size, [s1.heap.objs.size], _, Itl X.K a, H1, rfl, ?_, turn_list a _, ?_, ?_, q⟩
    · exact I1.kept (t' := s1.toks) fun _ _ z => Heap.get?_push_of_some _ z
    · exact ⟨_, Heap.get?_push_size _ rfl, rfl, rfl⟩
    · intro c hc
      obtain rfl : c = s1.heap.objs.size := by simpa using hc
      exact I1.fpOk (Nat.le_refl _) fresh
  · obtain ⟨its, rv, pl, hz⟩ := I1.tuple hq
    cases r1
    have fresh : H1 s1.heap.objs.size = none := I1.hok.fresh (Nat.le_refl _)
    refine wpAny_pyIter_tuple (show s1.heap.IsTuple a its.toArray from pl) ⟨s1.heap.objs.size, [s1.heap.objs.size], _, Itt X.K a, H1, rfl, ?_, turn_tuple a _, ?_, ?_, q⟩
    · exact I1.kept (t' := s1.toks) fun _ _ z => Heap.get?_push_of_some _ z
    · exact ⟨_, Heap.get?_push_size _ rfl, rfl, rfl⟩
    · intro c hc
      obtain rfl : c = s1.heap.objs.size := by simpa using hc
      exact I1.fpOk (Nat.le_refl _) fresh
theorem i_seq {st : Bool} {tg : Expr} {a : E} {x : Expr} (ha : SE C Cl X false a x) : SI C Cl X st tg (.seq a) x := fun ρ h Q σ cs F H R S V w p => by
  simp only [WpI] at w
  refine wi_of (pi_seq pe_we) (ha _ _ _ _ _ _ _ _ S V w fun v1 d1 cs1 F1 H1 h1 x1 S1 r1 q1 => ?_)
  split at q1
  · rename_i items hv
    have r1' := r1.plain
    rcases viewT_eq hv with e | hv'
    · subst e
      cases r1' with
      | tup g1 g2 =>
        rename_i a vs
        refine ⟨a, rfl, .inr ⟨⟨vs, ex_t S1.sub g1⟩, p _ items _ (fun H => SqT X.K H a vs) (YAt vs) _ _ _ _ x1 S1 (by rw [← g2.length]; exact walk_tup) (fun cs2 F2 H2 h2 rl S2 _ => ?_) ?_ q1⟩⟩
        · have mo : Ex F1 F2 := by
            cases st with
            | true => exact Stp.f rl
            | false => exact rl.1
          exact ex_t S2.sub (ex_t mo g1)
        · intro i H2 v H3 cs2 F2 h2 d S e c hd _ ⟨y1, y2⟩
          subst y1
          obtain ⟨v', e1, r2⟩ := g2.get hd
          rw [y2] at e1
          cases e1
          exact ⟨F2, .refl, S, r2.mono e c⟩
    · obtain ⟨a, vs, e, hq, r⟩ := r1.view S1 hv'
      have stay : ∀ cs2 F2 H2 h2, Ex F1 F2 → (∃ r, cs2 = cs1 ++ r) → StOk X.K Cl cs2 F2 H2 h2 → viewT h2 d1 = some items → ∃ vs2, SqL X.K H2 a vs2 ∧ Reps X.K cs2 F2 vs2 items := by
        intro cs2 F2 H2 h2 m1 m2 S2 hv2
        have r2 : RepB X.K cs2 F2 H2 false v1 d1 := .inl (r1'.mono m1 m2)
        have hv3 : view h2 d1 = some items := by
          rcases viewT_eq hv2 with z | z
          · subst z
            simp [VL.view] at hv'
          · exact z
        obtain ⟨a2, vs2, e2, hq2, rr⟩ := r2.view S2 hv3
        rw [e] at e2
        cases e2
        exact ⟨vs2, hq2, rr⟩
      refine ⟨a, e, .inl ⟨⟨vs, hq⟩, p (Itl X.K a) items _ (fun H => ∃ vs2, SqL X.K H a vs2 ∧ vs2.length = items.length) (fun i H v H' => H' = H ∧ ∀ vs2, SqL X.K H a vs2 → vs2[i]? = some v) _ _ _ _ x1 S1 ?_ (fun cs2 F2 H2 h2 rl S2 hc => ?_) ?_ q1⟩⟩
      · refine ⟨fun i H hi ⟨vs2, g1, g2⟩ => ⟨vs2, vs2[i], g1, by simp [hi, g2]⟩, fun H ⟨vs2, g1, g2⟩ => ⟨vs2, g1, Nat.le_of_eq g2⟩, fun i H v H' hi _ y => y⟩
      · have mo : Ex F1 F2 ∧ ∃ r, cs2 = cs1 ++ r := by
          cases st with
          | true => exact ⟨Stp.f rl, Stp.c rl⟩
          | false => exact rl
        obtain ⟨vs2, g1, g2⟩ := stay cs2 F2 H2 h2 mo.1 mo.2 S2 hc
        exact ⟨vs2, g1, g2.length⟩
      · intro i H2 v H3 cs2 F2 h2 d S2 e c hd hc ⟨y1, y2⟩
        subst y1
        obtain ⟨vs2, g1, g2⟩ := stay cs2 F2 H3 h2 e c S2 hc
        obtain ⟨v', e1, r2⟩ := g2.get hd
        rw [y2 vs2 g1] at e1
        cases e1
        exact ⟨F2, .refl, S2, r2⟩
  · exact q1.elim
theorem i_own {tg : Expr} {i : Nat} {x : Expr} (hag : agVar X.env.scope X.N i x = true) : SI C Cl X true tg (.own i) x := fun ρ h Q σ cs F H R S V w p => by
  unfold agVar at hag
  split at hag
  · rename_i id pos
    simp only [Bool.and_eq_true, decide_eq_true_eq] at hag
    obtain ⟨⟨h1, h2⟩, h3⟩ := hag
    obtain ⟨n1, n2, _⟩ := plainName_ok h3
    simp only [WpI] at w
    split at w
    · rename_i items hd
      obtain ⟨a, e1, e2, e3, vs, e4, r⟩ := V.own i _ hd
      refine wi_of (pi_list (pe_var h1 (visB_ok h2) n1 n2)) ⟨_, e1, a, rfl, ⟨vs, sq_of e4⟩, p _ items _ (fun H => SqL X.K H a vs) (YAt vs) _ _ _ _ .refl S (by rw [← r.length]; exact walk_list) (fun cs2 F2 H2 h2 rl S2 _ => ?_) ?_ w⟩
      · exact sq_of (Stp.k rl _ _ e4 e2)
      · intro j H2 v H3 cs2 F2 h2 d S2 e c hd _ ⟨y1, y2⟩
        subst y1
        obtain ⟨v', g1, r2⟩ := r.get hd
        rw [y2] at g1
        cases g1
        exact ⟨F2, .refl, S2, r2.mono e c⟩
    · exact w.elim
  · cases hag

/-! ### targets -/
def gNames : List Nat → TGs
  | [] => gNil
  | i :: is => gCons (gName i) (gNames is)
def gOf (K : PySem.W.Frag) : Tg → TG
  | .nm i => gName i
  | .tup is => fun v σ H Q => gTup K is.length (gNames is) v σ H Q ∨ gUnl K is.length (gNames is) v σ H Q
/-- a name that may be stored to in this context -/
def Sto (sc0 : Scope) (X : Cx) : Prop := ∀ id, tgN sc0 X.env.scope id = true → Loc X.env.scope id ∧ (X.fn id = true ∨ X.env.scope.names.lookup id = some .local)
theorem pgs_names {sc0 : Scope} (nd : X.N.Nodup) (st : Sto sc0 X) : ∀ {is : List Nat} {es : List Expr}, agNames sc0 X.env.scope X.N is es = true → PGs X es (gNames is) ∧ (assignEach es X.env).length = is.length ∧ (assignEach es X.env).findIdx? (·.1) = none
  | [], [], _ => ⟨pgs_nil, rfl, rfl⟩
  | [], _ :: _, h => by simp [agNames] at h
  | i :: is, [], h => by simp [agNames] at h
  | i :: is, e :: es, h => by
    cases e <;> simp [agNames] at h
    rename_i id pos
    obtain ⟨⟨h1, h2⟩, h3⟩ := h
    obtain ⟨g1, g2, g3⟩ := pgs_names nd st h3
    obtain ⟨s1, s2⟩ := st id h2
    refine ⟨pgs_cons (pg_name nd h1 s1 s2) g1 rfl, ?_, ?_⟩
    · show (assignEach es X.env).length + 1 = is.length + 1
      rw [g2]
    · show ((false, assign (.Name id pos) X.env) :: assignEach es X.env).findIdx? (·.1) = none
      rw [List.findIdx?_cons, g3] <;> rfl
theorem pg_ok {sc0 : Scope} (nd : X.N.Nodup) (calm : X.calm = true) (st : Sto sc0 X) {tg : Tg} {x : Expr} (h : agTg sc0 X.env.scope X.N tg x = true) : PG X x (gOf X.K tg) := by
  cases tg with
  | nm i =>
    cases x <;> simp [agTg] at h
    obtain ⟨s1, s2⟩ := st _ h.2
    exact pg_name nd h.1 s1 s2
  | tup is =>
    cases x <;> simp [agTg] at h
    obtain ⟨g1, g2, g3⟩ := pgs_names nd st h
    exact ⟨fun pins s σ H v u Q I r hw => hw.elim (fun z => (pg_tup calm g1 g2 g3).run pins s σ H v u Q I r z) fun z => (pg_unl calm g1 g2 g3).run pins s σ H v u Q I r z⟩
theorem sets_len {ρ' : Env} : ∀ {is : List Nat} {xs : List AV} {ρ : Env}, setsS ρ is xs = some ρ' → xs.length = is.length := by
  intro is
  induction is with
  | nil => intro xs ρ h; cases xs <;> simp [setsS] at h ⊢
  | cons i is ih => intro xs ρ h; cases xs <;> simp [setsS] at h ⊢; exact ih h
theorem tgK_tup {is : List Nat} {x : AV} {ρ : Env} {Q : Env → Prop} (w : tgK (.tup is) x ρ Q) : ∃ xs ρ', (x = .tup xs ∨ x = .lst xs) ∧ setsS ρ is xs = some ρ' ∧ Q ρ' := by
  unfold tgK at w
  simp only at w
  split at w
  · rename_i xs
    split at w
    · rename_i ρ' hs
      exact ⟨xs, ρ', .inl rfl, hs, w⟩
    · exact w.elim
  · rename_i xs
    split at w
    · rename_i ρ' hs
      exact ⟨xs, ρ', .inr rfl, hs, w⟩
    · exact w.elim
  · exact w.elim
theorem gTL_of {K : PySem.W.Frag} {cs : List Addr} {F H : Hp} (sub : Ex F H) {is : List Nat} {v : V} {d : AV} {xs : List AV} {σ : L2.St} {R : L2.St → Hp → Prop} {ρ ρ' : Env} (r : Rep K cs F v d) (e : d = .tup xs ∨ d = .lst xs) (hs : setsS ρ is xs = some ρ')
    (k : ∀ vs, Reps K cs F vs xs → gNames is vs σ H R) : gOf K (.tup is) v σ H R := by
  rcases e with rfl | rfl
  · cases r with
    | tup g1 g2 =>
      rename_i a vs
      exact .inl ⟨a, vs, rfl, ex_t sub g1, by rw [g2.length, sets_len hs], k vs g2⟩
  · cases r with
    | lst g1 g2 =>
      rename_i a vs
      exact .inr ⟨a, vs, rfl, sq_of (sub _ _ g1), by rw [g2.length, sets_len hs], k vs g2⟩
theorem sets_ok {ρ' : Env} : ∀ {is : List Nat} {xs : List AV} {vs : List V} {σ : L2.St} {ρ : Env} {R : L2.St → Hp → Prop}, EnvOk K Cl cs F H σ ρ → Reps K cs F vs xs → setsS ρ is xs = some ρ' →
    (∀ σ', EnvOk K Cl cs F H σ' ρ' → (∀ own : List Nat, (∀ i ∈ is, i ∈ own) → wipe σ' own = wipe σ own) → R σ' H) → gNames is vs σ H R
  | [], [], _, σ, ρ, R, V, .nil, e, k => by
    simp [setsS] at e
    subst e
    exact ⟨rfl, k σ V fun _ _ => rfl⟩
  | [], _ :: _, _, _, _, _, _, _, e, _ => by simp [setsS] at e
  | _ :: _, [], _, _, _, _, _, _, e, _ => by simp [setsS] at e
  | i :: is, x :: xs, _, σ, ρ, R, V, .cons r rs, e, k => by
    rename_i v vs
    simp only [setsS] at e
    refine ⟨v, vs, rfl, sets_ok (V.setV r) rs e fun σ' V' hw => k σ' V' fun own ho => ?_⟩
    rw [hw own fun j hj => ho j (List.mem_cons_of_mem _ hj)]
    exact wipe_set (ho i List.mem_cons_self)
where
  wipe_set {σ : L2.St} {i : Nat} {v : Option V} : ∀ {own : List Nat}, i ∈ own → wipe (σ.set i v) own = wipe σ own
    | j :: own, h => by
      unfold wipe
      by_cases hj : i ∈ own
      · rw [wipe_set hj]
      · have e : i = j := by
          rcases List.mem_cons.mp h with e | e
          · exact e
          · exact absurd e hj
        subst e
        have : ∀ (own : List Nat) (σ : L2.St), i ∉ own → (wipe (σ.set i v) own) = (wipe σ own).set i v := by
          intro own
          induction own with
          | nil => intro σ _; rfl
          | cons k own ih =>
            intro σ hk
            unfold wipe
            rw [ih σ fun z => hk (List.mem_cons_of_mem _ z)]
            exact List.set_comm _ _ fun z => hk (z ▸ List.mem_cons_self)
        rw [this own σ hj, List.set_set]
theorem tg_ok {σ : L2.St} {ρ : Env} {tg : Tg} {d : AV} {v : V} {Q : Env → Prop} {R : L2.St → Hp → Prop} (S : StOk K Cl cs F H h) (V : EnvOk K Cl cs F H σ ρ) (r : Rep K cs F v d) (w : tgK tg d ρ Q)
    (k : ∀ σ' ρ', EnvOk K Cl cs F H σ' ρ' → (∀ own : List Nat, (∀ i ∈ tgIds tg, i ∈ own) → wipe σ' own = wipe σ own) → Q ρ' → R σ' H) : gOf K tg v σ H R := by
  cases tg with
  | nm i =>
    exact k _ _ (V.setV r) (fun own ho => sets_ok.wipe_set (ho i (by simp [tgIds]))) w
  | tup is =>
    obtain ⟨xs, ρ', e, hs, w⟩ := tgK_tup w
    exact gTL_of S.sub r e hs fun vs g2 => sets_ok V g2 hs fun σ' V' hw => k σ' ρ' V' hw w

/-! ### comprehensions -/
def WEb (X : Cx) (scope : Scope) (e : Expr) : TE := fun σ H Q => ∀ (s : Shared) (H0 : Hp) (D : Addr) (cl : List (Str × Addr)) (fp : List Addr), WE (X.blk s H0 scope (compEnvC scope cl D X.env) fp) e σ H Q
def WTb (X : Cx) (scope : Scope) (e : Expr) : TT := fun σ H Q => ∀ (s : Shared) (H0 : Hp) (D : Addr) (cl : List (Str × Addr)) (fp : List Addr), WT (X.blk s H0 scope (compEnvC scope cl D X.env) fp) e σ H Q
/-- a test of a comprehension: none, or one -/
def WCb (X : Cx) (scope : Scope) : List Expr → TT
  | [] => tYes
  | c :: _ => WTb X scope c
theorem sto_blk {X : Cx} {scope : Scope} (s : Shared) (H0 : Hp) (D : Addr) (cl : List (Str × Addr)) (fp : List Addr) : Sto scope (X.blk s H0 scope (compEnvC scope cl D X.env) fp) := fun id h => by
  unfold tgN at h
  simp only [Bool.or_eq_true, Bool.and_eq_true, decide_eq_true_eq] at h
  rcases h with ⟨h1, h2⟩ | ⟨h1, h2⟩
  · exact ⟨.inl h2, .inr h2⟩
  · refine ⟨.inr h2, .inl ?_⟩
    show (scope.names.lookup id == some .cell) = true
    rw [h1]; rfl
theorem wipe_in {i : Nat} : ∀ {own : List Nat} (σ : L2.St), i ∈ own → (wipe σ own)[i]? = if i < σ.length then some none else none
  | j :: own, σ, hi => by
    unfold wipe
    by_cases hj : j = i
    · subst hj
      rw [List.getElem?_set]
      simp [wipe_length]
    · rw [List.getElem?_set_ne hj]
      exact wipe_in σ (by simpa [Ne.symm hj] using hi)
theorem wipe_idem {σ : L2.St} {own : List Nat} : wipe (wipe σ own) own = wipe σ own := by
  apply List.ext_getElem?
  intro i
  by_cases hi : i ∈ own
  · rw [wipe_in _ hi, wipe_in _ hi, wipe_length]
  · rw [wipe_out hi]
def compB (C : Ctx) (elt : E) (tg : Tg) (cond : Oe) (own : List Nat) (ρ : Env) : AV → AHeap → (Option AV → AHeap → Prop) → Prop := fun x h2 R => tgK tg x (wipeS ρ own) fun ρ2 => WpC C cond ρ2 h2 fun k h3 =>
  if k = true then WpE C false elt ρ2 h3 fun y h4 => R (some y) h4 else R none h3
/-- what stands between two turns of a comprehension -/
def CInv (K : PySem.W.Frag) (Cl : Nat → Addr) (cs1 : List Addr) (F1 H1 : Hp) (B : AV → AHeap → (Option AV → AHeap → Prop) → Prop) (chk : AHeap → Prop) (items : List AV) (Q : List AV → AHeap → Prop) (D : Addr) (i : Nat) (H' : Hp) : Prop :=
  ∃ cs2 F2 h2 acc vs, Stp cs1 F1 H1 cs2 F2 H' ∧ StOk K Cl cs2 F2 H' h2 ∧ H' D = some (.lst vs) ∧ Reps K cs2 F2 vs acc ∧ D ∉ cs2 ∧ F2 D = none ∧ acc.length ≤ i ∧ compL B chk (items.drop i) acc h2 Q
theorem n_comp {elt : E} {tg : Tg} {it : It} {cond : Oe} {own : List Nat} {y t i : Expr} {ifs : List Expr} {scope : Scope} {pos : Pos} (O : XOk C T Cl X) (hb : BlkOk X.N X.env.scope scope (ownP X.N own)) (ho : ∀ i ∈ tgIds tg, i ∈ own)
    (ht : agTg scope (relS scope X.env.scope) X.N tg t = true) (hi : SI C Cl X true t it i) (hs : notSet i = true) (he : ∀ s H0 D cl fp, SE C Cl (X.blk s H0 scope (compEnvC scope cl D X.env) fp) false elt y)
    (hc : (ifs = [] ∧ cond = .no) ∨ ∃ c e, ifs = [c] ∧ cond = .so e ∧ ∀ s H0 D cl fp, ST C Cl (X.blk s H0 scope (compEnvC scope cl D X.env) fp) e c) : ∀ ρ h Q σ cs F H R, StOk X.K Cl cs F H h → EnvOk X.K Cl cs F H σ ρ → WpN C (.comp elt tg it cond own) ρ h Q → NOk X.K Cl cs F H Q R →
      tLc (WI X t i) (gOf X.K tg) (WCb X scope ifs) (WEb X scope y) own σ H R := fun ρ h Q σ cs F H R S V w p => by
  simp only [WpN] at w
  unfold tLc
  refine hi _ _ _ _ _ _ _ _ S V w fun J items chk G Y cs1 F1 H1 h1 x1 S1 wk hG hY q1 => ?_
  obtain ⟨hlen, q1⟩ := q1
  intro D hD
  have hF1 : F1 D = none := by
    cases w : F1 D with
    | none => rfl
    | some u => rw [S1.sub _ _ w] at hD; cases hD
  have hc1 : D ∉ cs1 := fun z => by
    obtain ⟨n, hn⟩ := List.mem_iff_getElem?.mp z
    exact (S1.cell n D hn).some hD
  refine lc_it wk (CInv X.K Cl cs1 F1 H1 (compB C elt tg cond own ρ) chk items (fun acc h2 => Q (.lst acc) h2) D) ?_ ?_ ?_ ?_
  · exact ⟨cs1, F1, h1, [], [], .newN hD, S1.newN hD, upd_same, .nil, hc1, hF1, Nat.le_refl _, q1⟩
  · rintro j H' hj ⟨cs2, F2, h2, acc, vs, x2, S2, e1, e2, e3, e4, e5, e6⟩
    refine hG cs2 F2 H' h2 x2 S2 ?_
    cases hd : items.drop j with
    | nil => rw [hd] at e6; exact e6.1
    | cons d r => rw [hd] at e6; exact e6.1
  · rintro j v H' H3 hj ⟨cs2, F2, h2, acc, vs, x2, S2, e1, e2, e3, e4, e5, e6⟩ hy
    rw [List.drop_eq_getElem_cons hj] at e6
    obtain ⟨ck, e6⟩ := e6
    obtain ⟨F3, x3, S3, rv⟩ := hY j H' v H3 cs2 F2 h2 _ S2 x2.f x2.c (List.getElem?_eq_getElem hj) ck hy
    have V3 : EnvOk X.K Cl cs2 F3 H3 σ ρ := V.step ((x1.trans x2).trans x3)
    refine tg_ok S3 (V3.wipe own) rv e6 fun σ4 ρ4 V4 hw e7 => ⟨by rw [hw own ho, wipe_idem], ?_⟩
    have d3 : H3 D = some (.lst vs) := x3.k _ _ e1 e3
    have n3 : F3 D = none := by
      cases w : F3 D with
      | none => rfl
      | some o =>
        have z := x3.n D e4 (by rw [w]; simp)
        rw [e1] at z; cases z
    have x13 : Stp cs1 F1 H1 cs2 F3 H3 := x2.trans x3
    -- the test
    have test : ∀ {R2 : Bool → Hp → Prop}, BOk X.K Cl cs2 F3 H3 (fun k h3 => if k = true then WpE C false elt ρ4 h3 fun y h4 => compL (compB C elt tg cond own ρ) chk (items.drop (j + 1)) (acc ++ [y]) h4 (fun acc h2 => Q (.lst acc) h2) else compL (compB C elt tg cond own ρ) chk (items.drop (j + 1)) acc h3 (fun acc h2 => Q (.lst acc) h2)) R2 → WCb X scope ifs σ4 H3 R2 := by
      intro R2 post
      rcases hc with ⟨rfl, rfl⟩ | ⟨c, e, rfl, rfl, hc⟩
      · simp only [WpC] at e7
        exact post _ _ _ _ _ .refl S3 e7
      · simp only [WpC] at e7
        intro s H0 D' cl fp
        exact hc s H0 D' cl fp _ _ _ _ _ _ _ _ S3 V4 e7 post
    refine test fun k cs4 F4 H4 h4 x4 S4 q4 => ?_
    have d4 : H4 D = some (.lst vs) := x4.k _ _ d3 e3
    have n4 : F4 D = none := by
      cases w : F4 D with
      | none => rfl
      | some o =>
        have z := x4.n D n3 (by rw [w]; simp)
        rw [d3] at z; cases z
    have c4 : D ∉ cs4 := fun z => by
      have := x4.m D z e3
      rw [d3] at this; cases this
    cases k with
    | false =>
      rw [if_neg Bool.false_ne_true] at q4 ⊢
      exact ⟨cs4, F4, h4, acc, vs, x13.trans x4, S4, d4, (e2.mono (x3.trans x4).f (x3.trans x4).c), c4, n4, by omega, q4⟩
    | true =>
      rw [if_pos rfl] at q4 ⊢
      intro s H0 D' cl fp
      refine he s H0 D' cl fp _ _ _ _ _ _ _ _ S4 (V4.step x4) q4 fun v5 d5 cs5 F5 H5 h5 x5 S5 r5 q5 => ?_
      have d5' : H5 D = some (.lst vs) := x5.k _ _ d4 c4
      have n5 : F5 D = none := by
        cases w : F5 D with
        | none => rfl
        | some o =>
          have z := x5.n D n4 (by rw [w]; simp)
          rw [d4] at z; cases z
      have c5 : D ∉ cs5 := fun z => by
        have := x5.m D z c4
        rw [d4] at this; cases this
      have x35 := (x3.trans x4).trans x5
      have lv : vs.length = acc.length := e2.length
      refine ⟨vs, d5', by omega, cs5, F5, h5, acc ++ [d5], vs ++ [v5], ((x13.trans x4).trans x5).chgNew hD, S5.chgN n5 c5, upd_same, (e2.mono x35.f x35.c).append (.cons r5.plain .nil), c5, n5, by rw [List.length_append, List.length_singleton]; omega, q5⟩
  · rintro H' ⟨cs2, F2, h2, acc, vs, x2, S2, e1, e2, e3, e4, e5, e6⟩
    rw [List.drop_of_length_le (Nat.le_refl _)] at e6
    exact p D (.lst acc) cs2 F2 H' h2 (x1.trans x2) S2 (x1.fresh hD) e4 e3 ⟨vs, e1, e2⟩ e6.2
end
end VL

set_option maxRecDepth 100000
set_option maxHeartbeats 4000000
/-! VL: every expression that agrees with the text. -/
namespace VL
open PySem L2 Evl PyProof.Rows PySem.Spec

section
variable {C : Ctx} {T : Tab} {Cl : Nat → Addr}
theorem agEs_all {sc : Scope} {N : List Str} : ∀ {es : Es} {xs : List Expr}, agEs T sc N es xs = true → xs.all notStar = true ∧ (xs = [] → es = .nil)
  | .nil, [], _ => ⟨rfl, fun _ => rfl⟩
  | .nil, _ :: _, h => by simp [agEs] at h
  | .cons e es, [], h => by simp [agEs] at h
  | .cons e es, x :: xs, h => by
    simp only [agEs, Bool.and_eq_true] at h
    refine ⟨?_, fun z => by cases z⟩
    rw [List.all_cons, h.1.2, (agEs_all h.2).1]; rfl
theorem agC_so {sc : Scope} {N : List Str} {e : Oe} {c : Expr} (h : agC T sc N e c = true) : ∃ e', e = .so e' := by
  cases e with
  | no => simp [agC] at h
  | so e => exact ⟨e, rfl⟩
/-- what a comprehension of the text must show -/
structure CompOk (C : Ctx) (T : Tab) (Cl : Nat → Addr) (X : Cx) (elt : E) (tg : Tg) (it : It) (cond : Oe) (own : List Nat) (y t i : Expr) (ifs : List Expr) (scope : Scope) : Prop where
  hb : BlkOk X.N X.env.scope scope (ownP X.N own)
  ho : ∀ i ∈ tgIds tg, i ∈ own
  ht : agTg scope (relS scope X.env.scope) X.N tg t = true
  hi : SI C Cl X true t it i
  hs : notSet i = true
  he : ∀ s H0 D cl fp, SE C Cl (X.blk s H0 scope (compEnvC scope cl D X.env) fp) false elt y
  hc : (ifs = [] ∧ cond = .no) ∨ ∃ c e, ifs = [c] ∧ cond = .so e ∧ ∀ s H0 D cl fp, ST C Cl (X.blk s H0 scope (compEnvC scope cl D X.env) fp) e c
section
variable {X : Cx} {elt : E} {tg : Tg} {it : It} {cond : Oe} {own : List Nat} {y t i : Expr} {ifs : List Expr} {scope : Scope}
theorem CompOk.pg (K : CompOk C T Cl X elt tg it cond own y t i ifs scope) (O : XOk C T Cl X) : ∀ (s : Shared) (H0 : Hp) (D : Addr) (cl : List (Str × Addr)) (fp : List Addr), PG (X.blk s H0 scope (compEnvC scope cl D X.env) fp) t (gOf X.K tg) := fun s H0 D cl fp =>
  pg_ok (X := X.blk s H0 scope (compEnvC scope cl D X.env) fp) O.nd O.calm (sto_blk s H0 D cl fp) K.ht
theorem CompOk.pts (K : CompOk C T Cl X elt tg it cond own y t i ifs scope) : ∀ (s : Shared) (H0 : Hp) (D : Addr) (cl : List (Str × Addr)) (fp : List Addr), PTs (X.blk s H0 scope (compEnvC scope cl D X.env) fp) ifs (WCb X scope ifs) := fun s H0 D cl fp => by
  rcases K.hc with ⟨rfl, _⟩ | ⟨c, e, rfl, _, _⟩
  · exact pts_nil
  · exact pts_one ⟨fun pins s' σ H Q I h => h s H0 D cl fp pins s' I⟩
theorem CompOk.pe (K : CompOk C T Cl X elt tg it cond own y t i ifs scope) : ∀ (s : Shared) (H0 : Hp) (D : Addr) (cl : List (Str × Addr)) (fp : List Addr), PE (X.blk s H0 scope (compEnvC scope cl D X.env) fp) y (WEb X scope y) := fun s H0 D cl fp =>
  ⟨fun pins s' σ H Q I h => h s H0 D cl fp pins s' I⟩
theorem CompOk.reads (K : CompOk C T Cl X elt tg it cond own y t i ifs scope) (O : XOk C T Cl X) : ∀ ρ h Q σ cs F H R, StOk X.K Cl cs F H h → EnvOk X.K Cl cs F H σ ρ → WpN C (.comp elt tg it cond own) ρ h Q → NOk X.K Cl cs F H Q R →
    tLc (WI X t i) (gOf X.K tg) (WCb X scope ifs) (WEb X scope y) ((ownP X.N own).map (·.2)) σ H R := by
  rw [ownP_ids]
  exact n_comp O K.hb K.ho K.ht K.hi K.hs K.he K.hc (pos := ⟨0, 0, 0, 0⟩)
theorem CompOk.sn (K : CompOk C T Cl X elt tg it cond own y t i ifs scope) (O : XOk C T Cl X) {pos : Pos} : SN C Cl X (.comp elt tg it cond own) (.ListComp y [⟨t, i, ifs, 0⟩] scope pos) := fun ρ h Q σ cs F H R S V w p =>
  we_of (pe_lc O.calm O.nd pi_we K.hb (K.pg O) K.pts K.pe (folded_of K.hs _)) (K.reads O ρ h Q σ cs F H R S V w p)
end

mutual
theorem sE : ∀ (e : E) (b : Bool) (x : Expr) (X : Cx), XOk C T Cl X → agE T X.env.scope X.N e x = true → SE C Cl X b e x
  | .var i, b, x, X, O, h => s_var (by simpa only [agE] using h)
  | .vw i, b, x, X, O, h => s_vw (by simpa only [agE] using h)
  | .cint i, b, x, X, O, h => fun ρ h' Q σ cs F H R S V w p => by
    simp only [agE] at h
    split at h
    · have e := of_decide_eq_true h
      subst e
      simp only [WpE] at w
      exact we_of pe_int (p _ _ _ _ _ _ .refl S (.inl (.int i)) w)
    · cases h
  | .cstr i, b, x, X, O, h => fun ρ h' Q σ cs F H R S V w p => by
    simp only [agE] at h
    split at h
    · have e := of_decide_eq_true h
      subst e
      simp only [WpE] at w
      exact we_of pe_str (p _ _ _ _ _ _ .refl S (.inl (.str i)) w)
    · cases h
  | .cbl i, b, x, X, O, h => fun ρ h' Q σ cs F H R S V w p => by
    simp only [agE] at h
    split at h
    · have e := of_decide_eq_true h
      subst e
      simp only [WpE] at w
      exact we_of pe_bl (p _ _ _ _ _ _ .refl S (.inl (.bl i)) w)
    · cases h
  | .cnon, b, x, X, O, h => fun ρ h' Q σ cs F H R S V w p => by
    simp only [agE] at h
    split at h
    · simp only [WpE] at w
      exact we_of pe_non (p _ _ _ _ _ _ .refl S (.inl .non) w)
    · cases h
  | .glob g, b, x, X, O, h => by
    simp only [agE] at h
    split at h
    · simp only [Bool.and_eq_true, decide_eq_true_eq] at h
      exact s_glob O h.1.1 h.1.2 h.2
    · cases h
  | .bin op a c, b, x, X, O, h => by
    simp only [agE] at h
    split at h
    · simp only [Bool.and_eq_true, decide_eq_true_eq] at h
      obtain ⟨⟨rfl, h1⟩, h2⟩ := h
      exact s_bin (sE a false _ X O h1) (sE c false _ X O h2)
    · cases h
  | .neg a, b, x, X, O, h => by
    simp only [agE] at h
    split at h
    · exact s_neg (sE a false _ X O h)
    · cases h
  | .not a, b, x, X, O, h => by
    simp only [agE] at h
    split at h
    · exact s_not (sE a false _ X O h)
    · cases h
  | .cmp op a c, b, x, X, O, h => by
    simp only [agE] at h
    split at h
    · simp only [Bool.and_eq_true, decide_eq_true_eq, Bool.not_eq_true'] at h
      obtain ⟨⟨⟨rfl, h1⟩, h2⟩, h3⟩ := h
      exact s_cmp O (sE a true _ X O h1) (sE c true _ X O h2) h3
    · cases h
  | .chain o1 o2 a c d, b, x, X, O, h => by
    simp only [agE] at h
    split at h
    · simp only [Bool.and_eq_true, decide_eq_true_eq, Bool.not_eq_true'] at h
      obtain ⟨⟨⟨⟨⟨rfl, rfl⟩, h1⟩, h2⟩, h3⟩, h4⟩ := h
      exact s_chain O (sE a false _ X O h1) (sE c false _ X O h2) (sE d false _ X O h3) h4
    · cases h
  | .and a c, b, x, X, O, h => by
    simp only [agE] at h
    split at h
    · simp only [Bool.and_eq_true] at h
      exact s_and (sE a false _ X O h.1) (sE c false _ X O h.2)
    · cases h
  | .or a c, b, x, X, O, h => by
    simp only [agE] at h
    split at h
    · simp only [Bool.and_eq_true] at h
      exact s_or (sE a false _ X O h.1) (sE c false _ X O h.2)
    · cases h
  | .ite c a d, b, x, X, O, h => by
    simp only [agE] at h
    split at h
    · simp only [Bool.and_eq_true] at h
      exact s_ite (sT c _ X O h.1.1) (sE a false _ X O h.1.2) (sE d false _ X O h.2)
    · cases h
  | .tup es, b, x, X, O, h => by
    simp only [agE] at h
    split at h
    · exact s_tup (sEs es _ X O h)
    · cases h
  | .fz n, b, x, X, O, h => s_fz (sN n x X O (by simpa only [agE] using h))
  | .new n, b, x, X, O, h => s_new (sN n x X O (by simpa only [agE] using h))
  | .sub a i, b, x, X, O, h => by
    simp only [agE] at h
    split at h
    · simp only [Bool.and_eq_true] at h
      exact s_sub O (sE a true _ X O h.1.1) (sE i false _ X O h.1.2) h.2
    · cases h
  | .slice a lo hi, b, x, X, O, h => by
    simp only [agE] at h
    split at h
    · simp only [Bool.and_eq_true] at h
      exact s_slice (sE a false _ X O h.1.1) (sO lo _ X O h.1.2) (sO hi _ X O h.2)
    · cases h
  | .call f es, b, x, X, O, h => by
    simp only [agE] at h
    split at h
    · simp only [Bool.and_eq_true, decide_eq_true_eq] at h
      obtain ⟨⟨⟨h0, h1⟩, h2⟩, h3⟩ := h
      obtain ⟨q1, q2⟩ := agEs_all h3
      exact s_call O h0 h1 h2 q1 q2 (sEs es _ X O h3)
    · cases h
  | .blt bt es, b, x, X, O, h => by
    simp only [agE] at h
    split at h
    · simp only [Bool.and_eq_true, decide_eq_true_eq] at h
      obtain ⟨⟨h0, h1⟩, h3⟩ := h
      exact s_blt O h0 h1 (agEs_all h3).1 (sBs es _ X O h3)
    · cases h
  | .isi a t, b, x, X, O, h => by
    simp only [agE] at h
    split at h
    · simp only [Bool.and_eq_true, decide_eq_true_eq] at h
      obtain ⟨⟨⟨⟨⟨⟨h0, h1⟩, h2⟩, h3⟩, h4⟩, h5⟩, h6⟩ := h
      exact s_isi O h0 h1 h2 h3 h6 h5 (sE a true _ X O h4)
    · cases h
  | .smt m o a, b, x, X, O, h => by
    simp only [agE] at h
    split at h
    · simp only [Bool.and_eq_true] at h
      obtain ⟨⟨⟨⟨⟨h0, h1⟩, h2⟩, h3⟩, h4⟩, h5⟩ := h
      exact s_smt h0 (sE o false _ X O h1) (sE a true _ X O h2) h3 h4 h5
    · cases h
  | .attr a f, b, x, X, O, h => by
    simp only [agE] at h
    split at h
    · simp only [Bool.and_eq_true, decide_eq_true_eq] at h
      obtain ⟨⟨rfl, h1⟩, h2⟩ := h
      exact s_attr O (sE a false _ X O h1) h2
    · cases h
  | .prop a f, b, x, X, O, h => by
    simp only [agE] at h
    split at h
    · simp only [Bool.and_eq_true, decide_eq_true_eq] at h
      obtain ⟨⟨rfl, h1⟩, h2⟩ := h
      exact s_prop O (sE a false _ X O h1) h2
    · cases h
  | .mcall o m es, b, x, X, O, h => by
    simp only [agE] at h
    split at h
    · simp only [Bool.and_eq_true, decide_eq_true_eq] at h
      obtain ⟨⟨⟨⟨⟨rfl, h1⟩, h2⟩, h3⟩, h4⟩, h5⟩ := h
      exact s_mcall O (sE o false _ X O h1) h3 h4 (agEs_all h2).1 h5 (agEs_all h2).2 (sEs es _ X O h2)
    · cases h
  | .make c es, b, x, X, O, h => by
    simp only [agE] at h
    split at h
    · simp only [Bool.and_eq_true, decide_eq_true_eq] at h
      obtain ⟨⟨⟨h0, h1⟩, h2⟩, h3⟩ := h
      exact s_make O h0 h1 h2 (agEs_all h3).1 (sEs es _ X O h3)
    · cases h
  | .tru a, b, x, X, O, h => fun ρ h' Q σ cs F H R S V w p => by simp only [WpE] at w
  | .isC a c, b, x, X, O, h => by
    simp only [agE] at h
    split at h
    · simp only [Bool.and_eq_true, decide_eq_true_eq] at h
      obtain ⟨⟨⟨⟨⟨⟨h0, h1⟩, h2⟩, h3⟩, h4⟩, h5⟩, h6⟩ := h
      exact s_isC O h0 h1 h2 h3 h4 h6 (sE a false _ X O h5)
    · cases h
  | .gIn neg a g, b, x, X, O, h => by
    simp only [agE] at h
    split at h
    · simp only [Bool.and_eq_true, decide_eq_true_eq, Bool.not_eq_true'] at h
      obtain ⟨⟨⟨⟨⟨h0, h1⟩, h2⟩, h3⟩, h4⟩, h5⟩ := h
      exact s_gIn O h0 h2 h3 h4 h5 (sE a false _ X O h1)
    · cases h
  | .gGet g a, b, x, X, O, h => by
    simp only [agE] at h
    split at h
    · simp only [Bool.and_eq_true, decide_eq_true_eq] at h
      obtain ⟨⟨⟨⟨h0, h1⟩, h2⟩, h3⟩, h4⟩ := h
      exact s_gGet O h0 h1 h2 h4 (sE a false _ X O h3)
    · cases h
  | .idx l a, b, x, X, O, h => by
    simp only [agE] at h
    split at h
    · simp only [Bool.and_eq_true, decide_eq_true_eq] at h
      obtain ⟨⟨⟨⟨⟨h0, h1⟩, h2⟩, h3⟩, h4⟩, h5⟩ := h
      exact s_idx h0 (sE l true _ X O h1) (sE a false _ X O h2) h3 h4 h5
    · cases h
  | .popE o, b, x, X, O, h => by
    simp only [agE] at h
    split at h
    · simp only [Bool.and_eq_true, decide_eq_true_eq] at h
      obtain ⟨⟨⟨h0, h1⟩, h2⟩, h3⟩ := h
      exact s_popE h0 (sE o false _ X O h1) h2 h3
    · cases h
  | .revT a, b, x, X, O, h => by
    simp only [agE] at h
    split at h
    · exact s_revT (sE a false _ X O h)
    · cases h
theorem sT : ∀ (e : E) (x : Expr) (X : Cx), XOk C T Cl X → agE T X.env.scope X.N e x = true → ST C Cl X e x
  | .and a c, x, X, O, h => by
    simp only [agE] at h
    split at h
    · simp only [Bool.and_eq_true] at h
      exact s_andT (sT a _ X O h.1) (sT c _ X O h.2)
    · cases h
  | .or a c, x, X, O, h => by
    simp only [agE] at h
    split at h
    · simp only [Bool.and_eq_true] at h
      exact s_orT (sT a _ X O h.1) (sT c _ X O h.2)
    · cases h
  | .not a, x, X, O, h => by
    simp only [agE] at h
    split at h
    · exact s_notT (sT a _ X O h)
    · cases h
  | .cmp op a c, x, X, O, h => by
    simp only [agE] at h
    split at h
    · simp only [Bool.and_eq_true, decide_eq_true_eq, Bool.not_eq_true'] at h
      obtain ⟨⟨⟨rfl, h1⟩, h2⟩, h3⟩ := h
      exact s_cmpT O (sE a true _ X O h1) (sE c true _ X O h2) h3
    · cases h
  | .chain o1 o2 a c d, x, X, O, h => by
    simp only [agE] at h
    split at h
    · simp only [Bool.and_eq_true, decide_eq_true_eq, Bool.not_eq_true'] at h
      obtain ⟨⟨⟨⟨⟨rfl, rfl⟩, h1⟩, h2⟩, h3⟩, h4⟩ := h
      exact s_chainT O (sE a false _ X O h1) (sE c false _ X O h2) (sE d false _ X O h3) h4
    · cases h
  | .tru a, x, X, O, h => by
    simp only [agE, Bool.and_eq_true] at h
    exact s_truT (sE a false _ X O h.1) h.2
  | .cbl k, x, X, O, h => fun ρ h' Q σ cs F H R S V w p => by
    simp only [agE] at h
    split at h
    · have e := of_decide_eq_true h
      subst e
      simp only [WpT] at w
      exact wt_of (pt_truth pe_bl (plainT_ok rfl _)) ⟨_, rfl, p _ _ _ _ _ .refl S w⟩
    · cases h
  | .gIn neg a g, x, X, O, h => by
    simp only [agE] at h
    split at h
    · simp only [Bool.and_eq_true, decide_eq_true_eq, Bool.not_eq_true'] at h
      obtain ⟨⟨⟨⟨⟨h0, h1⟩, h2⟩, h3⟩, h4⟩, h5⟩ := h
      exact s_gInT O h0 h2 h3 h4 h5 (sE a false _ X O h1)
    · cases h
  | .isC _ _, _, _, _, _ => fun ρ h' Q σ cs F H R S V w p => by simp only [WpT] at w
  | .gGet _ _, _, _, _, _ => fun ρ h' Q σ cs F H R S V w p => by simp only [WpT] at w
  | .idx _ _, _, _, _, _ => fun ρ h' Q σ cs F H R S V w p => by simp only [WpT] at w
  | .popE _, _, _, _, _ => fun ρ h' Q σ cs F H R S V w p => by simp only [WpT] at w
  | .revT _, _, _, _, _ => fun ρ h' Q σ cs F H R S V w p => by simp only [WpT] at w
  | .var _, _, _, _, _ => fun ρ h' Q σ cs F H R S V w p => by simp only [WpT] at w
  | .vw _, _, _, _, _ => fun ρ h' Q σ cs F H R S V w p => by simp only [WpT] at w
  | .cint _, _, _, _, _ => fun ρ h' Q σ cs F H R S V w p => by simp only [WpT] at w
  | .cstr _, _, _, _, _ => fun ρ h' Q σ cs F H R S V w p => by simp only [WpT] at w
  | .cnon, _, _, _, _ => fun ρ h' Q σ cs F H R S V w p => by simp only [WpT] at w
  | .glob _, _, _, _, _ => fun ρ h' Q σ cs F H R S V w p => by simp only [WpT] at w
  | .bin _ _ _, _, _, _, _ => fun ρ h' Q σ cs F H R S V w p => by simp only [WpT] at w
  | .neg _, _, _, _, _ => fun ρ h' Q σ cs F H R S V w p => by simp only [WpT] at w
  | .ite _ _ _, _, _, _, _ => fun ρ h' Q σ cs F H R S V w p => by simp only [WpT] at w
  | .tup _, _, _, _, _ => fun ρ h' Q σ cs F H R S V w p => by simp only [WpT] at w
  | .fz _, _, _, _, _ => fun ρ h' Q σ cs F H R S V w p => by simp only [WpT] at w
  | .new _, _, _, _, _ => fun ρ h' Q σ cs F H R S V w p => by simp only [WpT] at w
  | .sub _ _, _, _, _, _ => fun ρ h' Q σ cs F H R S V w p => by simp only [WpT] at w
  | .slice _ _ _, _, _, _, _ => fun ρ h' Q σ cs F H R S V w p => by simp only [WpT] at w
  | .call _ _, _, _, _, _ => fun ρ h' Q σ cs F H R S V w p => by simp only [WpT] at w
  | .blt _ _, _, _, _, _ => fun ρ h' Q σ cs F H R S V w p => by simp only [WpT] at w
  | .isi _ _, _, _, _, _ => fun ρ h' Q σ cs F H R S V w p => by simp only [WpT] at w
  | .smt _ _ _, _, _, _, _ => fun ρ h' Q σ cs F H R S V w p => by simp only [WpT] at w
  | .attr _ _, _, _, _, _ => fun ρ h' Q σ cs F H R S V w p => by simp only [WpT] at w
  | .prop _ _, _, _, _, _ => fun ρ h' Q σ cs F H R S V w p => by simp only [WpT] at w
  | .mcall _ _ _, _, _, _, _ => fun ρ h' Q σ cs F H R S V w p => by simp only [WpT] at w
  | .make _ _, _, _, _, _ => fun ρ h' Q σ cs F H R S V w p => by simp only [WpT] at w
theorem sEs : ∀ (es : Es) (xs : List Expr) (X : Cx), XOk C T Cl X → agEs T X.env.scope X.N es xs = true → SA C Cl X es xs
  | .nil, xs, X, O, h => by
    simp only [agEs] at h
    split at h
    · exact s_nil
    · cases h
  | .cons e es, xs, X, O, h => by
    simp only [agEs] at h
    split at h
    · simp only [Bool.and_eq_true] at h
      exact s_cons (sE e false _ X O h.1.1) (sEs es _ X O h.2) h.1.2
    · cases h
theorem sBs : ∀ (es : Es) (xs : List Expr) (X : Cx), XOk C T Cl X → agEs T X.env.scope X.N es xs = true → SB C Cl X es xs
  | .nil, xs, X, O, h => by
    simp only [agEs] at h
    split at h
    · exact s_nilB
    · cases h
  | .cons e es, xs, X, O, h => by
    simp only [agEs] at h
    split at h
    · simp only [Bool.and_eq_true] at h
      exact s_consB (sE e true _ X O h.1.1) (sBs es _ X O h.2) h.1.2
    · cases h
theorem sD : ∀ (es : Es) (xs : List (Option Expr)) (ys : List Expr) (X : Cx), XOk C T Cl X → agD T X.env.scope X.N es xs ys = true → SD C Cl X es xs ys
  | .nil, xs, ys, X, O, h => by
    simp only [agD] at h
    split at h
    · exact d_nil
    · cases h
  | .cons k (.cons v es), xs, ys, X, O, h => by
    simp only [agD] at h
    split at h
    · simp only [Bool.and_eq_true] at h
      exact d_cons (sE k false _ X O h.1.1) (sE v false _ X O h.1.2) (sD es _ _ X O h.2)
    · cases h
  | .cons _ .nil, _, _, _, _, h => by simp only [agD] at h; cases h
theorem sO : ∀ (e : Oe) (x : Option Expr) (X : Cx), XOk C T Cl X → agO T X.env.scope X.N e x = true → SO C Cl X e x
  | .no, x, X, O, h => by
    simp only [agO] at h
    split at h
    · exact s_no
    · cases h
  | .so e, x, X, O, h => by
    simp only [agO] at h
    split at h
    · exact s_so (sE e false _ X O h)
    · cases h
theorem sC : ∀ (e : Oe) (c : Expr) (e' : E), e = .so e' → ∀ (X : Cx), XOk C T Cl X → agC T X.env.scope X.N e c = true → ST C Cl X e' c
  | .no, c, e', q, X, O, h => by cases q
  | .so e, c, e', q, X, O, h => by
    have q2 : e = e' := by injection q
    rw [← q2]
    exact sT e c X O (by simpa only [agC] using h)
theorem sN : ∀ (n : Nw) (x : Expr) (X : Cx), XOk C T Cl X → agN T X.env.scope X.N n x = true → SN C Cl X n x
  | .lst es, x, X, O, h => by
    simp only [agN] at h
    split at h
    · exact n_lst (sEs es _ X O h)
    · cases h
  | .comp elt tg it cond own, x, X, O, h => by
    simp only [agN] at h
    split at h
    · rename_i y t i ifs a scope pos
      simp only [Bool.and_eq_true, decide_eq_true_eq] at h
      obtain ⟨⟨⟨⟨⟨⟨⟨⟨rfl, hb⟩, ho⟩, ht⟩, hi⟩, hzz⟩, hs⟩, he⟩, hc⟩ := h
      have K : CompOk C T Cl X elt tg it cond own y t i ifs scope := by
        refine ⟨blkOk_by hb, fun j hj => by simpa using List.all_eq_true.mp ho j hj, ht, sI it true t i X O hi (fun _ => rfl) hzz, hs, fun s H0 D cl fp => sE elt false y _ (O.blk s H0 scope cl D fp) he, ?_⟩
        split at hc
        · split at hc
          · exact .inl ⟨rfl, rfl⟩
          · cases hc
        · rename_i c
          obtain ⟨e', q1⟩ := agC_so hc
          exact .inr ⟨c, e', rfl, q1, fun s H0 D cl fp => sC cond c e' q1 _ (O.blk s H0 scope cl D fp) hc⟩
        · cases hc
      exact K.sn O
    · cases h
  | .slice a lo hi, x, X, O, h => by
    simp only [agN] at h
    split at h
    · simp only [Bool.and_eq_true] at h
      exact n_slice (sE a true _ X O h.1.1) (sO lo _ X O h.1.2) (sO hi _ X O h.2)
    · cases h
  | .listOf a, x, X, O, h => by
    simp only [agN] at h
    split at h
    · simp only [Bool.and_eq_true, decide_eq_true_eq] at h
      exact n_list O h.1.1.1 h.1.1.2 h.2 (sE a true _ X O h.1.2)
    · cases h
  | .cat a c, x, X, O, h => by
    simp only [agN] at h
    split at h
    · simp only [Bool.and_eq_true, decide_eq_true_eq] at h
      obtain ⟨⟨rfl, h1⟩, h2⟩ := h
      exact n_cat (sE a true _ X O h1) (sE c true _ X O h2)
    · cases h
  | .rep a c, x, X, O, h => by
    simp only [agN] at h
    split at h
    · simp only [Bool.and_eq_true, decide_eq_true_eq] at h
      obtain ⟨⟨rfl, h1⟩, h2⟩ := h
      exact n_rep (sE a true _ X O h1) (sE c false _ X O h2)
    · cases h
  | .rev a, x, X, O, h => by
    simp only [agN] at h
    split at h
    · exact n_rev (sE a true _ X O h)
    · cases h
  | .dct1 k v, x, X, O, h => by
    simp only [agN] at h
    split at h
    · simp only [Bool.and_eq_true] at h
      exact n_dct1 (sE k false _ X O h.1) (sE v false _ X O h.2)
    · cases h
  | .dctL es, x, X, O, h => by
    simp only [agN] at h
    split at h
    · simp only [Bool.and_eq_true, decide_eq_true_eq] at h
      exact n_dctL ⟨fun z => by rw [z] at h; simp at h, h.2⟩ (sD es _ _ X O h.1.1)
    · cases h
  | .dctN0, x, X, O, h => by
    simp only [agN] at h
    split at h
    · exact n_dctN0
    · cases h
  | .split o a, x, X, O, h => by
    simp only [agN] at h
    split at h
    · simp only [Bool.and_eq_true, decide_eq_true_eq] at h
      obtain ⟨⟨⟨⟨⟨h0, h1⟩, h2⟩, h3⟩, h4⟩, h5⟩ := h
      exact n_split h0 (sE o false _ X O h1) (sE a false _ X O h2) h3 h4 h5
    · cases h
  | .dct0, x, X, O, h => by
    simp only [agN] at h
    split at h
    · exact n_dct0
    · cases h
  | .dictOf a, x, X, O, h => by
    simp only [agN] at h
    split at h
    · simp only [Bool.and_eq_true, decide_eq_true_eq] at h
      exact n_dictOf O h.1.1.1 h.1.1.2 h.2 (sE a false _ X O h.1.2)
    · cases h
  | .sorted a, x, X, O, h => by
    simp only [agN] at h
    split at h
    · simp only [Bool.and_eq_true, decide_eq_true_eq] at h
      exact n_sorted O h.1.1.1 h.1.1.2 h.2 (sE a false _ X O h.1.2)
    · cases h
  | .rngL a c, x, X, O, h => by
    simp only [agN] at h
    split at h
    · simp only [Bool.and_eq_true, decide_eq_true_eq] at h
      obtain ⟨⟨⟨⟨⟨⟨⟨h0, h1⟩, h2⟩, h3⟩, h4⟩, h5⟩, h6⟩, h7⟩ := h
      exact n_rngL O h0 h1 h2 h3 h5 h7 (sE a false _ X O h4) (sE c false _ X O h6)
    · cases h
theorem sI : ∀ (it : It) (st : Bool) (tg x : Expr) (X : Cx), XOk C T Cl X → agI T X.env.scope X.N it x = true → ((∃ i, it = .own i) → st = true) → zipOk it tg = true → SI C Cl X st tg it x
  | .rng1 a, st, tg, x, X, O, h, _, _ => by
    simp only [agI] at h
    split at h
    · simp only [Bool.and_eq_true, decide_eq_true_eq] at h
      exact i_rng1 O h.1.1.1 h.1.1.2 h.2 (sE a false _ X O h.1.2)
    · cases h
  | .rvR a, st, tg, x, X, O, h, _, _ => by
    simp only [agI] at h
    split at h
    · simp only [Bool.and_eq_true, decide_eq_true_eq] at h
      obtain ⟨⟨⟨⟨⟨h0, h1⟩, h2⟩, h3⟩, h4⟩, h5⟩ := h
      exact i_rvR O h0 h1 h2 h3 h5 (sE a false _ X O h4)
    · cases h
  | .rng2 a c, st, tg, x, X, O, h, _, _ => by
    simp only [agI] at h
    split at h
    · simp only [Bool.and_eq_true, decide_eq_true_eq] at h
      obtain ⟨⟨⟨⟨⟨h0, h1⟩, h2⟩, h3⟩, h4⟩, h5⟩ := h
      exact i_rng2 O h0 h1 h3 h5 (sE a false _ X O h2) (sE c false _ X O h4)
    · cases h
  | .seq a, st, tg, x, X, O, h, _, _ => i_seq (sE a false _ X O (by simpa only [agI] using h))
  | .own i, st, tg, x, X, O, h, hst, _ => by
    have e := hst ⟨i, rfl⟩
    subst e
    exact i_own (by simpa only [agI] using h)
  | .chars a, st, tg, x, X, O, h, _, _ => i_chars (sE a false _ X O (by simpa only [agI] using h))
  | .keys a, st, tg, x, X, O, h, _, _ => i_keys (sE a false _ X O (by simpa only [agI] using h))
  | .zip a c, st, tg, x, X, O, h, _, hz => by
    simp only [agI] at h
    split at h
    · simp only [Bool.and_eq_true, decide_eq_true_eq] at h
      obtain ⟨⟨⟨⟨⟨h0, h1⟩, h2⟩, h3⟩, h4⟩, h5⟩ := h
      have ht : ∃ es k tp, tg = .Tuple es k tp := by
        unfold zipOk at hz
        simp only at hz
        split at hz
        · exact ⟨_, _, _, rfl⟩
        · cases hz
      exact i_zip O h0 h1 h3 h5 ht (sE a false _ X O h2) (sE c false _ X O h4)
    · cases h
end
end
end VL

set_option maxRecDepth 100000
set_option maxHeartbeats 4000000
/-! VL: statements, defs. -/
namespace VL
open PySem L2 Evl PyProof.Rows PySem.Spec

/-! ### agreement -/
def notComp : Expr → Bool
  | .ListComp _ _ _ _ => false
  | .SetComp _ _ _ _ => false
  | .DictComp _ _ _ _ _ => false
  | _ => true
def notTup : Expr → Bool
  | .Tuple _ _ _ => false
  | _ => true
def compN : E → Option Nw
  | .fz (.comp a b c d e) => some (.comp a b c d e)
  | .new (.comp a b c d e) => some (.comp a b c d e)
  | _ => none
def isCompN : Nw → Bool
  | .comp _ _ _ _ _ => true
  | _ => false
def agApp (x : Expr) : Option (Expr × Expr) := match x with
  | .Call (.Attribute o nm apos) [y] [] cpos => if (decide (nm = "append") && notSup o && (apos.endLine == cpos.line) && notStar y) = true then some (o, y) else none
  | _ => none
def agExt (x : Expr) : Option (Expr × Expr) := match x with
  | .Call (.Attribute o nm apos) [y] [] cpos => if (decide (nm = "extend") && notSup o && (apos.endLine == cpos.line) && notStar y) = true then some (o, y) else none
  | _ => none
def agRem (x : Expr) : Option (Expr × Expr) := match x with
  | .Call (.Attribute o nm apos) [y] [] cpos => if (decide (nm = "remove") && notSup o && (apos.endLine == cpos.line) && notStar y) = true then some (o, y) else none
  | _ => none
def agPop (x : Expr) : Option Expr := match x with
  | .Call (.Attribute o nm apos) [] [] cpos => if (decide (nm = "pop") && notSup o && (apos.endLine == cpos.line)) = true then some o else none
  | _ => none
mutual
def agS (T : Tab) (sc : Scope) (N : List Str) : S → Stmt → Bool
  | .asg tg e, st => match st with
    | .Assign [t] x _ => agTg sc sc N tg t && agE T sc N e x && (match tg with
      | .nm _ => notComp x || (compN e).isSome
      | .tup _ => notTup x && notComp x)
    | _ => false
  | .asgO i n, st => match st with
    | .Assign [t] x _ => agTg sc sc N (.nm i) t && agN T sc N n x && (notComp x || isCompN n)
    | _ => false
  | .frz _, _ => false
  | .par3 i j l a b c, st => match st with
    | .Assign [.Tuple [.Name x px, .Name y py, .Name z pz] _ _] (.Tuple [ea, eb, ec] _ _) _ => decide (N[i]? = some x) && (decide (N[j]? = some y) && (decide (N[l]? = some z) && (decide (i ≠ j) && (decide (i ≠ l) && (decide (j ≠ l) && (decide (x ≠ y) && (decide (x ≠ z) && (decide (y ≠ z) && (decide (sc.names.lookup x = some .local) && (decide (sc.names.lookup y = some .local) && (decide (sc.names.lookup z = some .local) && (decide (py.line = px.line) && (decide (pz.line = px.line) && (agE T sc N a ea && (agE T sc N b eb && (agE T sc N c ec && (notStar ea && (notStar eb && (notStar ec && (!([ea, eb, ec].all (foldedForSure 8)) && !([ea, eb, ec].all (constantsAlone 8))))))))))))))))))))))
    | _ => false
  | .par i j a b, st => match st with
    | .Assign [.Tuple [.Name x px, .Name y py] _ _] (.Tuple [ea, eb] _ _) _ => decide (N[i]? = some x) && (decide (N[j]? = some y) && (decide (i ≠ j) && (decide (x ≠ y) && (decide (sc.names.lookup x = some .local) && (decide (sc.names.lookup y = some .local) && (decide (py.line = px.line) && (agE T sc N a ea && (agE T sc N b eb && (notStar ea && (notStar eb && (!([ea, eb].all (foldedForSure 8)) && !([ea, eb].all (constantsAlone 8)))))))))))))
    | _ => false
  | .aug i op e, st => match st with
    | .AugAssign (.Name id _) o x _ => decide (N[i]? = some id) && tgN sc sc id && decide (op = o) && (decide (op = .Add) || decide (op = .Sub)) && agE T sc N e x
    | _ => false
  | .app i e, st => match st with
    | .Expr x _ => match agApp x with
      | some (o, y) => agVar sc N i o && agE T sc N e y
      | none => false
    | _ => false
  | .appE o e, st => match st with
    | .Expr x _ => match agApp x with
      | some (o', y) => agE T sc N o o' && agE T sc N e y
      | none => false
    | _ => false
  | .ext i e, st => match st with
    | .Expr x _ => match agExt x with
      | some (o, y) => agVar sc N i o && agE T sc N e y
      | none => false
    | _ => false
  | .extE o e, st => match st with
    | .Expr x _ => match agExt x with
      | some (o', y) => agE T sc N o o' && agE T sc N e y
      | none => false
    | _ => false
  | .rem i e, st => match st with
    | .Expr x _ => match agRem x with
      | some (o, y) => agVar sc N i o && agE T sc N e y
      | none => false
    | _ => false
  | .popS i, st => match st with
    | .Expr x _ => match agPop x with
      | some o => agVar sc N i o
      | none => false
    | _ => false
  | .popA tg i, st => match st with
    | .Assign [t] x _ => match agPop x with
      | some o => agVar sc N i o && agTg sc sc N tg t
      | none => false
    | _ => false
  | .put i k e, st => match st with
    | .Assign [.Subscript o k' _] x _ => agVar sc N i o && agE T sc N k k' && agE T sc N e x && notSlice k'
    | _ => false
  | .putE o k e, st => match st with
    | .Assign [.Subscript o' k' _] x _ => agE T sc N o o' && agE T sc N k k' && agE T sc N e x && notSlice k'
    | _ => false
  | .fld o f e, st => match st with
    | .Assign [.Attribute o' g _] x _ => decide (f = g) && agE T sc N o o' && agE T sc N e x
    | _ => false
  | .expr e, st => match st with
    | .Expr x _ => agE T sc N e x && notComp x
    | _ => false
  | .ret e, st => match st with
    | .Return (some x) _ => agE T sc N e x
    | _ => false
  | .retN, st => match st with
    | .Return none _ => true
    | _ => false
  | .ite c a b, st => match st with
    | .If x p q _ => agE T sc N c x && agSs T sc N a p && agSs T sc N b q
    | _ => false
  | .wh c b, st => match st with
    | .While x p [] _ => agE T sc N c x && agSs T sc N b p
    | _ => false
  | .for tg it b, st => match st with
    | .For t x p [] _ => agTg sc sc N tg t && agI T sc N it x && zipOk it t && notSet x && (match it with | .own _ => false | _ => true) && agSs T sc N b p
    | _ => false
  | .pass, st => match st with
    | .Pass _ => true
    | _ => false
  | .brk, st => match st with
    | .Break _ => true
    | _ => false
  | .cont, st => match st with
    | .Continue _ => true
    | _ => false
  | .bad, _ => true
  | .rse c e, st => match st with
    | .Raise (some (.Call (.Name x _) [a] [] _)) none _ => decide (T.ename c = some x) && glB sc x && plainName x && notStar a && agE T sc N e a
    | _ => false
def agSs (T : Tab) (sc : Scope) (N : List Str) : Ss → List Stmt → Bool
  | .nil, st => match st with
    | [] => true
    | _ => false
  | .cons s r, st => match s with
    | .frz _ => agSs T sc N r st
    | s => match st with
      | x :: xs => agS T sc N s x && agSs T sc N r xs
      | [] => false
end

/-! ### what stands between statements: base of the innermost loop (csb, Fb), the def's entry (cs0, F0, H0) -/
structure Nt (K : PySem.W.Frag) (Cl : Nat → Addr) (csb : List Addr) (Fb : Hp) (cs0 : List Addr) (F0 H0 : Hp) (cs : List Addr) (F H : Hp) (h : AHeap) (σ : L2.St) (ρ : Env) : Prop where
  S : StOk K Cl cs F H h
  V : EnvOk K Cl cs F H σ ρ
  x : Stp cs0 F0 H0 cs F H
  o : ∀ i c a, getS ρ i = .own c → σ[i]? = some (some (.ref a)) → H0 a = none
  y : Ex Fb F ∧ ∃ r, cs = csb ++ r
structure DOk (X : Cx) (Cl : Nat → Addr) (csb : List Addr) (Fb : Hp) (cs0 : List Addr) (F0 H0 : Hp) (D : Kt) (D' : Ends) : Prop where
  nx : ∀ cs F H h σ ρ, Nt X.K Cl csb Fb cs0 F0 H0 cs F H h σ ρ → D.nx ρ h → D'.nx σ H
  rt : ∀ v d cs F H h, Stp cs0 F0 H0 cs F H → StOk X.K Cl cs F H h → Rep X.K cs F v d → D.rt d h → D'.rt v H
  bk : ∀ cs F H h σ ρ, Nt X.K Cl csb Fb cs0 F0 H0 cs F H h σ ρ → D.bk ρ h → D'.bk σ H
  ct : ∀ cs F H h σ ρ, Nt X.K Cl csb Fb cs0 F0 H0 cs F H h σ ρ → D.ct ρ h → D'.ct σ H
  ex : ∃ W : WX, Takes X W ∧ ∀ c n cs F H h σ ρ, Nt X.K Cl csb Fb cs0 F0 H0 cs F H h σ ρ → D.ex c n h → ∀ dd, H dd = none → W (.ref (Cl c)) (some dd) σ (upd H dd (.xd [("row", .int n)]))
/-- a class whose exceptions keep a row -/
structure ExcM (X : Cx) (x : Str) (C : Addr) : Prop where
  mg : X.mg x = some (.ref C)
  ox : OexC X.K C
  row : PySem.W.findIn X.K (.ref C) "row" = some none
  ini : ∃ fI k fd, PySem.W.findIn X.K (.ref C) "__init__" = some (some (.ref fI)) ∧ PySem.W.typeIn X.K (.ref fI) = some (.type "function") ∧ FnOk X.prog X.w X.K X.mg X.base CX0 k fI fd ["self", "row"] (spRow X.K) ∧ Room (k + 1) X.A ∧ Binds X.K fd ["self", "row"] []
structure SOk (C : Ctx) (T : Tab) (Cl : Nat → Addr) (X : Cx) : Prop extends XOk C T Cl X where
  exc : ∀ c x, T.ename c = some x → ExcM X x (Cl c)
  pass : PassesOwn (model X.prog X.w) X.A X.env X.xe
  sto : Sto X.env.scope X
def WS (X : Cx) (st : Stmt) : TS := fun D σ H => ∀ pins s, Inv X pins σ H s → wpAny (model X.prog X.w) X.A (exec st X.env) (SP X pins D) X.xe s
def WSs (X : Cx) (st : List Stmt) : TS := fun D σ H => ∀ pins s, Inv X pins σ H s → wpAny (model X.prog X.w) X.A (execs st X.env) (SP X pins D) X.xe s
section
variable {X : Cx}
theorem ps_we {e : Stmt} : PS X e (WS X e) := ⟨fun pins s σ H D I h => h pins s I⟩
theorem pss_we {e : List Stmt} : PSs X e (WSs X e) := ⟨fun pins s σ H D I h => h pins s I⟩
theorem ws_of {e : Stmt} {t : TS} (p : PS X e t) {σ : L2.St} {H : Hp} {D : Ends} (h : t D σ H) : WS X e D σ H := fun pins s I => p.run pins s σ H D I h
theorem wss_of {e : List Stmt} {t : TS} (p : PSs X e t) {σ : L2.St} {H : Hp} {D : Ends} (h : t D σ H) : WSs X e D σ H := fun pins s I => p.run pins s σ H D I h
end
section
variable (C : Ctx) (Cl : Nat → Addr)
def SS (X : Cx) (s : S) (st : Stmt) : Prop := ∀ csb Fb cs0 F0 H0 D D' ρ h σ cs F H, DOk X Cl csb Fb cs0 F0 H0 D D' → Nt X.K Cl csb Fb cs0 F0 H0 cs F H h σ ρ → WpS C s D ρ h → WS X st D' σ H
def SSs (X : Cx) (s : Ss) (st : List Stmt) : Prop := ∀ csb Fb cs0 F0 H0 D D' ρ h σ cs F H, DOk X Cl csb Fb cs0 F0 H0 D D' → Nt X.K Cl csb Fb cs0 F0 H0 cs F H h σ ρ → WpSs C s D ρ h → WSs X st D' σ H
end
section
variable {C : Ctx} {T : Tab} {Cl : Nat → Addr} {X : Cx} {K : PySem.W.Frag} {csb cs0 cs cs' : List Addr} {Fb F0 H0 F F' H H' : Hp} {h h' : AHeap} {σ σ' : L2.St} {ρ ρ' : Env}
theorem Nt.step (n : Nt K Cl csb Fb cs0 F0 H0 cs F H h σ ρ) (x : Stp cs F H cs' F' H') (S : StOk K Cl cs' F' H' h') : Nt K Cl csb Fb cs0 F0 H0 cs' F' H' h' σ ρ :=
  ⟨S, n.V.step x, n.x.trans x, n.o, n.y.1.trans x.f, by
    obtain ⟨r, e⟩ := n.y.2
    obtain ⟨r2, e2⟩ := x.c
    exact ⟨r ++ r2, by rw [e2, e, List.append_assoc]⟩⟩
theorem Nt.setV (n : Nt K Cl csb Fb cs0 F0 H0 cs F H h σ ρ) {i : Nat} {v : L2.V} {d : AV} (r : Rep K cs F v d) : Nt K Cl csb Fb cs0 F0 H0 cs F H h (σ.set i (some v)) (setS ρ i (.val d)) :=
  ⟨n.S, n.V.setV r, n.x, fun j c a h1 h2 => by
    by_cases hj : i = j
    · subst hj
      by_cases hi : i < ρ.length
      · rw [getS_set_same hi] at h1; cases h1
      · rw [setS_out (by omega)] at h1
        exact absurd (getS_lt (ρ := ρ) (i := i) (by rw [h1]; simp)) hi
    · rw [getS_set_ne hj] at h1
      rw [List.getElem?_set_ne hj] at h2
      exact n.o j c a h1 h2, n.y⟩
theorem upd_self {H : Hp} {a : Addr} {o : HO} (e : H a = some o) : upd H a o = H := by
  funext b
  unfold upd
  split
  · rename_i q; rw [q, e]
  · rfl
theorem set_self {σ : L2.St} {i : Nat} {v : Option V} (e : σ[i]? = some v) : σ.set i v = σ := by
  apply List.ext_getElem?
  intro j
  by_cases hj : i = j
  · subst hj
    rw [List.getElem?_set_self (List.getElem?_eq_some_iff.mp e).1, e]
  · rw [List.getElem?_set_ne hj]
/-- a slot's own cell -/
theorem Nt.setO (n : Nt K Cl csb Fb cs0 F0 H0 cs F H h σ ρ) {i : Nat} {a : Addr} {c : Cell} {o : HO} (n0 : H0 a = none) (n1 : a ∉ cs) (n2 : F a = none) (r : COk K Cl cs F (upd H a o) a c)
    (old : ∀ j c', j ≠ i → getS ρ j = .own c' → σ[j]? ≠ some (some (.ref a))) : Nt K Cl csb Fb cs0 F0 H0 cs F (upd H a o) h (σ.set i (some (.ref a))) (setS ρ i (.own c)) :=
  ⟨n.S.chgN n2 n1, n.V.setO n1 n2 r old, n.x.chgNew n0, fun j c a' h1 h2 => by
    by_cases hj : i = j
    · subst hj
      by_cases hi : i < ρ.length
      · rw [List.getElem?_set_self (by rw [← n.V.len]; exact hi)] at h2
        cases h2
        exact n0
      · rw [setS_out (by omega)] at h1
        exact absurd (getS_lt (ρ := ρ) (i := i) (by rw [h1]; simp)) hi
    · rw [getS_set_ne hj] at h1
      rw [List.getElem?_set_ne hj] at h2
      exact n.o j c a' h1 h2, n.y⟩
/-- a slot's own cell becomes a value; a dict is locked from then on -/
theorem Nt.frzC (n : Nt K Cl csb Fb cs0 F0 H0 cs F H h σ ρ) {i : Nat} {c : Cell} {d : AV} {a : Addr} {o : HO} (e : getS ρ i = .own c) (e1 : σ[i]? = some (some (.ref a))) (ho : H a = some o) (rd : Rep K cs (upd F a o) (.ref a) d) : Nt K Cl csb Fb cs0 F0 H0 cs (upd F a o) H h σ (setS ρ i (.val d)) := by
  obtain ⟨a', e1', n1, n2, r⟩ := n.V.own i c e
  rw [e1] at e1'
  cases e1'
  have n0 := n.o i c a e e1
  have ex : Ex F (upd F a o) := Ex.new n2
  have hi : i < ρ.length := getS_lt (by rw [e]; simp)
  have hs : i < σ.length := by rw [← n.V.len]; exact hi
  refine ⟨n.S.freeze n2 n1 ho, ⟨by rw [setS_length]; exact n.V.len, fun j d' h1 => ?_, fun j c' h1 => ?_, fun j k c1 c2 b ne h1 h2 h3 => ?_⟩, ⟨n.x.f.trans ex, n.x.c, n.x.k, n.x.d, fun b q1 q2 => ?_, n.x.m⟩, fun j c' b h1 h2 => ?_, n.y.1.trans ex, n.y.2⟩
  · by_cases hj : i = j
    · subst hj
      rw [getS_set_same hi] at h1
      cases h1
      exact ⟨_, e1, rd⟩
    · rw [getS_set_ne hj] at h1
      obtain ⟨v, g1, g2⟩ := n.V.val j d' h1
      exact ⟨v, g1, g2.mono ex ⟨[], by simp⟩⟩
  · have hj : i ≠ j := fun z => by subst z; rw [getS_set_same hi] at h1; cases h1
    rw [getS_set_ne hj] at h1
    obtain ⟨b, g1, g2, g3, g4⟩ := n.V.own j c' h1
    refine ⟨b, g1, g2, ?_, g4.mono ex ⟨[], by simp⟩ fun _ z => z⟩
    rw [upd_ne]
    · exact g3
    · intro z
      subst z
      exact n.V.dis i j c c' b hj e h1 e1 g1
  · have h1' : i ≠ j := fun z => by subst z; rw [getS_set_same hi] at h1; cases h1
    have h2' : i ≠ k := fun z => by subst z; rw [getS_set_same hi] at h2; cases h2
    rw [getS_set_ne h1'] at h1
    rw [getS_set_ne h2'] at h2
    exact n.V.dis j k c1 c2 b ne h1 h2 h3
  · by_cases hb : b = a
    · subst hb; exact n0
    · rw [upd_ne hb] at q2
      exact n.x.n b q1 q2
  · have hj : i ≠ j := fun z => by subst z; rw [getS_set_same hi] at h1; cases h1
    rw [getS_set_ne hj] at h1
    exact n.o j c' b h1 h2
theorem Nt.frz (n : Nt K Cl csb Fb cs0 F0 H0 cs F H h σ ρ) {i : Nat} {xs : List AV} (e : getS ρ i = .own (.lst xs)) : ∃ F', Nt K Cl csb Fb cs0 F0 H0 cs F' H h σ (setS ρ i (.val (.lst xs))) := by
  obtain ⟨a, e1, n1, n2, vs, g1, g2⟩ := n.V.own i _ e
  exact ⟨_, n.frzC e e1 g1 (.lst upd_same (g2.mono (Ex.new n2) ⟨[], by simp⟩))⟩
theorem Nt.frzD (n : Nt K Cl csb Fb cs0 F0 H0 cs F H h σ ρ) {i : Nat} {xs : List (Key × AV)} (e : getS ρ i = .own (.dct xs)) : ∃ a us, H a = some (.dK us) ∧ ∀ od, ∃ F', Nt K Cl csb Fb cs0 F0 H0 cs F' (upd H a (.frz od (.dK us))) h σ (setS ρ i (.val (.dct xs))) := by
  obtain ⟨a, e1, n1, n2, us, g1, g2⟩ := n.V.own i _ e
  refine ⟨a, us, g1, fun od => ?_⟩
  have n0 := n.o i _ a e e1
  have hs : i < σ.length := (List.getElem?_eq_some_iff.mp e1).1
  -- the slot is taken away first
  have hi : i < ρ.length := getS_lt (by rw [e]; simp)
  have S1 : StOk K Cl cs F (upd H a (.frz od (.dK us))) h := n.S.chgN n2 n1
  have x1 : Stp cs0 F0 H0 cs F (upd H a (.frz od (.dK us))) := n.x.chgNew n0
  have ex : Ex F (upd F a (.frz od (.dK us))) := Ex.new n2
  refine ⟨upd F a (.frz od (.dK us)), S1.freeze n2 n1 upd_same, ⟨by rw [setS_length]; exact n.V.len, fun j d' h1 => ?_, fun j c' h1 => ?_, fun j k c1 c2 b ne h1 h2 h3 => ?_⟩, ⟨x1.f.trans ex, x1.c, x1.k, x1.d, fun b q1 q2 => ?_, x1.m⟩, fun j c' b h1 h2 => ?_, n.y.1.trans ex, n.y.2⟩
  · by_cases hj : i = j
    · subst hj
      rw [getS_set_same hi] at h1
      cases h1
      exact ⟨_, e1, .dct upd_same (g2.mono ex ⟨[], by simp⟩)⟩
    · rw [getS_set_ne hj] at h1
      obtain ⟨v, g1, g2⟩ := n.V.val j d' h1
      exact ⟨v, g1, g2.mono ex ⟨[], by simp⟩⟩
  · have hj : i ≠ j := fun z => by subst z; rw [getS_set_same hi] at h1; cases h1
    rw [getS_set_ne hj] at h1
    obtain ⟨b, k1, k2, g3, g4⟩ := n.V.own j c' h1
    have ne : b ≠ a := fun z => by subst z; exact n.V.dis i j _ c' b hj e h1 e1 k1
    refine ⟨b, k1, k2, by rw [upd_ne ne]; exact g3, g4.mono ex ⟨[], by simp⟩ fun o z => by rw [upd_ne ne]; exact z⟩
  · have h1' : i ≠ j := fun z => by subst z; rw [getS_set_same hi] at h1; cases h1
    have h2' : i ≠ k := fun z => by subst z; rw [getS_set_same hi] at h2; cases h2
    rw [getS_set_ne h1'] at h1
    rw [getS_set_ne h2'] at h2
    exact n.V.dis j k c1 c2 b ne h1 h2 h3
  · by_cases hb : b = a
    · subst hb; exact n0
    · rw [upd_ne hb] at q2
      exact x1.n b q1 q2
  · have hj : i ≠ j := fun z => by subst z; rw [getS_set_same hi] at h1; cases h1
    rw [getS_set_ne hj] at h1
    exact n.o j c' b h1 h2
theorem DOk.seq {D : Kt} {D' : Ends} {A : Env → AHeap → Prop} {A' : L2.St → Hp → Prop} (d : DOk X Cl csb Fb cs0 F0 H0 D D') (k : ∀ cs F H h σ ρ, Nt X.K Cl csb Fb cs0 F0 H0 cs F H h σ ρ → A ρ h → A' σ H) :
    DOk X Cl csb Fb cs0 F0 H0 { D with nx := A } { D' with nx := A' } := ⟨k, d.rt, d.bk, d.ct, d.ex⟩

/-! ### each statement -/
theorem swaps_plain {x : Expr} (hx : notComp x = true) (t : Option Expr) (l : Nat) (env : PySem.Env) : swapsWith x t l env = pure false := by
  cases x <;> first | rfl | cases hx
theorem swaps_other {x t : Expr} (ht : ∀ id p, t ≠ .Name id p) (l : Nat) (env : PySem.Env) : swapsWith x (some t) l env = pure false := by
  cases x <;> first | rfl | (cases t <;> first | rfl | exact absurd rfl (ht _ _))
def swB (sc scope : Scope) (id : Str) (pl xl : Nat) : Bool := decide (sc.names.lookup id = some .local) && (pl == xl) && !(scope.names.any fun (n, k) => n == id && (k == .local || k == .cell))
theorem sw_false {elt : Expr} {gs : List Comprehension} {scope : Scope} {pos py : Pos} {y : Str} {l : Nat} {env : PySem.Env} (hk : env.scope.kind = .function) (h : swB env.scope scope y py.line pos.line = false) :
    swapsWith (.ListComp elt gs scope pos) (some (.Name y py)) l env = pure false := by
  have hb : env.blockKind = .function := by unfold Env.blockKind; rw [hk]; rfl
  unfold swapsWith
  unfold swB at h
  have ky : (env.kindOf y == some .local) = decide (env.scope.names.lookup y = some .local) := by
    show (env.scope.names.lookup y == some .local) = _
    cases q : env.scope.names.lookup y with
    | none => rfl
    | some k => cases k <;> rfl
  simp only [hb, ky, Expr.pos]
  show pure ((ScopeKind.function == ScopeKind.function && decide (env.scope.names.lookup y = some .local) && (py.line == pos.line)) && !(scope.names.any fun (n, k) => n == y && (k == .local || k == .cell))) = pure false
  have : (ScopeKind.function == ScopeKind.function) = true := rfl
  rw [this, Bool.true_and, h]
/-- a comprehension given to a name -/
theorem comp_set {elt : E} {tg : Tg} {it : It} {cond : Oe} {own : List Nat} {y t i : Expr} {ifs : List Expr} {scope : Scope} {pos spos p' : Pos} {id : Str} {j : Nat} (O : SOk C T Cl X) (Kp : CompOk C T Cl X elt tg it cond own y t i ifs scope)
    (hj : X.N[j]? = some id) (hid : tgN X.env.scope X.env.scope id = true) {ρ : Env} {h : AHeap} {Q : Cell → AHeap → Prop} {D : Ends} (S : StOk X.K Cl cs F H h) (V : EnvOk X.K Cl cs F H σ ρ) (hk : X.env.scope.kind = .function) (w : WpN C (.comp elt tg it cond own) ρ h Q)
    (p : NOk X.K Cl cs F H Q (fun v H1 => D.nx (σ.set j (some v)) H1)) : WS X (.Assign [.Name id p'] (.ListComp y [⟨t, i, ifs, 0⟩] scope pos) spos) D σ H := by
  obtain ⟨s1, s2⟩ := O.sto id hid
  cases hs : swB X.env.scope scope id p'.line pos.line with
  | false => exact ws_of (ps_set O.nd hj s1 pe_we (sw_false hk hs) s2) (Kp.sn O.toXOk _ _ _ _ _ _ _ _ S V w p)
  | true =>
    unfold swB at hs
    simp only [Bool.and_eq_true, decide_eq_true_eq, Bool.not_eq_true'] at hs
    exact ws_of (ps_setLc O.calm O.nd hj hs.1.1 (sw_true hk hs.1.1 hs.1.2 hs.2) pi_we Kp.hb (Kp.pg O.toXOk) Kp.pts Kp.pe (folded_of Kp.hs _)) (Kp.reads O.toXOk _ _ _ _ _ _ _ _ S V w p)
theorem comp_of {elt : E} {tg : Tg} {it : It} {cond : Oe} {own : List Nat} {x : Expr} (O : XOk C T Cl X) (h : agN T X.env.scope X.N (.comp elt tg it cond own) x = true) :
    ∃ y t i ifs scope pos, x = .ListComp y [⟨t, i, ifs, 0⟩] scope pos ∧ CompOk C T Cl X elt tg it cond own y t i ifs scope := by
  simp only [agN] at h
  split at h
  · rename_i y t i ifs a scope pos
    simp only [Bool.and_eq_true, decide_eq_true_eq] at h
    obtain ⟨⟨⟨⟨⟨⟨⟨⟨rfl, hb⟩, ho⟩, ht⟩, hi⟩, hzz⟩, hs⟩, he⟩, hc⟩ := h
    refine ⟨y, t, i, ifs, scope, pos, rfl, blkOk_by hb, fun j hj => by simpa using List.all_eq_true.mp ho j hj, ht, sI it true t i X O hi (fun _ => rfl) hzz, hs, fun s H0 D cl fp => sE elt false y _ (O.blk s H0 scope cl D fp) he, ?_⟩
    split at hc
    · split at hc
      · exact .inl ⟨rfl, rfl⟩
      · cases hc
    · rename_i c
      obtain ⟨e', q1⟩ := agC_so hc
      exact .inr ⟨c, e', rfl, q1, fun s H0 D cl fp => sC cond c e' q1 _ (O.blk s H0 scope cl D fp) hc⟩
    · cases hc
  · cases h
theorem st_asg {tg : Tg} {e : E} {st : Stmt} (O : SOk C T Cl X) (hk : X.env.scope.kind = .function) (hag : agS T X.env.scope X.N (.asg tg e) st = true) : SS C Cl X (.asg tg e) st := fun csb Fb cs0 F0 H0 D D' ρ h σ cs F H d n w => by
  simp only [agS] at hag
  split at hag
  · rename_i t x pos
    simp only [Bool.and_eq_true] at hag
    obtain ⟨⟨ht, he⟩, hx⟩ := hag
    simp only [WpS] at w
    cases tg with
    | nm i =>
      simp only [agTg] at ht
      split at ht
      · rename_i id p'
        simp only [Bool.and_eq_true, decide_eq_true_eq] at ht
        obtain ⟨s1, s2⟩ := O.sto id ht.2
        have fin : EOk X.K Cl false cs F H (fun x h1 => tgK (.nm i) x ρ fun ρ' => D.nx ρ' h1) (fun v H1 => D'.nx (σ.set i (some v)) H1) := fun v d2 cs2 F2 H2 h2 y S r q =>
          d.nx _ _ _ _ _ _ ((n.step y S).setV r.plain) q
        simp only [Bool.or_eq_true] at hx
        rcases hx with hx | hx
        · exact ws_of (ps_set O.nd ht.1 s1 pe_we (swaps_plain hx _ _ _) s2) (sE e false x X O.toXOk he _ _ _ _ _ _ _ _ n.S n.V w fin)
        · cases hc : compN e with
          | none => rw [hc] at hx; cases hx
          | some n0 =>
            unfold compN at hc
            split at hc
            · cases hc
              simp only [agE] at he
              obtain ⟨y, t', i', ifs, scope, pos', rfl, Kp⟩ := comp_of O.toXOk he
              simp only [WpE] at w
              refine comp_set O Kp ht.1 ht.2 n.S n.V hk (Q := fun c h1 => match c with
                | .lst xs => tgK (.nm i) (.lst xs) ρ fun ρ' => D.nx ρ' h1
                | _ => False) ?_ (NOk.fzL fin)
              simp only [WpN] at w ⊢
              exact w
            · cases hc
              simp only [agE] at he
              obtain ⟨y, t', i', ifs, scope, pos', rfl, Kp⟩ := comp_of O.toXOk he
              simp only [WpE] at w
              exact comp_set O Kp ht.1 ht.2 n.S n.V hk w (NOk.new fin)
            · cases hc
      · cases ht
    | tup is =>
      simp only [Bool.and_eq_true] at hx
      have hw : swappedStores [t] x X.env = pure none := by
        cases t <;> first | (simp [agTg] at ht; done) | (cases x <;> first | rfl | cases hx.1)
      have hs : swapsWithSole [t] x pos.line X.env = pure false := swaps_plain hx.2 _ _ _
      refine ws_of (ps_asg pe_we (pg_ok O.nd O.calm O.sto ht) hs hw (by cases t <;> first | (simp [agTg] at ht; done) | rfl)) (sE e false x X O.toXOk he _ _ _ _ _ _ _ _ n.S n.V w fun v d2 cs2 F2 H2 h2 y S r q => ?_)
      have n2 := n.step y S
      -- the names are set one after another
      obtain ⟨xs, ρ', e, hs2, q⟩ := tgK_tup q
      refine gTL_of S.sub r.plain e hs2 fun vs g2 => ?_
      have go : ∀ {is : List Nat} {xs : List AV} {vs : List V} {σ : L2.St} {ρ : Env}, Nt X.K Cl csb Fb cs0 F0 H0 cs2 F2 H2 h2 σ ρ → Reps X.K cs2 F2 vs xs → setsS ρ is xs = some ρ' → gNames is vs σ H2 D'.nx := by
        intro is
        induction is with
        | nil =>
          intro xs vs σ ρ n r e
          cases r with
          | nil => simp [setsS] at e; subst e; exact ⟨rfl, d.nx _ _ _ _ _ _ n q⟩
          | cons _ _ => simp [setsS] at e
        | cons i is ih =>
          intro xs vs σ ρ n r e
          cases r with
          | nil => simp [setsS] at e
          | cons r rs =>
            simp only [setsS] at e
            exact ⟨_, _, rfl, ih (n.setV r) rs e⟩
      exact go n2 g2 hs2
  · cases hag
theorem sw_two {x y : Str} {a b : Expr} {px py pt pt2 : Pos} {kt k2} {env : PySem.Env} (hb : env.blockKind = .function) (hx : env.scope.names.lookup x = some .local) (hy : env.scope.names.lookup y = some .local) (hl : py.line = px.line) (hn : x ≠ y) (sa : notStar a = true) (sb : notStar b = true) (f1 : ([a, b].all (foldedForSure 8)) = false) (f2 : ([a, b].all (constantsAlone 8)) = false) :
    swappedStores [.Tuple [.Name x px, .Name y py] kt pt] (.Tuple [a, b] k2 pt2) env = pure (some [x, y]) := by
  have kx : env.kindOf x = some NameKind.local := hx
  have ky : env.kindOf y = some NameKind.local := hy
  have e1 : ([x, y].eraseDups) = [x, y] := by
    simp [List.eraseDups_cons, hn.symm, Ne.symm hn, hn]
  unfold swappedStores
  simp only [List.length_cons, List.length_nil, hb, List.any_cons, List.any_nil, f1, f2]
  simp [kx, ky, hl, e1, Expr.pos, List.filterMap_cons]
  rintro (h | h)
  · cases a <;> first | (cases h; done) | cases sa
  · cases b <;> first | (cases h; done) | cases sb
theorem st_par {i j : Nat} {a b : E} {st : Stmt} (O : SOk C T Cl X) (hk : X.env.scope.kind = .function) (hag : agS T X.env.scope X.N (.par i j a b) st = true) : SS C Cl X (.par i j a b) st := fun csb Fb cs0 F0 H0 D D' ρ h σ cs F H d n w => by
  simp only [agS] at hag
  split at hag
  · rename_i x px y py kt pt ea eb k2 pt2 pos
    simp only [Bool.and_eq_true, decide_eq_true_eq, Bool.not_eq_true'] at hag
    obtain ⟨hi, hj, hij, hn, hx, hy, hl, ha, hb, sa, sb, f1, f2⟩ := hag
    simp only [WpS] at w
    have hB : X.env.blockKind = .function := by
      unfold Env.blockKind
      rw [hk]; rfl
    refine ws_of (ps_par O.calm O.nd hi hj hij hx hy (pa_cons pe_we (pa_cons pe_we pa_nil (star_cons sb _ _)) (star_cons sa _ _)) (sw_two hB hx hy hl hn sa sb f1 f2) (by rfl)) ?_
    refine sE a false ea X O.toXOk ha _ _ _ _ _ _ _ _ n.S n.V w fun v1 d1 cs1 F1 H1 h1 x1 S1 r1 q1 => ?_
    refine sE b false eb X O.toXOk hb _ _ _ _ _ _ _ _ S1 (n.V.step x1) q1 fun v2 d2 cs2 F2 H2 h2 x2 S2 r2 q2 => ?_
    exact ⟨v1, v2, rfl, d.nx _ _ _ _ _ _ (((n.step (x1.trans x2) S2).setV (r1.step x2).plain).setV r2.plain) q2⟩
  · cases hag
theorem sw_three {x y z : Str} {a b c : Expr} {px py pz pt pt2 : Pos} {kt k2} {env : PySem.Env} (hb : env.blockKind = .function) (hx : env.scope.names.lookup x = some .local) (hy : env.scope.names.lookup y = some .local) (hz : env.scope.names.lookup z = some .local) (hl : py.line = px.line) (hl2 : pz.line = px.line) (n1 : x ≠ y) (n2 : x ≠ z) (n3 : y ≠ z) (sa : notStar a = true) (sb : notStar b = true) (sc : notStar c = true) (f1 : ([a, b, c].all (foldedForSure 8)) = false) (f2 : ([a, b, c].all (constantsAlone 8)) = false) :
    swappedStores [.Tuple [.Name x px, .Name y py, .Name z pz] kt pt] (.Tuple [a, b, c] k2 pt2) env = pure (some [x, y, z]) := by
  have kx : env.kindOf x = some NameKind.local := hx
  have ky : env.kindOf y = some NameKind.local := hy
  have kz : env.kindOf z = some NameKind.local := hz
  have e1 : ([x, y, z].eraseDups) = [x, y, z] := by
    simp [List.eraseDups_cons, n1.symm, n2.symm, n3.symm, n1, n2, n3]
  unfold swappedStores
  simp only [List.length_cons, List.length_nil, hb, List.any_cons, List.any_nil, f1, f2]
  simp [kx, ky, kz, hl, hl2, e1, Expr.pos, List.filterMap_cons]
  rintro (h | h | h)
  · cases a <;> first | (cases h; done) | cases sa
  · cases b <;> first | (cases h; done) | cases sb
  · cases c <;> first | (cases h; done) | cases sc
theorem st_par3 {i j l : Nat} {a b c : E} {st : Stmt} (O : SOk C T Cl X) (hk : X.env.scope.kind = .function) (hag : agS T X.env.scope X.N (.par3 i j l a b c) st = true) : SS C Cl X (.par3 i j l a b c) st := fun csb Fb cs0 F0 H0 D D' ρ h σ cs F H d n w => by
  simp only [agS] at hag
  split at hag
  · rename_i x px y py z pz kt pt ea eb ec k2 pt2 pos
    simp only [Bool.and_eq_true, decide_eq_true_eq, Bool.not_eq_true'] at hag
    obtain ⟨hi, hj, hl, hij, hil, hjl, n1, n2, n3, hx, hy, hz, l1, l2, ha, hb, hc, sa, sb, sc, f1, f2⟩ := hag
    simp only [WpS] at w
    have hB : X.env.blockKind = .function := by
      unfold Env.blockKind
      rw [hk]; rfl
    refine ws_of (ps_par3 O.calm O.nd hi hj hl hij hil hjl hx hy hz (pa_cons pe_we (pa_cons pe_we (pa_cons pe_we pa_nil (star_cons sc _ _)) (star_cons sb _ _)) (star_cons sa _ _)) (sw_three hB hx hy hz l1 l2 n1 n2 n3 sa sb sc f1 f2) (by rfl)) ?_
    refine sE a false ea X O.toXOk ha _ _ _ _ _ _ _ _ n.S n.V w fun v1 d1 cs1 F1 H1 h1 x1 S1 r1 q1 => ?_
    refine sE b false eb X O.toXOk hb _ _ _ _ _ _ _ _ S1 (n.V.step x1) q1 fun v2 d2 cs2 F2 H2 h2 x2 S2 r2 q2 => ?_
    refine sE c false ec X O.toXOk hc _ _ _ _ _ _ _ _ S2 ((n.V.step x1).step x2) q2 fun v3 d3 cs3 F3 H3 h3 x3 S3 r3 q3 => ?_
    have s1 := (r1.step x2).step x3
    have s2 := r2.step x3
    exact ⟨v1, v2, v3, rfl, d.nx _ _ _ _ _ _ ((((n.step (x1.trans (x2.trans x3)) S3).setV s1.plain).setV s2.plain).setV r3.plain) q3⟩
  · cases hag
theorem own_old (V : EnvOk K Cl cs F H σ ρ) {i : Nat} {c : Cell} {a : Addr} (e : getS ρ i = .own c) (q : σ[i]? = some (some (.ref a))) : ∀ j c', j ≠ i → getS ρ j = .own c' → σ[j]? ≠ some (some (.ref a)) := fun j c' hj h1 =>
  V.dis i j c c' a (Ne.symm hj) e h1 q
theorem st_asgO {i : Nat} {m : Nw} {st : Stmt} (O : SOk C T Cl X) (hk : X.env.scope.kind = .function) (hag : agS T X.env.scope X.N (.asgO i m) st = true) : SS C Cl X (.asgO i m) st := fun csb Fb cs0 F0 H0 D D' ρ h σ cs F H d n w => by
  simp only [agS] at hag
  split at hag
  · rename_i t x pos
    simp only [Bool.and_eq_true] at hag
    obtain ⟨⟨ht, he⟩, hx⟩ := hag
    simp only [WpS] at w
    simp only [agTg] at ht
    split at ht
    · rename_i id p'
      simp only [Bool.and_eq_true, decide_eq_true_eq] at ht
      obtain ⟨s1, s2⟩ := O.sto id ht.2
      have fin : NOk X.K Cl cs F H (fun c h1 => D.nx (setS ρ i (.own c)) h1) (fun v H1 => D'.nx (σ.set i (some v)) H1) := fun a c cs2 F2 H2 h2 y S n1 n2 n3 r q => by
        have hs : H2 a ≠ none := r.some
        have n' := n.step y S
        cases ho : H2 a with
        | none => exact absurd ho hs
        | some o =>
          have e : upd H2 a o = H2 := upd_self ho
          have z := n'.setO (i := i) (o := o) (n.x.fresh n1) n3 n2 (by rw [e]; exact r) fun j c' hj h1 h2 => by
            obtain ⟨b, g1, _, _, g4⟩ := n.V.own j c' h1
            rw [g1] at h2
            cases h2
            exact g4.some n1
          rw [e] at z
          exact d.nx _ _ _ _ _ _ z q
      simp only [Bool.or_eq_true] at hx
      rcases hx with hx | hx
      · exact ws_of (ps_set O.nd ht.1 s1 pe_we (swaps_plain hx _ _ _) s2) (sN m x X O.toXOk he _ _ _ _ _ _ _ _ n.S n.V w fin)
      · cases m with
        | comp a b c e f =>
          obtain ⟨y, t', i', ifs, scope, pos', rfl, Kp⟩ := comp_of O.toXOk he
          exact comp_set O Kp ht.1 ht.2 n.S n.V hk w fin
        | _ => cases hx
    · cases ht
  · cases hag
theorem st_aug {i : Nat} {op : Operator} {e : E} {st : Stmt} (O : SOk C T Cl X) (hag : agS T X.env.scope X.N (.aug i op e) st = true) : SS C Cl X (.aug i op e) st := fun csb Fb cs0 F0 H0 D D' ρ h σ cs F H d n w => by
  simp only [agS] at hag
  split at hag
  · rename_i id p' o x pos
    simp only [Bool.and_eq_true, Bool.or_eq_true, decide_eq_true_eq] at hag
    obtain ⟨⟨⟨⟨h1, h2⟩, rfl⟩, h4⟩, h5⟩ := hag
    obtain ⟨s1, s2⟩ := O.sto id h2
    simp only [WpS] at w
    split at w
    · rename_i x0 hx0
      obtain ⟨v0, e0, r0⟩ := n.V.val i x0 hx0
      have fin : ∀ {f : Int → Int → Int}, (∀ x y Q, augK op x y Q → ∃ a b, x = .int a ∧ y = .int b ∧ Q (.int (f a b))) → tAug i (WE X x) (ipI f) D' σ H := by
        intro f hf
        refine ⟨v0, e0, sE e false x X O.toXOk h5 _ _ _ _ _ _ _ _ n.S n.V w fun v1 d1 cs1 F1 H1 h1 x1 S1 r1 q1 => ?_⟩
        obtain ⟨a, b, rfl, rfl, q⟩ := hf _ _ _ q1
        have := r1.int
        subst this
        cases r0
        exact ⟨a, b, rfl, rfl, d.nx _ _ _ _ _ _ ((n.step x1 S1).setV (.int _)) q⟩
      rcases h4 with rfl | rfl
      · refine ws_of (ps_aug O.nd h1 s1 pe_we ip_add s2) (fin fun x y Q q => ?_)
        cases x <;> cases y <;> first | exact ⟨_, _, rfl, rfl, q⟩ | exact q.elim
      · refine ws_of (ps_aug O.nd h1 s1 pe_we ip_sub s2) (fin fun x y Q q => ?_)
        cases x <;> cases y <;> first | exact ⟨_, _, rfl, rfl, q⟩ | exact q.elim
    · exact w.elim
  · cases hag
theorem app_ps {o y : Expr} {x : Expr} {pos : Pos} {to : TE} (hx : agApp x = some (o, y)) (ho : PE X o to) : PS X (.Expr x pos) (tDrop (tBM X.K "list" rAppend to (tCons (WE X y) tNil))) := by
  unfold agApp at hx
  split at hx
  · rename_i o' nm apos y' cpos
    split at hx
    · rename_i hc
      cases hx
      simp only [Bool.and_eq_true, decide_eq_true_eq] at hc
      obtain ⟨⟨⟨rfl, h2⟩, h3⟩, h4⟩ := hc
      refine ps_expr (pe_bm PySem.F.plainAttrs_list PySem.F.slot_list_append PySem.F.type_list_append mt_append ho (pa_cons pe_we pa_nil (star_cons h4 _ _)) (base_of h2 _ _) ?_ h3 (star_cons h4 _ _) rfl) rfl
      rw [star_cons h4]
      rfl
    · cases hx
  · cases hx
theorem st_app {i : Nat} {e : E} {st : Stmt} (O : SOk C T Cl X) (hag : agS T X.env.scope X.N (.app i e) st = true) : SS C Cl X (.app i e) st := fun csb Fb cs0 F0 H0 D D' ρ h σ cs F H d n w => by
  simp only [agS] at hag
  split at hag
  · rename_i x pos
    split at hag
    · rename_i o y hx
      simp only [Bool.and_eq_true] at hag
      obtain ⟨ha, he⟩ := hag
      unfold agVar at ha
      split at ha
      · rename_i id p'
        simp only [Bool.and_eq_true, decide_eq_true_eq] at ha
        obtain ⟨⟨h1, h2⟩, h3⟩ := ha
        obtain ⟨n1, n2, _⟩ := plainName_ok h3
        simp only [WpS] at w
        have po : PE X (.Name id p') (fun σ H Q => ∃ v, σ[i]? = some (some v) ∧ Q v H) := pe_var h1 (visB_ok h2) n1 n2
        split at w
        · rename_i xs hc
          obtain ⟨a, e1, m1, m2, vs, e2, r⟩ := n.V.own i _ hc
          have n0 := n.o i _ a hc e1
          refine ws_of (app_ps hx po) ⟨_, e1, .inl ⟨rfl, vs, sq_of e2⟩, ?_⟩
          refine sE e false y X O.toXOk he _ _ _ _ _ _ _ _ n.S n.V w fun v1 d1 cs1 F1 H1 h1 x1 S1 r1 q1 => ?_
          have nn := n.step x1 S1
          have e2' : H1 a = some (.lst vs) := x1.k _ _ e2 m1
          have m1' : a ∉ cs1 := fun z => by have := x1.m a z m1; rw [e2] at this; cases this
          have m2' : F1 a = none := by
            cases w : F1 a with
            | none => rfl
            | some o =>
              have z := x1.n a m2 (by rw [w]; simp)
              rw [e2] at z; cases z
          refine ⟨a, vs, v1, rfl, rfl, e2', by rw [r.length]; exact q1.1, ?_⟩
          have z := nn.setO (i := i) (o := .lst (vs ++ [v1])) (c := .lst (xs ++ [d1])) n0 m1' m2' ⟨_, upd_same, (r.mono x1.f x1.c).append (.cons r1.plain .nil)⟩ (own_old nn.V hc e1)
          rw [set_self e1] at z
          exact d.nx _ _ _ _ _ _ z q1.2
        · exact w.elim
      · cases ha
    · cases hag
  · cases hag
theorem Nt.cellSet (n : Nt K Cl csb Fb cs0 F0 H0 cs F H h σ ρ) {m : Nat} {a : Addr} {c : Cell} {o : HO} (e : cs[m]? = some a) (r : COk K Cl cs F (upd H a o) a c) : Nt K Cl csb Fb cs0 F0 H0 cs F (upd H a o) (h.set m c) σ ρ := by
  have x2 : Stp cs F H cs F (upd H a o) := Stp.chg (List.mem_of_getElem? e)
  exact ⟨n.S.cellSet e r, n.V.step x2, n.x.trans x2, n.o, n.y⟩
theorem st_appE {o e : E} {st : Stmt} (O : SOk C T Cl X) (hag : agS T X.env.scope X.N (.appE o e) st = true) : SS C Cl X (.appE o e) st := fun csb Fb cs0 F0 H0 D D' ρ h σ cs F H d n w => by
  simp only [agS] at hag
  split at hag
  · rename_i x pos
    split at hag
    · rename_i o' y hx
      simp only [Bool.and_eq_true] at hag
      simp only [WpS] at w
      refine ws_of (app_ps hx pe_we) (sE o false o' X O.toXOk hag.1 _ _ _ _ _ _ _ _ n.S n.V w fun v1 d1 cs1 F1 H1 h1 x1 S1 r1 q1 => ?_)
      have n1 := n.step x1 S1
      split at q1
      · rename_i m
        split at q1
        · rename_i xs0 hc0
          have r1 := r1.plain
          cases r1 with
          | adr g1 =>
            rename_i a
            obtain ⟨vs0, g2, g3⟩ := cell_at S1 g1 hc0
            refine ⟨.inl ⟨rfl, vs0, sq_of g2⟩, ?_⟩
            refine sE e false y X O.toXOk hag.2 _ _ _ _ _ _ _ _ S1 n1.V q1 fun v2 d2 cs2 F2 H2 h2 x2 S2 r2 q2 => ?_
            have n2 := n1.step x2 S2
            unfold appC at q2
            split at q2
            · rename_i xs hc
              have g1' : cs2[m]? = some a := let ⟨_, q⟩ := x2.c; get_pre q g1
              obtain ⟨vs, k1, k2⟩ := cell_at S2 g1' hc
              refine ⟨a, vs, v2, rfl, rfl, k1, by rw [k2.length]; exact q2.1, ?_⟩
              exact d.nx _ _ _ _ _ _ (n2.cellSet g1' (show COk X.K Cl cs2 F2 _ a (.lst (xs ++ [d2])) from ⟨_, upd_same, k2.append (.cons r2.plain .nil)⟩)) q2.2
            · exact q2.elim
        · exact q1.elim
      · exact q1.elim
    · cases hag
  · cases hag
/-- o[k] = v by its weakest reading -/
def PSW (X : Cx) : TSet := fun o i v H Q => ∀ (pins : List (Addr × Obj)) (s : Shared) (σ : L2.St) (ov iv u : Value), Inv X pins σ H s → RelV o ov → RelV i iv → RelV v u → wpAny (model X.prog X.w) X.A (setItem ov iv u) (fun _ s' => ∃ H', Inv X pins σ H' s' ∧ Q H') X.xe s
theorem psw_ok : PSet X (PSW X) := fun pins s σ H o i v ov iv u Q I r1 r2 r3 h => h pins s σ ov iv u I r1 r2 r3
theorem psw_of {t : TSet} (p : PSet X t) {o i v : V} {H : Hp} {Q : Hp → Prop} (h : t o i v H Q) : PSW X o i v H Q := fun pins s σ ov iv u I r1 r2 r3 => p pins s σ H o i v ov iv u Q I r1 r2 r3 h
theorem set_dict (hu : X.A.units + 1 < cLine) : PSet X (fun o i v H Q => ∃ a H', o = .ref a ∧ DPut H a i v H' ∧ Q H') := by
  intro pins s σ H o i v ov iv u Q I r1 r2 r3 h
  obtain ⟨a, H', rfl, g, q⟩ := h
  cases r1
  exact d_setItem hu I g r2 r3 fun s' I' => ⟨H', I', q⟩
theorem set_nk (hu : X.A.units + 2 < cLine) : PSet X (fun o i v H Q => ∃ a b es k, o = .ref a ∧ i = .ref b ∧ H a = some (.ext (DN a es)) ∧ (∀ x ∈ es, KeyN X.K H x.1 x.2.1) ∧ KeyN X.K H k b ∧ es.length < sizeLine ∧ Q (upd H a (.ext (DN a (putN es k b v))))) := by
  intro pins s σ H o i v ov iv u Q I r1 r2 r3 h
  obtain ⟨a, b, es, k, rfl, rfl, h1, h2, h3, h4, q⟩ := h
  cases r1; cases r2
  exact n_setItem hu I h1 h2 h3 h4 r3 fun s' I' => ⟨_, I', q⟩
theorem putC_ok (hu : X.A.units + 2 < cLine) (sub : Ex F H) {a : Addr} {c : Cell} {k d : AV} {i v : V} {Q : Cell → Prop} {R : Hp → Prop} {b : Bool} (r : COk X.K Cl cs F H a c) (rk : RepB X.K cs F H b i k) (rv : Rep X.K cs F v d) (q : putC c k d Q)
    (p : ∀ o c', COk X.K Cl cs F (upd H a o) a c' → Q c' → R (upd H a o)) : PSW X (.ref a) i v H R := by
  unfold putC at q
  split at q
  · rename_i xs
    obtain ⟨vs, e1, e2⟩ := r
    split at q
    · cases rk.int
      split at q
      · rename_i j hj
        rw [← e2.length] at hj
        exact psw_of set_list ⟨a, vs, _, j, rfl, rfl, e1, hj, p _ (.lst (xs.set j d)) ⟨_, upd_same, e2.set rv j⟩ q⟩
      · exact q.elim
    · exact q.elim
  · rename_i kvs
    obtain ⟨us, e1, e2⟩ := r
    split at q
    · rename_i kk hk
      cases rk.key hk
      refine psw_of (set_dict (by omega)) ⟨a, _, rfl, .k e1 ?_, p _ (.dct (putD kvs kk d)) ⟨_, upd_same, e2.put rv⟩ q.2⟩
      rw [e2.length, sizeLine_eq]
      have := q.1
      omega
    · exact q.elim
  · rename_i kvs
    obtain ⟨es, e1, e2⟩ := r
    split at q
    · rename_i kk hk
      obtain ⟨kb, rfl, hkb⟩ := rk.nk hk
      have up : ∀ {k b}, KeyN X.K F k b → KeyN X.K H k b := fun x => x.mono fun _ _ q => ex_t sub q
      refine psw_of (set_nk hu) ⟨a, kb, es, kk, rfl, rfl, e1, fun x m => up (e2.keys x m), up hkb, ?_, p _ (.dctN (putNK kvs kk d)) ⟨_, upd_same, e2.put hkb rv⟩ q.2⟩
      rw [e2.length, sizeLine_eq]
      have := q.1
      omega
    · exact q.elim
  · exact q.elim
theorem put_ps {o k x : Expr} {to : TE} {pk pos : Pos} (ho : PE X o to) (hk : notSlice k = true) : PS X (.Assign [.Subscript o k pk] x pos) (tAsg (WE X x) (gSub to (WE X k) (PSW X))) := by
  refine ps_asg pe_we (pg_sub ho pe_we psw_ok ?_) ?_ ?_
  · intro _
    cases k <;> first | rfl | cases hk
  · show swapsWith x (some (.Subscript o k pk)) pos.line X.env = pure false
    exact swaps_other (t := .Subscript o k pk) (fun _ _ z => by cases z) _ _
  · cases x <;> rfl
theorem st_put {i : Nat} {k e : E} {st : Stmt} (O : SOk C T Cl X) (hag : agS T X.env.scope X.N (.put i k e) st = true) : SS C Cl X (.put i k e) st := fun csb Fb cs0 F0 H0 D D' ρ h σ cs F H d n w => by
  simp only [agS] at hag
  split at hag
  · rename_i o k' pk x pos
    simp only [Bool.and_eq_true] at hag
    obtain ⟨⟨⟨ha, hk⟩, he⟩, hns⟩ := hag
    unfold agVar at ha
    split at ha
    · rename_i id p'
      simp only [Bool.and_eq_true, decide_eq_true_eq] at ha
      obtain ⟨⟨h1, h2⟩, h3⟩ := ha
      obtain ⟨n1, n2, _⟩ := plainName_ok h3
      simp only [WpS] at w
      split at w
      · rename_i c hc
        obtain ⟨a, e1, m1, m2, r⟩ := n.V.own i _ hc
        have n0 := n.o i _ a hc e1
        refine ws_of (put_ps (pe_var h1 (visB_ok h2) n1 n2) hns) (sE e false x X O.toXOk he _ _ _ _ _ _ _ _ n.S n.V w fun v1 d1 cs1 F1 H1 h1 x1 S1 r1 q1 => ?_)
        refine ⟨_, e1, ?_⟩
        refine sE k false k' X O.toXOk hk _ _ _ _ _ _ _ _ S1 (n.V.step x1) q1 fun v2 d2 cs2 F2 H2 h2 x2 S2 r2 q2 => ?_
        have x12 := x1.trans x2
        have nn := n.step x12 S2
        have hs := r.some
        have m1' : a ∉ cs2 := fun z => hs (x12.m a z m1)
        have m2' : F2 a = none := by
          cases w : F2 a with
          | none => rfl
          | some o => exact absurd (x12.n a m2 (by rw [w]; simp)) hs
        have r' : COk X.K Cl cs2 F2 H2 a c := r.mono x12.f x12.c fun o ho => x12.k a o ho m1
        refine putC_ok (by have := O.units; omega) S2.sub r' r2 (r1.plain.mono x2.f x2.c) q2 fun o c' g1 g2 => ?_
        have z := nn.setO (i := i) (o := o) (c := c') n0 m1' m2' g1 (own_old nn.V hc e1)
        rw [set_self e1] at z
        exact d.nx _ _ _ _ _ _ z g2
      · exact w.elim
    · cases ha
  · cases hag
theorem st_putE {o k e : E} {st : Stmt} (O : SOk C T Cl X) (hag : agS T X.env.scope X.N (.putE o k e) st = true) : SS C Cl X (.putE o k e) st := fun csb Fb cs0 F0 H0 D D' ρ h σ cs F H d n w => by
  simp only [agS] at hag
  split at hag
  · rename_i o' k' pk x pos
    simp only [Bool.and_eq_true] at hag
    obtain ⟨⟨⟨ho, hk⟩, he⟩, hns⟩ := hag
    simp only [WpS] at w
    refine ws_of (put_ps pe_we hns) (sE e false x X O.toXOk he _ _ _ _ _ _ _ _ n.S n.V w fun v1 d1 cs1 F1 H1 h1 x1 S1 r1 q1 => ?_)
    refine sE o false o' X O.toXOk ho _ _ _ _ _ _ _ _ S1 (n.V.step x1) q1 fun v2 d2 cs2 F2 H2 h2 x2 S2 r2 q2 => ?_
    refine sE k false k' X O.toXOk hk _ _ _ _ _ _ _ _ S2 ((n.V.step x1).step x2) q2 fun v3 d3 cs3 F3 H3 h3 x3 S3 r3 q3 => ?_
    split at q3
    · rename_i m
      have r2 := r2.plain
      cases r2 with
      | adr g1 =>
        rename_i a
        have g1' : cs3[m]? = some a := let ⟨_, q⟩ := x3.c; get_pre q g1
        have x23 := x2.trans x3
        exact putC_ok (by have := O.units; omega) S3.sub (S3.cell m a g1') r3 (r1.plain.mono x23.f x23.c) q3 fun o c' k1 k2 =>
          d.nx _ _ _ _ _ _ ((n.step ((x1.trans x2).trans x3) S3).cellSet g1' k1) k2
    · exact q3.elim
  · cases hag

theorem st_fld {o e : E} {f : Str} {st : Stmt} (O : SOk C T Cl X) (hag : agS T X.env.scope X.N (.fld o f e) st = true) : SS C Cl X (.fld o f e) st := fun csb Fb cs0 F0 H0 D D' ρ h σ cs F H d n w => by
  simp only [agS] at hag
  split at hag
  · rename_i o' g pk x pos
    simp only [Bool.and_eq_true, decide_eq_true_eq] at hag
    obtain ⟨⟨rfl, ho⟩, he⟩ := hag
    simp only [WpS] at w
    refine ws_of (ps_fld pe_we pe_we (swaps_other (t := .Attribute o' f pk) (fun _ _ z => by cases z) _ _)) (sE e false x X O.toXOk he _ _ _ _ _ _ _ _ n.S n.V w fun v1 d1 cs1 F1 H1 h1 x1 S1 r1 q1 => ?_)
    refine sE o false o' X O.toXOk ho _ _ _ _ _ _ _ _ S1 (n.V.step x1) q1 fun v2 d2 cs2 F2 H2 h2 x2 S2 r2 q2 => ?_
    split at q2
    · rename_i m
      split at q2
      · rename_i c fs hc
        obtain ⟨hf, hl, q2⟩ := q2
        obtain ⟨a, rfl, e2⟩ := Rep.adr_inv r2.plain
        obtain ⟨dx, fvs, e3, r⟩ := obj_at S2 e2 hc
        refine ⟨a, Cl c, dx, fvs, rfl, e3, (O.fld c f hf).1, (O.fld c f hf).2, by rw [r.length]; exact hl, ?_⟩
        exact d.nx _ _ _ _ _ _ ((n.step (x1.trans x2) S2).cellSet e2 (show COk X.K Cl cs2 F2 _ a (.obj c (putFA f d1 fs)) from ⟨dx, _, upd_same, r.put (r1.plain.mono x2.f x2.c)⟩)) q2
      · exact q2.elim
    · exact q2.elim
  · cases hag
theorem st_ite {c : E} {a b : Ss} {x : Expr} {p q : List Stmt} {pos : Pos} (O : SOk C T Cl X) (hc : agE T X.env.scope X.N c x = true) (ha : SSs C Cl X a p) (hb : SSs C Cl X b q) : SS C Cl X (.ite c a b) (.If x p q pos) := fun csb Fb cs0 F0 H0 D D' ρ h σ cs F H d n w => by
  simp only [WpS] at w
  refine ws_of (ps_if pt_we pss_we pss_we) (sT c x X O.toXOk hc _ _ _ _ _ _ _ _ n.S n.V w fun k cs1 F1 H1 h1 x1 S1 q1 => ?_)
  cases k with
  | true =>
    rw [if_pos rfl] at q1 ⊢
    exact ha _ _ _ _ _ _ _ _ _ _ _ _ _ d (n.step x1 S1) q1
  | false =>
    rw [if_neg Bool.false_ne_true] at q1 ⊢
    exact hb _ _ _ _ _ _ _ _ _ _ _ _ _ d (n.step x1 S1) q1
theorem st_wh {c : E} {b : Ss} {x : Expr} {p : List Stmt} {pos : Pos} (O : SOk C T Cl X) (hc : agE T X.env.scope X.N c x = true) (hb : SSs C Cl X b p) : SS C Cl X (.wh c b) (.While x p [] pos) := fun csb Fb cs0 F0 H0 D D' ρ h σ cs F H d n w => by
  simp only [WpS] at w
  obtain ⟨Wv, ⟨m0, w0⟩, turn⟩ := w
  refine ws_of (ps_while O.pass pt_we pss_we) ⟨fun m σ H => ∃ cs F h ρ, Nt X.K Cl csb Fb cs0 F0 H0 cs F H h σ ρ ∧ Wv m ρ h, ⟨m0, cs, F, h, ρ, n, w0⟩, ?_⟩
  rintro m σ' H' ⟨cs', F', h', ρ', n', w'⟩
  refine sT c x X O.toXOk hc _ _ _ _ _ _ _ _ n'.S n'.V (turn m ρ' h' w') fun k cs1 F1 H1 h1 x1 S1 q1 => ?_
  cases k with
  | true =>
    rw [if_pos rfl] at q1 ⊢
    refine ⟨fun σ H => ∃ m', m' < m ∧ ∃ cs F h ρ, Nt X.K Cl csb Fb cs0 F0 H0 cs F H h σ ρ ∧ Wv m' ρ h, fun σ2 H2 hq => hq, ?_⟩
    refine hb _ _ _ _ _ { D with nx := fun ρ' h' => ∃ m', m' < m ∧ Wv m' ρ' h', ct := fun ρ' h' => ∃ m', m' < m ∧ Wv m' ρ' h', bk := D.nx } _ _ _ _ _ _ _ ⟨?_, d.rt, d.nx, ?_, d.ex⟩ (n'.step x1 S1) q1
    · rintro cs2 F2 H2 h2 σ2 ρ2 n2 ⟨m', hm, w2⟩
      exact ⟨m', hm, cs2, F2, h2, ρ2, n2, w2⟩
    · rintro cs2 F2 H2 h2 σ2 ρ2 n2 ⟨m', hm, w2⟩
      exact ⟨m', hm, cs2, F2, h2, ρ2, n2, w2⟩
  | false =>
    rw [if_neg Bool.false_ne_true] at q1 ⊢
    exact d.nx _ _ _ _ _ _ (n'.step x1 S1) q1
theorem Nt.base (n : Nt K Cl csb Fb cs0 F0 H0 cs F H h σ ρ) : Nt K Cl cs F cs0 F0 H0 cs F H h σ ρ := ⟨n.S, n.V, n.x, n.o, fun _ _ z => z, [], by simp⟩
theorem Nt.unbase {cs1 : List Addr} {F1 : Hp} (n : Nt K Cl cs1 F1 cs0 F0 H0 cs F H h σ ρ) (y : Ex Fb F1 ∧ ∃ r, cs1 = csb ++ r) : Nt K Cl csb Fb cs0 F0 H0 cs F H h σ ρ := ⟨n.S, n.V, n.x, n.o, y.1.trans n.y.1, by
  obtain ⟨r, e⟩ := n.y.2
  obtain ⟨r2, e2⟩ := y.2
  exact ⟨r2 ++ r, by rw [e, e2, List.append_assoc]⟩⟩
theorem nt_tg {σ : L2.St} {ρ : Env} {tg : Tg} {d : AV} {v : L2.V} {Q : Env → Prop} {R : L2.St → Hp → Prop} (n : Nt K Cl csb Fb cs0 F0 H0 cs F H h σ ρ) (r : Rep K cs F v d) (w : tgK tg d ρ Q)
    (k : ∀ σ' ρ', Nt K Cl csb Fb cs0 F0 H0 cs F H h σ' ρ' → Q ρ' → R σ' H) : gOf K tg v σ H R := by
  cases tg with
  | nm i => exact k _ _ (n.setV r) w
  | tup is =>
    obtain ⟨xs, ρ', e, hs2, w⟩ := tgK_tup w
    refine gTL_of n.S.sub r e hs2 fun vs g2 => ?_
    have go : ∀ {is : List Nat} {xs : List AV} {vs : List L2.V} {σ : L2.St} {ρ : Env}, Nt K Cl csb Fb cs0 F0 H0 cs F H h σ ρ → Reps K cs F vs xs → setsS ρ is xs = some ρ' → gNames is vs σ H R := by
      intro is
      induction is with
      | nil =>
        intro xs vs σ ρ n r e
        cases r with
        | nil => simp [setsS] at e; subst e; exact ⟨rfl, k _ _ n w⟩
        | cons _ _ => simp [setsS] at e
      | cons i is ih =>
        intro xs vs σ ρ n r e
        cases r with
        | nil => simp [setsS] at e
        | cons r rs =>
          simp only [setsS] at e
          exact ⟨_, _, rfl, ih (n.setV r) rs e⟩
    exact go n g2 hs2
theorem ext_ps {o y : Expr} {x : Expr} {pos : Pos} {to : TE} (hx : agExt x = some (o, y)) (ho : PE X o to) : PS X (.Expr x pos) (tDrop (tBM X.K "list" (rExtA X.K) to (tCons (WE X y) tNil))) := by
  unfold agExt at hx
  split at hx
  · rename_i o' nm apos y' cpos
    split at hx
    · rename_i hc
      cases hx
      simp only [Bool.and_eq_true, decide_eq_true_eq] at hc
      obtain ⟨⟨⟨rfl, h2⟩, h3⟩, h4⟩ := hc
      refine ps_expr (pe_bm PySem.F.plainAttrs_list PySem.F.slot_list_extend PySem.F.type_list_extend mt_extA ho (pa_cons pe_we pa_nil (star_cons h4 _ _)) (base_of h2 _ _) ?_ h3 (star_cons h4 _ _) rfl) rfl
      rw [star_cons h4]
      rfl
    · cases hx
  · cases hx
theorem pop_pe {o : Expr} {x : Expr} {to : TE} (hx : agPop x = some o) (ho : PE X o to) : PE X x (tBM0 X.K "list" rPop to) ∧ notComp x = true ∧ (∀ env v, foldedSetIterable x env v = pure v) ∧ (∃ a b c d, x = .Call a b c d) := by
  unfold agPop at hx
  split at hx
  · rename_i o' nm apos cpos
    split at hx
    · rename_i hc
      cases hx
      simp only [Bool.and_eq_true, decide_eq_true_eq] at hc
      obtain ⟨⟨rfl, h2⟩, h3⟩ := hc
      exact ⟨pe_bm0 PySem.F.plainAttrs_list PySem.F.slot_list_pop PySem.F.type_list_pop mt_pop ho (base_of h2 _ _) h3, rfl, fun _ _ => rfl, _, _, _, _, rfl⟩
    · cases hx
  · cases hx
theorem st_ext {i : Nat} {e : E} {st : Stmt} (O : SOk C T Cl X) (hag : agS T X.env.scope X.N (.ext i e) st = true) : SS C Cl X (.ext i e) st := fun csb Fb cs0 F0 H0 D D' ρ h σ cs F H d n w => by
  simp only [agS] at hag
  split at hag
  · rename_i x pos
    split at hag
    · rename_i o y hx
      simp only [Bool.and_eq_true] at hag
      obtain ⟨ha, he⟩ := hag
      unfold agVar at ha
      split at ha
      · rename_i id p'
        simp only [Bool.and_eq_true, decide_eq_true_eq] at ha
        obtain ⟨⟨h1, h2⟩, h3⟩ := ha
        obtain ⟨n1, n2, _⟩ := plainName_ok h3
        simp only [WpS] at w
        have po : PE X (.Name id p') (fun σ H Q => ∃ v, σ[i]? = some (some v) ∧ Q v H) := pe_var h1 (visB_ok h2) n1 n2
        split at w
        · rename_i xs hc
          obtain ⟨a, e1, m1, m2, vs, e2, r⟩ := n.V.own i _ hc
          have n0 := n.o i _ a hc e1
          refine ws_of (ext_ps hx po) ⟨_, e1, .inl ⟨rfl, vs, sq_of e2⟩, ?_⟩
          refine sE e true y X O.toXOk he _ _ _ _ _ _ _ _ n.S n.V w fun v1 d1 cs1 F1 H1 h1 x1 S1 r1 q1 => ?_
          have nn := n.step x1 S1
          have e2' : H1 a = some (.lst vs) := x1.k _ _ e2 m1
          have m1' : a ∉ cs1 := fun z => by have := x1.m a z m1; rw [e2] at this; cases this
          have m2' : F1 a = none := by
            cases w : F1 a with
            | none => rfl
            | some o =>
              have z := x1.n a m2 (by rw [w]; simp)
              rw [e2] at z; cases z
          split at q1
          · rename_i ys hy
            obtain ⟨b, ws, rfl, eb, rb⟩ := r1.viewE S1 hy
            refine ⟨a, b, vs, ws, rfl, rfl, e2', eb, by rw [r.length, rb.length]; exact q1.1, ?_⟩
            have z := nn.setO (i := i) (o := .lst (vs ++ ws)) (c := .lst (xs ++ ys)) n0 m1' m2' ⟨_, upd_same, (r.mono x1.f x1.c).append rb⟩ (own_old nn.V hc e1)
            rw [set_self e1] at z
            exact d.nx _ _ _ _ _ _ z q1.2
          · exact q1.elim
        · exact w.elim
      · cases ha
    · cases hag
  · cases hag
theorem st_extE {o e : E} {st : Stmt} (O : SOk C T Cl X) (hag : agS T X.env.scope X.N (.extE o e) st = true) : SS C Cl X (.extE o e) st := fun csb Fb cs0 F0 H0 D D' ρ h σ cs F H d n w => by
  simp only [agS] at hag
  split at hag
  · rename_i x pos
    split at hag
    · rename_i o' y hx
      simp only [Bool.and_eq_true] at hag
      simp only [WpS] at w
      refine ws_of (ext_ps hx pe_we) (sE o false o' X O.toXOk hag.1 _ _ _ _ _ _ _ _ n.S n.V w fun v1 d1 cs1 F1 H1 h1 x1 S1 r1 q1 => ?_)
      have n1 := n.step x1 S1
      split at q1
      · rename_i m
        split at q1
        · rename_i xs0 hc0
          have r1 := r1.plain
          cases r1 with
          | adr g1 =>
            rename_i a
            obtain ⟨vs0, g2, g3⟩ := cell_at S1 g1 hc0
            refine ⟨.inl ⟨rfl, vs0, sq_of g2⟩, ?_⟩
            refine sE e true y X O.toXOk hag.2 _ _ _ _ _ _ _ _ S1 n1.V q1 fun v2 d2 cs2 F2 H2 h2 x2 S2 r2 q2 => ?_
            have n2 := n1.step x2 S2
            split at q2
            · rename_i xs hc
              have g1' : cs2[m]? = some a := let ⟨_, q⟩ := x2.c; get_pre q g1
              obtain ⟨vs, k1, k2⟩ := cell_at S2 g1' hc
              split at q2
              · rename_i ys hy
                obtain ⟨b, ws, rfl, eb, rb⟩ := r2.viewE S2 hy
                refine ⟨a, b, vs, ws, rfl, rfl, k1, eb, by rw [k2.length, rb.length]; exact q2.1, ?_⟩
                exact d.nx _ _ _ _ _ _ (n2.cellSet g1' (show COk X.K Cl cs2 F2 _ a (.lst (xs ++ ys)) from ⟨_, upd_same, k2.append rb⟩)) q2.2
              · exact q2.elim
            · exact q2.elim
        · exact q1.elim
      · exact q1.elim
    · cases hag
  · cases hag
theorem rem_ps {o y : Expr} {x : Expr} {pos : Pos} {to : TE} (hx : agRem x = some (o, y)) (ho : PE X o to) : PS X (.Expr x pos) (tDrop (tBM X.K "list" rRemF to (tCons (WE X y) tNil))) := by
  unfold agRem at hx
  split at hx
  · rename_i o' nm apos y' cpos
    split at hx
    · rename_i hc
      cases hx
      simp only [Bool.and_eq_true, decide_eq_true_eq] at hc
      obtain ⟨⟨⟨rfl, h2⟩, h3⟩, h4⟩ := hc
      refine ps_expr (pe_bm PySem.F.plainAttrs_list PySem.F.slot_list_remove PySem.F.type_list_remove mt_removeF ho (pa_cons pe_we pa_nil (star_cons h4 _ _)) (base_of h2 _ _) ?_ h3 (star_cons h4 _ _) rfl) rfl
      rw [star_cons h4]
      rfl
    · cases hx
  · cases hx
theorem reps_eraseIdx {K : PySem.W.Frag} {cs : List Addr} {F : Hp} {vs : List L2.V} {xs : List AV} (r : Reps K cs F vs xs) (j : Nat) : Reps K cs F (vs.eraseIdx j) (xs.eraseIdx j) := by
  rw [List.eraseIdx_eq_take_drop_succ, List.eraseIdx_eq_take_drop_succ]
  exact (r.take _).append (r.drop _)
theorem st_rem {i : Nat} {e : E} {st : Stmt} (O : SOk C T Cl X) (hag : agS T X.env.scope X.N (.rem i e) st = true) : SS C Cl X (.rem i e) st := fun csb Fb cs0 F0 H0 D D' ρ h σ cs F H d n w => by
  simp only [agS] at hag
  split at hag
  · rename_i x pos
    split at hag
    · rename_i o y hx
      simp only [Bool.and_eq_true] at hag
      obtain ⟨ha, he⟩ := hag
      unfold agVar at ha
      split at ha
      · rename_i id p'
        simp only [Bool.and_eq_true, decide_eq_true_eq] at ha
        obtain ⟨⟨h1, h2⟩, h3⟩ := ha
        obtain ⟨n1, n2, _⟩ := plainName_ok h3
        simp only [WpS] at w
        have po : PE X (.Name id p') (fun σ H Q => ∃ v, σ[i]? = some (some v) ∧ Q v H) := pe_var h1 (visB_ok h2) n1 n2
        split at w
        · rename_i xs hc
          obtain ⟨a, e1, m1, m2, vs, e2, r⟩ := n.V.own i _ hc
          have n0 := n.o i _ a hc e1
          refine ws_of (rem_ps hx po) ⟨_, e1, .inl ⟨rfl, vs, sq_of e2⟩, ?_⟩
          refine sE e false y X O.toXOk he _ _ _ _ _ _ _ _ n.S n.V w fun v1 d1 cs1 F1 H1 h1 x1 S1 r1 q1 => ?_
          have nn := n.step x1 S1
          have e2' : H1 a = some (.lst vs) := x1.k _ _ e2 m1
          have m1' : a ∉ cs1 := fun z => by have := x1.m a z m1; rw [e2] at this; cases this
          have m2' : F1 a = none := by
            cases w : F1 a with
            | none => rfl
            | some o =>
              have z := x1.n a m2 (by rw [w]; simp)
              rw [e2] at z; cases z
          obtain ⟨f1, f2, q3⟩ := q1
          split at q3
          · rename_i j hj
            obtain ⟨hlt, hp1, hp2⟩ := List.findIdx?_eq_some_iff_getElem.mp hj
            have hlv : j < vs.length := by rw [r.length]; exact hlt
            have r' := r.mono x1.f x1.c
            refine ⟨a, vs, v1, j, vs[j], rfl, rfl, e2', (r1.flat f1).1, (r'.flat f2 r1 f1).1, List.getElem?_eq_getElem hlv, ?_, fun m z' hm hz' => ?_, ?_⟩
            · rw [r'.flatAt f2 r1 f1 (List.getElem?_eq_getElem hlv) (List.getElem?_eq_getElem hlt)]
              exact hp1
            · have hm2 : m < xs.length := Nat.lt_trans hm hlt
              rw [r'.flatAt f2 r1 f1 hz' (List.getElem?_eq_getElem hm2)]
              exact Bool.eq_false_iff.mpr (hp2 m hm)
            · have z := nn.setO (i := i) (o := .lst (vs.eraseIdx j)) (c := .lst (xs.eraseIdx j)) n0 m1' m2' ⟨_, upd_same, reps_eraseIdx r' j⟩ (own_old nn.V hc e1)
              rw [set_self e1] at z
              exact d.nx _ _ _ _ _ _ z q3
          · exact q3.elim
        · exact w.elim
      · cases ha
    · cases hag
  · cases hag
theorem reps_dropLast {K : PySem.W.Frag} {cs : List Addr} {F : Hp} {vs : List L2.V} {xs : List AV} (r : Reps K cs F vs xs) : Reps K cs F vs.dropLast xs.dropLast := by
  rw [List.dropLast_eq_take, List.dropLast_eq_take, r.length]
  exact r.take _
theorem st_popS {i : Nat} {st : Stmt} (O : SOk C T Cl X) (hag : agS T X.env.scope X.N (.popS i) st = true) : SS C Cl X (.popS i) st := fun csb Fb cs0 F0 H0 D D' ρ h σ cs F H d n w => by
  simp only [agS] at hag
  split at hag
  · rename_i x pos
    split at hag
    · rename_i o hx
      unfold agVar at hag
      split at hag
      · rename_i id p'
        simp only [Bool.and_eq_true, decide_eq_true_eq] at hag
        obtain ⟨⟨h1, h2⟩, h3⟩ := hag
        obtain ⟨n1, n2, _⟩ := plainName_ok h3
        simp only [WpS] at w
        have po : PE X (.Name id p') (fun σ H Q => ∃ v, σ[i]? = some (some v) ∧ Q v H) := pe_var h1 (visB_ok h2) n1 n2
        obtain ⟨p1, p2, _, _⟩ := pop_pe hx po
        split at w
        · rename_i xs hc
          obtain ⟨a, e1, m1, m2, vs, e2, r⟩ := n.V.own i _ hc
          have n0 := n.o i _ a hc e1
          have hl : xs.length - 1 < xs.length := by
            have := List.length_pos_iff.mpr w.1
            omega
          obtain ⟨v, hv, _⟩ := r.get (List.getElem?_eq_getElem hl)
          rw [← r.length] at hv
          refine ws_of (ps_expr p1 (swaps_plain p2 _ _ _)) ⟨_, e1, .inl ⟨rfl, vs, sq_of e2⟩, a, vs, v, rfl, rfl, e2, hv, ?_⟩
          have z := n.setO (i := i) (o := .lst vs.dropLast) (c := .lst xs.dropLast) n0 m1 m2 ⟨_, upd_same, reps_dropLast r⟩ (own_old n.V hc e1)
          rw [set_self e1] at z
          exact d.nx _ _ _ _ _ _ z w.2
        · exact w.elim
      · cases hag
    · cases hag
  · cases hag
theorem st_popA {tg : Tg} {i : Nat} {st : Stmt} (O : SOk C T Cl X) (hag : agS T X.env.scope X.N (.popA tg i) st = true) : SS C Cl X (.popA tg i) st := fun csb Fb cs0 F0 H0 D D' ρ h σ cs F H d n w => by
  simp only [agS] at hag
  split at hag
  · rename_i t x pos
    split at hag
    · rename_i o hx
      simp only [Bool.and_eq_true] at hag
      obtain ⟨hag, ht⟩ := hag
      unfold agVar at hag
      split at hag
      · rename_i id p'
        simp only [Bool.and_eq_true, decide_eq_true_eq] at hag
        obtain ⟨⟨h1, h2⟩, h3⟩ := hag
        obtain ⟨n1, n2, _⟩ := plainName_ok h3
        simp only [WpS] at w
        have po : PE X (.Name id p') (fun σ H Q => ∃ v, σ[i]? = some (some v) ∧ Q v H) := pe_var h1 (visB_ok h2) n1 n2
        obtain ⟨p1, p2, _, ca, cb, cc, cd, rfl⟩ := pop_pe hx po
        split at w
        · rename_i xs hc
          split at w
          · rename_i dd hl
            obtain ⟨a, e1, m1, m2, vs, e2, r⟩ := n.V.own i _ hc
            have n0 := n.o i _ a hc e1
            obtain ⟨v, hv, rv⟩ := r.get (by rw [← List.getLast?_eq_getElem?]; exact hl)
            rw [← r.length] at hv
            have z := n.setO (i := i) (o := .lst vs.dropLast) (c := .lst xs.dropLast) n0 m1 m2 ⟨_, upd_same, reps_dropLast r⟩ (own_old n.V hc e1)
            rw [set_self e1] at z
            have goal : tBM0 X.K "list" rPop (fun σ H Q => ∃ v, σ[i]? = some (some v) ∧ Q v H) σ H (fun v H1 => gOf X.K tg v σ H1 D'.nx) :=
              ⟨_, e1, .inl ⟨rfl, vs, sq_of e2⟩, a, vs, v, rfl, rfl, e2, hv, nt_tg z rv w fun σ' ρ' n' q => d.nx _ _ _ _ _ _ n' q⟩
            cases tg with
            | nm j =>
              simp only [agTg] at ht
              split at ht
              · rename_i id2 p2'
                simp only [Bool.and_eq_true, decide_eq_true_eq] at ht
                obtain ⟨s1, s2⟩ := O.sto id2 ht.2
                exact ws_of (ps_set O.nd ht.1 s1 p1 (swaps_plain rfl _ _ _) s2) goal
              · cases ht
            | tup is =>
              have hw : swappedStores [t] (.Call ca cb cc cd) X.env = pure none := by
                cases t <;> first | (simp [agTg] at ht; done) | rfl
              have hs : swapsWithSole [t] (.Call ca cb cc cd) pos.line X.env = pure false := rfl
              exact ws_of (ps_asg p1 (pg_ok O.nd O.calm O.sto ht) hs hw (by cases t <;> first | (simp [agTg] at ht; done) | rfl)) goal
          · exact w.elim
        · exact w.elim
      · cases hag
    · cases hag
  · cases hag
theorem st_for {tg : Tg} {it : It} {b : Ss} {t x : Expr} {p : List Stmt} {pos : Pos} (O : SOk C T Cl X) (ht : agTg X.env.scope X.env.scope X.N tg t = true) (hi : agI T X.env.scope X.N it x = true) (hzz : zipOk it t = true) (hs : notSet x = true) (ho : ∀ i, it ≠ .own i)
    (hb : SSs C Cl X b p) : SS C Cl X (.for tg it b) (.For t x p [] pos) := fun csb Fb cs0 F0 H0 D D' ρ h σ cs F H d n w => by
  simp only [WpS] at w
  refine ws_of (ps_for O.pass O.calm pi_we (pg_ok O.nd O.calm O.sto ht) pss_we (folded_of hs _)) ?_
  refine sI it false t x X O.toXOk hi (fun ⟨i, e⟩ => absurd e (ho i)) hzz _ _ _ _ _ _ _ _ n.S n.V w fun J items chk G Y cs1 F1 H1 h1 x1 S1 wk hG hY q1 => ?_
  have n1 := n.step x1 S1
  refine for_it wk (fun i σ' H' => ∃ cs2 F2 h2 ρ2, Nt X.K Cl cs1 F1 cs0 F0 H0 cs2 F2 H' h2 σ' ρ2 ∧ forL (fun x D ρ h => tgK tg x ρ fun ρ' => WpSs C b D ρ' h) chk D (items.drop i) ρ2 h2) ?_ ?_ ?_ ?_
  · exact ⟨cs1, F1, h1, ρ, n1.base, q1⟩
  · rintro i σ' H' hi ⟨cs2, F2, h2, ρ2, n2, q2⟩
    refine hG cs2 F2 H' h2 n2.y n2.S ?_
    cases hd : items.drop i with
    | nil => rw [hd] at q2; exact q2.1
    | cons z r => rw [hd] at q2; exact q2.1
  · rintro i v σ' H' H3 hi ⟨cs2, F2, h2, ρ2, n2, q2⟩ hy
    rw [List.drop_eq_getElem_cons hi] at q2
    obtain ⟨ck, q2⟩ := q2
    obtain ⟨F3, x3, S3, rv⟩ := hY i H' v H3 cs2 F2 h2 _ n2.S n2.y.1 n2.y.2 (List.getElem?_eq_getElem hi) ck hy
    have n3 := n2.step x3 S3
    refine nt_tg n3 rv q2 fun σ4 ρ4 n4 q4 => ?_
    refine hb _ _ _ _ _ { D with nx := forL (fun x D ρ h => tgK tg x ρ fun ρ' => WpSs C b D ρ' h) chk D (items.drop (i + 1)), ct := forL (fun x D ρ h => tgK tg x ρ fun ρ' => WpSs C b D ρ' h) chk D (items.drop (i + 1)), bk := D.nx } _ _ _ _ _ _ _ ⟨?_, d.rt, ?_, ?_, d.ex.imp fun W z => ⟨z.1, fun c n cs F H h σ ρ n5 => z.2 c n cs F H h σ ρ (n5.unbase n1.y)⟩⟩ n4 q4
    · intro cs5 F5 H5 h5 σ5 ρ5 n5 q5
      exact ⟨cs5, F5, h5, ρ5, n5, q5⟩
    · intro cs5 F5 H5 h5 σ5 ρ5 n5 q5
      exact d.nx _ _ _ _ _ _ (n5.unbase n1.y) q5
    · intro cs5 F5 H5 h5 σ5 ρ5 n5 q5
      exact ⟨cs5, F5, h5, ρ5, n5, q5⟩
  · rintro σ' H' ⟨cs2, F2, h2, ρ2, n2, q2⟩
    rw [List.drop_of_length_le (Nat.le_refl _)] at q2
    exact d.nx _ _ _ _ _ _ (n2.unbase n1.y) q2.2
end

/-! ### raise -/
section
variable {C : Ctx} {T : Tab} {Cl : Nat → Addr} {X : Cx}
theorem upd_twice {H : Hp} {a : Addr} {o o2 : HO} : upd (upd H a o) a o2 = upd H a o2 := by
  funext b
  unfold upd
  split <;> rfl
theorem st_rse {c : Nat} {e : E} {st : Stmt} (O : SOk C T Cl X) (hag : agS T X.env.scope X.N (.rse c e) st = true) : SS C Cl X (.rse c e) st := fun csb Fb cs0 F0 H0 D D' ρ h σ cs F H d n w => by
  simp only [agS] at hag
  split at hag
  · rename_i x p a cpos pos
    simp only [Bool.and_eq_true, decide_eq_true_eq] at hag
    obtain ⟨⟨⟨⟨h1, h2⟩, h3⟩, h4⟩, h5⟩ := hag
    have M := O.exc c x h1
    obtain ⟨fI, k, fd, i1, i2, F1, room, bnd⟩ := M.ini
    obtain ⟨W, tk, hW⟩ := d.ex
    have ha : PA X [a] (tCons (WE X a) tNil) := pa_cons pe_we pa_nil (star_cons h4 _ _)
    have P1 := pmk_oex (p := p) (pos := cpos) (CX := CX0) M.ox i1 i2 F1 room bnd (dvs := []) .nil (fun _ _ _ _ _ _ _ z => False.elim z) (glB_ok h2) M.mg ha (plainName_ok h3).1 (star_cons h4 _ _) rfl
    refine ws_of (ps_raise O.calm tk P1) ?_
    simp only [WpS] at w
    refine sE e false a X O.toXOk h5 _ _ _ _ _ _ _ _ n.S n.V w fun v1 d1 cs1 F1 H1 h1 x1 S1 r1 q1 => ?_
    split at q1
    · rename_i z
      cases r1.int
      refine ⟨by simp, fun a0 ha0 => ?_⟩
      refine ⟨a0, Cl c, z, by simp, M.ox, M.row, upd_same, fun dx hdx hne => ⟨rfl, dx, [("row", .int z)], upd_same, ?_, ?_, ?_⟩⟩
      · rw [upd_ne hne, upd_same]
      · rw [upd_ne hne] at hdx; exact hdx
      · rw [upd_ne hne] at hdx
        have e2 : upd (del (upd (upd (upd H1 a0 (exo a0 (Cl c) none)) dx (exd dx [("row", .int z)])) a0 (exo a0 (Cl c) (some dx))) a0) dx (.xd [("row", .int z)]) = upd H1 dx (.xd [("row", .int z)]) := by
          funext b
          by_cases hb : b = dx
          · subst hb; rw [upd_same, upd_same]
          · rw [upd_ne hb, upd_ne hb]
            by_cases hc : b = a0
            · subst hc; rw [del_same, ha0]
            · rw [del_ne hc, upd_ne hc, upd_ne hb, upd_ne hc]
        have := hW c z _ _ _ _ _ _ (n.step x1 S1) q1 dx hdx
        rw [← e2] at this
        exact this
    · exact q1.elim
  · cases hag
end

/-! ### every statement that agrees -/
section
variable {C : Ctx} {T : Tab} {Cl : Nat → Addr} {X : Cx}
theorem agSs_cons {sc : Scope} {N : List Str} {s : S} {r : Ss} {st : List Stmt} (h : agSs T sc N (.cons s r) st = true) : (∃ i, s = .frz i ∧ agSs T sc N r st = true) ∨ ∃ x xs, st = x :: xs ∧ agS T sc N s x = true ∧ agSs T sc N r xs = true := by
  cases s with
  | frz i => exact .inl ⟨i, rfl, by simpa only [agSs] using h⟩
  | _ =>
    right
    cases st with
    | nil => simp [agSs] at h
    | cons x xs =>
      simp only [agSs, Bool.and_eq_true] at h
      exact ⟨_, _, rfl, h.1, h.2⟩
mutual
theorem sS (O : SOk C T Cl X) (hk : X.env.scope.kind = .function) : ∀ (s : S) (st : Stmt), agS T X.env.scope X.N s st = true → SS C Cl X s st
  | .asg tg e, st, h => st_asg O hk h
  | .asgO i n, st, h => st_asgO O hk h
  | .frz i, st, h => by simp [agS] at h
  | .par i j a b, st, h => st_par O hk h
  | .par3 i j l a b c, st, h => st_par3 O hk h
  | .aug i op e, st, h => st_aug O h
  | .app i e, st, h => st_app O h
  | .appE o e, st, h => st_appE O h
  | .ext i e, st, h => st_ext O h
  | .extE o e, st, h => st_extE O h
  | .popS i, st, h => st_popS O h
  | .rem i e, st, h => st_rem O h
  | .popA tg i, st, h => st_popA O h
  | .put i k e, st, h => st_put O h
  | .putE o k e, st, h => st_putE O h
  | .fld o f e, st, h => st_fld O h
  | .expr e, st, h => fun csb Fb cs0 F0 H0 D D' ρ h' σ cs F H d n w => by
    simp only [agS] at h
    split at h
    · simp only [Bool.and_eq_true] at h
      simp only [WpS] at w
      exact ws_of (ps_expr pe_we (swaps_plain h.2 _ _ _)) (sE e false _ X O.toXOk h.1 _ _ _ _ _ _ _ _ n.S n.V w fun v1 d1 cs1 F1 H1 h1 x1 S1 r1 q1 => d.nx _ _ _ _ _ _ (n.step x1 S1) q1)
    · cases h
  | .ret e, st, h => fun csb Fb cs0 F0 H0 D D' ρ h' σ cs F H d n w => by
    simp only [agS] at h
    split at h
    · simp only [WpS] at w
      exact ws_of (ps_ret pe_we) (sE e false _ X O.toXOk h _ _ _ _ _ _ _ _ n.S n.V w fun v1 d1 cs1 F1 H1 h1 x1 S1 r1 q1 => d.rt _ _ _ _ _ _ (n.x.trans x1) S1 r1.plain q1)
    · cases h
  | .retN, st, h => fun csb Fb cs0 F0 H0 D D' ρ h' σ cs F H d n w => by
    simp only [agS] at h
    split at h
    · simp only [WpS] at w
      exact ws_of ps_retN (d.rt _ _ _ _ _ _ n.x n.S .non w)
    · cases h
  | .ite c a b, st, h => by
    simp only [agS] at h
    split at h
    · simp only [Bool.and_eq_true] at h
      exact st_ite O h.1.1 (sSs O hk a _ h.1.2) (sSs O hk b _ h.2)
    · cases h
  | .wh c b, st, h => by
    simp only [agS] at h
    split at h
    · simp only [Bool.and_eq_true] at h
      exact st_wh O h.1 (sSs O hk b _ h.2)
    · cases h
  | .for tg it b, st, h => by
    simp only [agS] at h
    split at h
    · simp only [Bool.and_eq_true] at h
      obtain ⟨⟨⟨⟨⟨h1, h2⟩, hzz⟩, h3⟩, h4⟩, h5⟩ := h
      refine st_for O h1 h2 hzz h3 ?_ (sSs O hk b _ h5)
      intro i e
      subst e
      cases h4
    · cases h
  | .pass, st, h => fun csb Fb cs0 F0 H0 D D' ρ h' σ cs F H d n w => by
    simp only [agS] at h
    split at h
    · simp only [WpS] at w
      exact ws_of ps_pass (d.nx _ _ _ _ _ _ n w)
    · cases h
  | .brk, st, h => fun csb Fb cs0 F0 H0 D D' ρ h' σ cs F H d n w => by
    simp only [agS] at h
    split at h
    · simp only [WpS] at w
      exact ws_of ps_break (d.bk _ _ _ _ _ _ n w)
    · cases h
  | .cont, st, h => fun csb Fb cs0 F0 H0 D D' ρ h' σ cs F H d n w => by
    simp only [agS] at h
    split at h
    · simp only [WpS] at w
      exact ws_of ps_continue (d.ct _ _ _ _ _ _ n w)
    · cases h
  | .bad, st, h => fun csb Fb cs0 F0 H0 D D' ρ h' σ cs F H d n w => by
    simp only [WpS] at w
  | .rse c e, st, h => st_rse O h
theorem sSs (O : SOk C T Cl X) (hk : X.env.scope.kind = .function) : ∀ (s : Ss) (st : List Stmt), agSs T X.env.scope X.N s st = true → SSs C Cl X s st
  | .nil, st, h => fun csb Fb cs0 F0 H0 D D' ρ h' σ cs F H d n w => by
    simp only [agSs] at h
    split at h
    · simp only [WpSs] at w
      exact wss_of pss_nil (d.nx _ _ _ _ _ _ n w)
    · cases h
  | .cons s r, st, h => fun csb Fb cs0 F0 H0 D D' ρ h' σ cs F H d n w => by
    simp only [WpSs] at w
    rcases agSs_cons h with ⟨i, rfl, h⟩ | ⟨x, xs, rfl, h1, h2⟩
    · simp only [WpS] at w
      split at w
      · rename_i xs hx
        obtain ⟨F', n'⟩ := n.frz hx
        exact sSs O hk r st h _ _ _ _ _ _ _ _ _ _ _ _ _ d n' w
      · rename_i xs hx
        obtain ⟨a, us, ea, lk⟩ := n.frzD hx
        intro pins s I
        obtain ⟨od, I2⟩ := I.lock ea trivial
        obtain ⟨F', n'⟩ := lk od
        exact sSs O hk r st h _ _ _ _ _ _ _ _ _ _ _ _ _ d n' w pins s I2
      · exact w.elim
    · refine wss_of (pss_cons ps_we pss_we) (sS O hk s _ h1 _ _ _ _ _ _ { D' with nx := WSs X _ D' } _ _ _ _ _ _ (d.seq fun cs2 F2 H2 h2' σ2 ρ2 n2 q2 => ?_) n w)
      exact sSs O hk r _ h2 _ _ _ _ _ _ _ _ _ _ _ _ _ d n2 q2
end
end
end VL

set_option maxRecDepth 100000
set_option maxHeartbeats 4000000
/-! VL: defs that try a call. -/
namespace VL
open PySem L2 Evl PyProof.Rows PySem.Spec
/-! ### what a clause lays -/
inductive Grow : Hp → Hp → Prop where
  | refl {H : Hp} : Grow H H
  | new {H H' : Hp} {p : Addr} {o : HO} : Grow H H' → H' p = none → Grow H (upd H' p o)
theorem Grow.trans {H H' H'' : Hp} (g : Grow H H') (k : Grow H' H'') : Grow H H'' := by
  induction k with
  | refl => exact g
  | new _ h ih => exact .new ih h
theorem Grow.keep {H H' : Hp} (g : Grow H H') {b : Addr} {o : HO} (e : H b = some o) : H' b = some o := by
  induction g with
  | refl => exact e
  | @new H' p o' _ h ih =>
    have : b ≠ p := fun z => by subst z; rw [ih] at h; cases h
    rw [upd_ne this]; exact ih
theorem Grow.step {K : PySem.W.Frag} {Cl : Nat → Addr} {cs : List Addr} {F H H' : Hp} {h : AHeap} (g : Grow H H') (S : StOk K Cl cs F H h) : StOk K Cl cs F H' h ∧ Stp cs F H cs F H' := by
  induction g with
  | refl => exact ⟨S, .refl⟩
  | new _ hp ih => exact ⟨ih.1.newN hp, ih.2.trans (Stp.newN hp)⟩
/-! ### agreement -/
def agEv (sc : Scope) (N : List Str) (i : Nat) (x : Expr) : Bool := match x with
  | .Name id _ => decide (N[i]? = some id) && decide (sc.names.lookup id = some .local) && plainName id
  | _ => false
def agXs (T : Tab) (sc : Scope) : List Nat → List Expr → Bool
  | [], xs => match xs with
    | [] => true
    | _ => false
  | d :: ds, xs => match xs with
    | .Name id _ :: r => decide (T.xname d = some id) && glB sc id && plainName id && agXs T sc ds r
    | _ => false
def agHB (T : Tab) (sc : Scope) (N : List Str) (i : Nat) : HB → Expr → Bool
  | .isC d, x => match x with
    | .Call (.Name id _) [y, .Name id2 _] [] _ => decide (id = "isinstance") && glB sc id && agEv sc N i y && notStar y && decide (T.xname d = some id2) && glB sc id2 && plainName id2
    | _ => false
  | .isT ds, x => match x with
    | .Call (.Name id _) [y, .Tuple xs _ _] [] _ => decide (id = "isinstance") && glB sc id && agEv sc N i y && notStar y && agXs T sc ds xs && decide (ds.length < 100)
    | _ => false
  | .isVE, x => match x with
    | .Call (.Name id _) [y, .Name id2 _] [] _ => decide (id = "isinstance") && glB sc id && agEv sc N i y && notStar y && decide (id2 = "ValueError") && glB sc id2
    | _ => false
  | .row, x => match x with
    | .Call (.Name id _) [.Attribute y f _, .Name id2 _] [] _ => decide (id = "isinstance") && glB sc id && agEv sc N i y && notSup y && decide (f = "row") && decide (id2 = "bool") && glB sc id2
    | _ => false
  | .and a b, x => match x with
    | .BoolOp .And (y :: z :: rest) p => agHB T sc N i a y && agHB T sc N i b (tail2 .And z p rest)
    | _ => false
  | .or a b, x => match x with
    | .BoolOp .Or (y :: z :: rest) p => agHB T sc N i a y && agHB T sc N i b (tail2 .Or z p rest)
    | _ => false
  | .not a, x => match x with
    | .UnaryOp .Not y _ => agHB T sc N i a y
    | _ => false
def agRow (sc : Scope) (N : List Str) (i : Nat) (x : Expr) : Bool := match x with
  | .Attribute y f _ => agEv sc N i y && notSup y && decide (f = "row")
  | _ => false
def agHE (T : Tab) (sc : Scope) (N : List Str) (i : Nat) : HE → Expr → Bool
  | .non, x => match x with
    | .Constant .none _ _ => true
    | _ => false
  | .bl b, x => match x with
    | .Constant (.bool j) _ _ => decide (b = j)
    | _ => false
  | .row, x => agRow sc N i x
  | .hb b, x => agHB T sc N i b x
  | .pair z, x => match x with
    | .Tuple [.Constant (.str y) _ _, w] _ _ => decide (z = y) && agRow sc N i w && notStar w
    | _ => false
def agGs (T : Tab) (sc : Scope) (N : List Str) (i : Nat) (fin : Option HE) : List (HB × HE) → List Stmt → Bool
  | [], st => match fin with
    | none => match st with
      | [] => true
      | _ => false
    | some e => match st with
      | [.Return (some x) _] => agHE T sc N i e x
      | _ => false
  | (b, e) :: r, st => match st with
    | .If t [.Return (some x) _] [] _ :: st' => agHB T sc N i b t && agHE T sc N i e x && agGs T sc N i fin r st'
    | _ => false
/-- what the written part says of a caught class -/
structure Cau (K : PySem.W.Frag) (P : Prg) (Cl : Nat → Addr) (c : Nat) : Prop where
  D : ExcD K (Cl c)
  F : XfC K (Cl c)
  row : PySem.W.findIn K (.ref (Cl c)) "row" = some none
  ve : PySem.W.kitOne K (.ref (Cl c)) (.type "ValueError") = some true
  sub : ∀ d b, P.sub.lookup (c, d) = some b → PySem.W.kitOne K (.ref (Cl c)) (.ref (Cl d)) = some b
section
variable {T : Tab} {Cl : Nat → Addr} {X : Cx} {P : Prg} {a dd : Addr} {oe : Obj} {pn : List (Addr × Obj)} {c i : Nat} {n : Int}
theorem agXs_ok (hx : ∀ d x, T.xname d = some x → X.mg x = some (.ref (Cl d))) : ∀ (ds : List Nat) (xs : List Expr), agXs T X.env.scope ds xs = true →
    ∃ t : TA, PA (X.suite a ((a, oe) :: pn)) xs t ∧ ∀ σ H Q, Q (ds.map fun d => V.ref (Cl d)) H → t σ H Q
  | [], xs, h => by
    simp only [agXs] at h
    split at h
    · exact ⟨_, pa_nil, fun σ H Q q => q⟩
    · cases h
  | d :: ds, xs, h => by
    simp only [agXs] at h
    split at h
    · rename_i id p xs
      simp only [Bool.and_eq_true, decide_eq_true_eq] at h
      obtain ⟨⟨⟨h1, h2⟩, h3⟩, h4⟩ := h
      obtain ⟨t, pt, ht⟩ := agXs_ok hx ds xs h4
      have p1 : PE (X.suite a ((a, oe) :: pn)) (.Name id p) (tC (.ref (Cl d))) := pe_glob (X := X.suite a ((a, oe) :: pn)) (glB_ok (X := X.suite a ((a, oe) :: pn)) h2) (hx d id h1) rfl (plainName_ok h3).1
      exact ⟨_, pa_cons p1 pt rfl, fun σ H Q q => ht _ _ _ q⟩
    · cases h
theorem agEv_ok {y : Expr} (h : agEv X.env.scope X.N i y = true) : PE (X.suite a ((a, oe) :: pn)) y (tVar i) := by
  unfold agEv at h
  split at h
  · rename_i id p
    simp only [Bool.and_eq_true, decide_eq_true_eq] at h
    obtain ⟨⟨h1, h2⟩, h3⟩ := h
    obtain ⟨n1, n2, _⟩ := plainName_ok h3
    exact pe_var (X := X.suite a ((a, oe) :: pn)) h1 (visB_ok (by unfold visB; rw [h2])) n1 n2
  · cases h
theorem any_kit (C : Cau X.K P Cl c) : ∀ (ds : List Nat) (k : Bool), hbV.anyT P c ds = some k → PySem.W.kitAny X.K (.ref (Cl c)) (ds.map fun d => Value.ref (Cl d)) = some k
  | [], k, h => h
  | d :: ds, k, h => by
    unfold hbV.anyT at h
    rw [List.map_cons]
    unfold PySem.W.kitAny
    split at h
    · rename_i e
      rw [C.sub d true e]; exact h
    · rename_i e
      rw [C.sub d false e]; exact any_kit C ds k h
    · cases h
theorem cls_all : ∀ ds : List Nat, Paired ClsV (ds.map fun d => V.ref (Cl d)) (ds.map fun d => Value.ref (Cl d))
  | [] => .nil
  | d :: ds => .cons (.own _) (cls_all ds)
/-- what a clause's tests need -/
structure Bf (T : Tab) (Cl : Nat → Addr) (X : Cx) : Prop where
  blt : ∀ x, x ∈ bltNames → X.mg x = none
  ve : X.mg "ValueError" = none
  xn : ∀ d x, T.xname d = some x → X.mg x = some (.ref (Cl d))
def leafB : HB → Bool
  | .and _ _ => false
  | .or _ _ => false
  | .not _ => false
  | _ => true
theorem hb_leaf (B : Bf T Cl X) (C : Cau X.K P Cl c) (hz : Zc (.ref (Cl c)) (some dd) oe) (hf : ∃ vs, oe.data = .fields vs) {σ : L2.St} {H : Hp} {Q : VK} (hσ : σ[i]? = some (some (.ref a))) (hd : H dd = some (.xd [("row", .int n)])) :
    ∀ (b : HB) (x : Expr) (k : Bool), leafB b = true → agHB T X.env.scope X.N i b x = true → hbV P c b = some k → (∀ H', Grow H H' → Q (.bl k) H') → WE (X.suite a ((a, oe) :: pn)) x σ H Q
  | .isC d, x, k, _, h, hk, q => by
    simp only [agHB] at h
    split at h
    · rename_i id p1 y id2 p2 pos
      simp only [Bool.and_eq_true, decide_eq_true_eq] at h
      obtain ⟨⟨⟨⟨⟨⟨rfl, h1⟩, h2⟩, hs⟩, h3⟩, h4⟩, h5⟩ := h
      have pt : PE (X.suite a ((a, oe) :: pn)) (.Name id2 p2) (tC (.ref (Cl d))) := pe_glob (X := X.suite a ((a, oe) :: pn)) (glB_ok (X := X.suite a ((a, oe) :: pn)) h4) (B.xn d id2 h3) rfl (plainName_ok h5).1
      exact we_of (pe_callB (X := X.suite a ((a, oe) :: pn)) (call_isX C.D hz hf) (glB_ok (X := X.suite a ((a, oe) :: pn)) h1) (B.blt _ (by decide +kernel)) (by decide +kernel) (pa_cons (agEv_ok h2) (pa_cons pt pa_nil) (star_cons hs _ _)) (by decide +kernel) (by decide +kernel) (star_cons hs _ _))
        ⟨_, hσ, _, .ref (Cl d), k, _, rfl, fun u r => r, C.sub d k hk, hd, q _ .refl⟩
    · cases h
  | .isT ds, x, k, _, h, hk, q => by
    simp only [agHB] at h
    split at h
    · rename_i id p1 y xs tk tp pos
      simp only [Bool.and_eq_true, decide_eq_true_eq] at h
      obtain ⟨⟨⟨⟨⟨rfl, h1⟩, h2⟩, hs⟩, h3⟩, h4⟩ := h
      obtain ⟨t, pt, ht⟩ := agXs_ok (oe := oe) (pn := pn) (a := a) B.xn ds xs h3
      refine we_of (pe_callB (X := X.suite a ((a, oe) :: pn)) (call_isXT C.D hz hf) (glB_ok (X := X.suite a ((a, oe) :: pn)) h1) (B.blt _ (by decide +kernel)) (by decide +kernel) (pa_cons (agEv_ok h2) (pa_cons (pe_tup pt) pa_nil rfl) (star_cons hs _ _)) (by decide +kernel) (by decide +kernel) (star_cons hs _ _))
        ⟨_, hσ, ht _ _ _ ⟨by rw [List.length_map, sizeLine_eq]; omega, fun p hp => ?_⟩⟩
      have ne : dd ≠ p := fun z => by subst z; rw [hd] at hp; cases hp
      exact ⟨p, _, _, k, _, rfl, upd_same, cls_all ds, any_kit C ds k hk, by rw [upd_ne ne]; exact hd, q _ (.new .refl hp)⟩
    · cases h
  | .isVE, x, k, _, h, hk, q => by
    simp only [agHB] at h
    split at h
    · rename_i id p1 y id2 p2 pos
      simp only [Bool.and_eq_true, decide_eq_true_eq] at h
      obtain ⟨⟨⟨⟨⟨rfl, h1⟩, h2⟩, hs⟩, rfl⟩, h4⟩ := h
      have pt : PE (X.suite a ((a, oe) :: pn)) (.Name "ValueError" p2) (tC (.ty "ValueError")) := pe_bltn (X := X.suite a ((a, oe) :: pn)) (u := .type "ValueError") (glB_ok (X := X.suite a ((a, oe) :: pn)) h4) B.ve (by decide +kernel) rfl (by decide +kernel) (by decide +kernel)
      unfold hbV at hk
      cases hk
      exact we_of (pe_callB (X := X.suite a ((a, oe) :: pn)) (call_isX C.D hz hf) (glB_ok (X := X.suite a ((a, oe) :: pn)) h1) (B.blt _ (by decide +kernel)) (by decide +kernel) (pa_cons (agEv_ok h2) (pa_cons pt pa_nil) (star_cons hs _ _)) (by decide +kernel) (by decide +kernel) (star_cons hs _ _))
        ⟨_, hσ, _, .type "ValueError", true, _, rfl, fun u r => (ClsV.ty _).eq r, C.ve, hd, q _ .refl⟩
    · cases h
  | .row, x, k, _, h, hk, q => by
    simp only [agHB] at h
    split at h
    · rename_i id p1 y f pf id2 p2 pos
      simp only [Bool.and_eq_true, decide_eq_true_eq] at h
      obtain ⟨⟨⟨⟨⟨⟨rfl, h1⟩, h2⟩, hs⟩, rfl⟩, rfl⟩, h4⟩ := h
      have pt : PE (X.suite a ((a, oe) :: pn)) (.Name "bool" p2) (tC (.ty "bool")) := pe_bltn (X := X.suite a ((a, oe) :: pn)) (u := .type "bool") (glB_ok (X := X.suite a ((a, oe) :: pn)) h4) (B.blt _ (by decide +kernel)) (by decide +kernel) rfl (by decide +kernel) (by decide +kernel)
      unfold hbV at hk
      cases hk
      exact we_of (pe_callB (X := X.suite a ((a, oe) :: pn)) call_isi (glB_ok (X := X.suite a ((a, oe) :: pn)) h1) (B.blt _ (by decide +kernel)) (by decide +kernel) (pa_cons (pe_xf C.F C.row hz hf (agEv_ok h2) (base_of hs _ _)) (pa_cons pt pa_nil) rfl) (by decide +kernel) (by decide +kernel) rfl)
        ⟨_, hσ, rfl, rfl, dd, _, .int n, rfl, hd, rfl, ⟨.int n, .ty "bool", .type "int", .type "bool", false, rfl, .ty "bool", .base (.int _), kit_ty (by decide +kernel), q _ .refl⟩⟩
    · cases h
theorem hb_e (B : Bf T Cl X) (C : Cau X.K P Cl c) (hz : Zc (.ref (Cl c)) (some dd) oe) (hf : ∃ vs, oe.data = .fields vs) :
    ∀ (b : HB) (x : Expr) (k : Bool), agHB T X.env.scope X.N i b x = true → hbV P c b = some k → ∀ {σ : L2.St} {H : Hp} {Q : VK}, σ[i]? = some (some (.ref a)) → H dd = some (.xd [("row", .int n)]) → (∀ H', Grow H H' → Q (.bl k) H') → WE (X.suite a ((a, oe) :: pn)) x σ H Q
  | .isC d, x, k, h, hk, σ, H, Q, hσ, hd, q => hb_leaf B C hz hf hσ hd (.isC d) x k rfl h hk q
  | .isT d, x, k, h, hk, σ, H, Q, hσ, hd, q => hb_leaf B C hz hf hσ hd (.isT d) x k rfl h hk q
  | .isVE, x, k, h, hk, σ, H, Q, hσ, hd, q => hb_leaf B C hz hf hσ hd .isVE x k rfl h hk q
  | .row, x, k, h, hk, σ, H, Q, hσ, hd, q => hb_leaf B C hz hf hσ hd .row x k rfl h hk q
  | .and u v, x, k, h, hk, σ, H, Q, hσ, hd, q => by
    simp only [agHB] at h
    split at h
    · rename_i y z rest p
      simp only [Bool.and_eq_true] at h
      unfold hbV at hk
      split at hk
      · rename_i e
        refine we_of (pe_and pe_we (pe_two (y := y) pe_we)) (hb_e B C hz hf u y true h.1 e hσ hd fun H1 g1 => ⟨true, rfl, ?_⟩)
        rw [if_pos rfl]
        exact hb_e B C hz hf v _ k h.2 hk hσ (g1.keep hd) fun H2 g2 => q _ (g1.trans g2)
      · rename_i e
        cases hk
        refine we_of (pe_and pe_we (pe_two (y := y) pe_we)) (hb_e B C hz hf u y false h.1 e hσ hd fun H1 g1 => ⟨false, rfl, ?_⟩)
        rw [if_neg Bool.false_ne_true]
        exact q _ g1
      · cases hk
    · cases h
  | .or u v, x, k, h, hk, σ, H, Q, hσ, hd, q => by
    simp only [agHB] at h
    split at h
    · rename_i y z rest p
      simp only [Bool.and_eq_true] at h
      unfold hbV at hk
      split at hk
      · rename_i e
        cases hk
        refine we_of (pe_or pe_we (pe_two (y := y) pe_we)) (hb_e B C hz hf u y true h.1 e hσ hd fun H1 g1 => ⟨true, rfl, ?_⟩)
        rw [if_pos rfl]
        exact q _ g1
      · rename_i e
        refine we_of (pe_or pe_we (pe_two (y := y) pe_we)) (hb_e B C hz hf u y false h.1 e hσ hd fun H1 g1 => ⟨false, rfl, ?_⟩)
        rw [if_neg Bool.false_ne_true]
        exact hb_e B C hz hf v _ k h.2 hk hσ (g1.keep hd) fun H2 g2 => q _ (g1.trans g2)
      · cases hk
    · cases h
  | .not u, x, k, h, hk, σ, H, Q, hσ, hd, q => by
    simp only [agHB] at h
    split at h
    · rename_i y p
      unfold hbV at hk
      obtain ⟨k', e, rfl⟩ := Option.map_eq_some_iff.mp hk
      exact we_of (pe_not pe_we) (hb_e B C hz hf u y k' h e hσ hd fun H1 g1 => ⟨k', rfl, q _ g1⟩)
    · cases h
theorem leaf_plain : ∀ (b : HB) (x : Expr) (sc : Scope) (N : List Str), leafB b = true → agHB T sc N i b x = true → plainT x = true
  | .isC d, x, sc, N, _, h => by simp only [agHB] at h; split at h <;> first | rfl | cases h
  | .isT d, x, sc, N, _, h => by simp only [agHB] at h; split at h <;> first | rfl | cases h
  | .isVE, x, sc, N, _, h => by simp only [agHB] at h; split at h <;> first | rfl | cases h
  | .row, x, sc, N, _, h => by simp only [agHB] at h; split at h <;> first | rfl | cases h
theorem hb_lt (B : Bf T Cl X) (C : Cau X.K P Cl c) (hz : Zc (.ref (Cl c)) (some dd) oe) (hf : ∃ vs, oe.data = .fields vs) {σ : L2.St} {H : Hp} {Q : Bool → Hp → Prop} (hσ : σ[i]? = some (some (.ref a))) (hd : H dd = some (.xd [("row", .int n)]))
    (b : HB) (x : Expr) (k : Bool) (hl : leafB b = true) (h : agHB T X.env.scope X.N i b x = true) (hk : hbV P c b = some k) (q : ∀ H', Grow H H' → Q k H') : WT (X.suite a ((a, oe) :: pn)) x σ H Q :=
  wt_of (pt_truth pe_we (plainT_ok (leaf_plain b x _ _ hl h) _)) (hb_leaf B C hz hf hσ hd b x k hl h hk fun H' g => ⟨k, rfl, q H' g⟩)
theorem hb_t (B : Bf T Cl X) (C : Cau X.K P Cl c) (hz : Zc (.ref (Cl c)) (some dd) oe) (hf : ∃ vs, oe.data = .fields vs) :
    ∀ (b : HB) (x : Expr) (k : Bool), agHB T X.env.scope X.N i b x = true → hbV P c b = some k → ∀ {σ : L2.St} {H : Hp} {Q : Bool → Hp → Prop}, σ[i]? = some (some (.ref a)) → H dd = some (.xd [("row", .int n)]) → (∀ H', Grow H H' → Q k H') → WT (X.suite a ((a, oe) :: pn)) x σ H Q
  | .isC d, x, k, h, hk, σ, H, Q, hσ, hd, q => hb_lt B C hz hf hσ hd (.isC d) x k rfl h hk q
  | .isT d, x, k, h, hk, σ, H, Q, hσ, hd, q => hb_lt B C hz hf hσ hd (.isT d) x k rfl h hk q
  | .isVE, x, k, h, hk, σ, H, Q, hσ, hd, q => hb_lt B C hz hf hσ hd .isVE x k rfl h hk q
  | .row, x, k, h, hk, σ, H, Q, hσ, hd, q => hb_lt B C hz hf hσ hd .row x k rfl h hk q
  | .and u v, x, k, h, hk, σ, H, Q, hσ, hd, q => by
    simp only [agHB] at h
    split at h
    · rename_i y z rest p
      simp only [Bool.and_eq_true] at h
      have hzz : PW (X.suite a ((a, oe) :: pn)) (.BoolOp .And (z :: rest) p) (WT (X.suite a ((a, oe) :: pn)) (tail2 .And z p rest)) := by
        cases rest with
        | nil => exact pw_and1 pt_we
        | cons w r => exact pw_of pt_we
      unfold hbV at hk
      split at hk
      · rename_i e
        refine wt_of (pw_and pt_we hzz).pt (hb_t B C hz hf u y true h.1 e hσ hd fun H1 g1 => ?_)
        rw [if_pos rfl]
        exact hb_t B C hz hf v _ k h.2 hk hσ (g1.keep hd) fun H2 g2 => q _ (g1.trans g2)
      · rename_i e
        cases hk
        refine wt_of (pw_and pt_we hzz).pt (hb_t B C hz hf u y false h.1 e hσ hd fun H1 g1 => ?_)
        rw [if_neg Bool.false_ne_true]
        exact q _ g1
      · cases hk
    · cases h
  | .or u v, x, k, h, hk, σ, H, Q, hσ, hd, q => by
    simp only [agHB] at h
    split at h
    · rename_i y z rest p
      simp only [Bool.and_eq_true] at h
      have hzz : PW (X.suite a ((a, oe) :: pn)) (.BoolOp .Or (z :: rest) p) (WT (X.suite a ((a, oe) :: pn)) (tail2 .Or z p rest)) := by
        cases rest with
        | nil => exact pw_or1 pt_we
        | cons w r => exact pw_of pt_we
      unfold hbV at hk
      split at hk
      · rename_i e
        cases hk
        refine wt_of (pw_or pt_we hzz).pt (hb_t B C hz hf u y true h.1 e hσ hd fun H1 g1 => ?_)
        rw [if_pos rfl]
        exact q _ g1
      · rename_i e
        refine wt_of (pw_or pt_we hzz).pt (hb_t B C hz hf u y false h.1 e hσ hd fun H1 g1 => ?_)
        rw [if_neg Bool.false_ne_true]
        exact hb_t B C hz hf v _ k h.2 hk hσ (g1.keep hd) fun H2 g2 => q _ (g1.trans g2)
      · cases hk
    · cases h
  | .not u, x, k, h, hk, σ, H, Q, hσ, hd, q => by
    simp only [agHB] at h
    split at h
    · rename_i y p
      unfold hbV at hk
      obtain ⟨k', e, rfl⟩ := Option.map_eq_some_iff.mp hk
      exact wt_of (pt_not pt_we) (hb_t B C hz hf u y k' h e hσ hd fun H1 g1 => q _ g1)
    · cases h
/-- a value that a clause returns -/
def Rt (H H' : Hp) (v : V) (d : AV) : Prop := (Grow H H' ∧ ∀ K cs F, Rep K cs F v d) ∨ ∃ H0 p vs ds, Grow H H0 ∧ H0 p = none ∧ H' = upd H0 p (.tup vs) ∧ v = .ref p ∧ d = .tup ds ∧ ∀ K cs F, Reps K cs F vs ds
theorem row_e (B : Bf T Cl X) (C : Cau X.K P Cl c) (hz : Zc (.ref (Cl c)) (some dd) oe) (hf : ∃ vs, oe.data = .fields vs) {σ : L2.St} {H : Hp} {Q : VK} {x : Expr} (h : agRow X.env.scope X.N i x = true) (hσ : σ[i]? = some (some (.ref a))) (hd : H dd = some (.xd [("row", .int n)]))
    (q : Q (.int n) H) : WE (X.suite a ((a, oe) :: pn)) x σ H Q := by
  unfold agRow at h
  split at h
  · rename_i y f pf
    simp only [Bool.and_eq_true, decide_eq_true_eq] at h
    obtain ⟨⟨h2, hs⟩, rfl⟩ := h
    exact we_of (pe_xf C.F C.row hz hf (agEv_ok h2) (base_of hs _ _)) ⟨_, hσ, rfl, rfl, dd, _, .int n, rfl, hd, rfl, q⟩
  · cases h
theorem he_e (B : Bf T Cl X) (C : Cau X.K P Cl c) (hz : Zc (.ref (Cl c)) (some dd) oe) (hf : ∃ vs, oe.data = .fields vs) {σ : L2.St} {H : Hp} {Q : VK} (hσ : σ[i]? = some (some (.ref a))) (hd : H dd = some (.xd [("row", .int n)])) :
    ∀ (e : HE) (x : Expr) (d : AV), agHE T X.env.scope X.N i e x = true → heV P c n e = some d → (∀ v H', Rt H H' v d → Q v H') → WE (X.suite a ((a, oe) :: pn)) x σ H Q
  | .non, x, d, h, hk, q => by
    simp only [agHE] at h
    split at h
    · cases hk
      exact we_of pe_non (q _ _ (.inl ⟨.refl, fun _ _ _ => .non⟩))
    · cases h
  | .bl b, x, d, h, hk, q => by
    simp only [agHE] at h
    split at h
    · cases hk
      have e := of_decide_eq_true h
      subst e
      exact we_of pe_bl (q _ _ (.inl ⟨.refl, fun _ _ _ => .bl _⟩))
    · cases h
  | .row, x, d, h, hk, q => by
    cases hk
    exact row_e B C hz hf h hσ hd (q _ _ (.inl ⟨.refl, fun _ _ _ => .int _⟩))
  | .hb b, x, d, h, hk, q => by
    obtain ⟨k, e, rfl⟩ := Option.map_eq_some_iff.mp hk
    exact hb_e B C hz hf b x k h e hσ hd fun H' g => q _ _ (.inl ⟨g, fun _ _ _ => .bl _⟩)
  | .pair z, x, d, h, hk, q => by
    simp only [agHE] at h
    split at h
    · rename_i y j p w p2 p3
      simp only [Bool.and_eq_true, decide_eq_true_eq] at h
      obtain ⟨⟨rfl, h2⟩, h3⟩ := h
      cases hk
      refine we_of (pe_tup (pa_cons pe_str (pa_cons pe_we pa_nil (star_cons h3 _ _)) rfl)) ?_
      refine row_e B C hz hf h2 hσ hd ⟨(show (2 : Nat) ≤ sizeLine by rw [sizeLine_eq]; decide), fun p hp => q _ _ (.inr ⟨H, p, _, _, .refl, hp, rfl, rfl, rfl, fun _ _ _ => .cons (.str _) (.cons (.int _) .nil)⟩)⟩
    · cases h
theorem gs_ok (B : Bf T Cl X) (C : Cau X.K P Cl c) (hz : Zc (.ref (Cl c)) (some dd) oe) (hf : ∃ vs, oe.data = .fields vs) {σ : L2.St} {D : Ends} {t : TryF} {out : AV} {H0 : Hp} (hσ : σ[i]? = some (some (.ref a)))
    (hrt : ∀ v H', Rt H0 H' v out → D.rt v H') (hnx : ∀ H', Grow H0 H' → t.aft = some out → D.nx σ H') :
    ∀ (gs : List (HB × HE)) (st : List Stmt) (H : Hp), Grow H0 H → H dd = some (.xd [("row", .int n)]) → agGs T X.env.scope X.N i t.fin gs st = true → gsV P c n t gs = some out → WSs (X.suite a ((a, oe) :: pn)) st D σ H
  | [], st, H, g, hd, h, hk => by
    unfold agGs at h
    unfold gsV at hk
    split at h
    · rename_i ef
      rw [ef] at hk
      split at h
      · exact wss_of pss_nil (hnx H g hk)
      · cases h
    · rename_i e ef
      rw [ef] at hk
      split at h
      · rename_i x pos
        refine wss_of (pss_cons (ps_ret pe_we) pss_nil) ?_
        refine he_e B C hz hf hσ hd e x out h hk fun v H' r => hrt v H' ?_
        rcases r with ⟨g2, r⟩ | ⟨H1, p, vs, ds, g2, r⟩
        · exact .inl ⟨g.trans g2, r⟩
        · exact .inr ⟨H1, p, vs, ds, g.trans g2, r⟩
      · cases h
  | (b, e) :: r, st, H, g, hd, h, hk => by
    unfold agGs at h
    split at h
    · rename_i tx x p1 p2 st'
      simp only [Bool.and_eq_true] at h
      obtain ⟨⟨h1, h2⟩, h3⟩ := h
      unfold gsV at hk
      refine wss_of (pss_cons (ps_if pt_we (pss_cons (ps_ret pe_we) pss_nil) pss_nil) pss_we) ?_
      split at hk
      · rename_i eb
        refine hb_t B C hz hf b tx true h1 eb hσ hd fun H1 g1 => ?_
        rw [if_pos rfl]
        refine he_e B C hz hf hσ (g1.keep hd) e x out h2 hk fun v H' r => hrt v H' ?_
        rcases r with ⟨g2, r⟩ | ⟨H1, p, vs, ds, g2, r⟩
        · exact .inl ⟨(g.trans g1).trans g2, r⟩
        · exact .inr ⟨H1, p, vs, ds, (g.trans g1).trans g2, r⟩
      · rename_i eb
        refine hb_t B C hz hf b tx false h1 eb hσ hd fun H1 g1 => ?_
        rw [if_neg Bool.false_ne_true]
        exact gs_ok B C hz hf hσ hrt hnx r st' H1 (g.trans g1) (g1.keep hd) h3 hk
      · cases hk
    · cases h
end
/-! ### the def that tries -/
/-- what a def that an exception may leave keeps -/
def spX (K : PySem.W.Frag) (Cl : Nat → Addr) (call : List AV → AHeap → (AV → AHeap → Prop) → (Nat → Int → AHeap → Prop) → Prop) : Sp := fun vs H Q E => ∃ cs F h ds Qa Ea, StOk K Cl cs F H h ∧ Reps K cs F vs ds ∧ call ds h Qa Ea ∧
  (∀ v d cs' F' H' h', Stp cs F H cs' F' H' → StOk K Cl cs' F' H' h' → Rep K cs' F' v d → Qa d h' → Q v H') ∧
  (∀ c n cs' F' H' h', Stp cs F H cs' F' H' → StOk K Cl cs' F' H' h' → Ea c n h' → ∀ dd, H' dd = none → E (.ref (Cl c)) (some dd) (upd H' dd (.xd [("row", .int n)])))
def agAT (sc : Scope) (N : List Str) : List AT → List Expr → Bool
  | [], xs => match xs with
    | [] => true
    | _ => false
  | .v i :: r, xs => match xs with
    | y :: ys => agVar sc N i y && notStar y && agAT sc N r ys
    | _ => false
  | .s z :: r, xs => match xs with
    | .Constant (.str y) _ _ :: ys => decide (z = y) && agAT sc N r ys
    | _ => false
def tAT : List AT → TA
  | [] => tNil
  | .v i :: r => tCons (tVar i) (tAT r)
  | .s z :: r => tCons (tC (.str z)) (tAT r)
def agAft (d : Option AV) (st : List Stmt) : Bool := match d with
  | some .non => match st with
    | [.Return (some (.Constant .none _ _)) _] => true
    | [] => true
    | _ => false
  | some (.bl b) => match st with
    | [.Return (some (.Constant (.bool j) _ _)) _] => decide (b = j)
    | _ => false
  | _ => false
def agTry (T : Tab) (sc : Scope) (N : List Str) (t : TryF) : List Stmt → Bool
  | .Try [.Expr (.Call (.Name xg _) (e :: es) [] cpos) _] [.ExceptHandler (some (.Name xc _)) (some xn) (b₀ :: suite) _] [] [] _ :: aft => decide (t.ok = none) && decide (T.fname t.g = some xg) && glB sc xg && plainName xg && agAT sc N t.args (e :: es) &&
    decide (T.xname t.c = some xc) && glB sc xc && plainName xc && decide (N[t.i]? = some xn) && decide (sc.names.lookup xn = some .local) && agGs T sc N t.i t.fin t.gs (b₀ :: suite) && agAft t.aft aft
  | _ => false
section
variable {T : Tab} {Cl : Nat → Addr} {X : Cx} {P : Prg}
theorem agAT_ok : ∀ {ts : List AT} {xs : List Expr}, agAT X.env.scope X.N ts xs = true → PA X xs (tAT ts) ∧ xs.all notStar = true
  | [], xs, h => by
    unfold agAT at h
    split at h
    · exact ⟨pa_nil, rfl⟩
    · cases h
  | .v i :: r, xs, h => by
    unfold agAT at h
    split at h
    · rename_i y ys
      simp only [Bool.and_eq_true] at h
      obtain ⟨⟨h1, h2⟩, h3⟩ := h
      obtain ⟨p, q⟩ := agAT_ok h3
      unfold agVar at h1
      split at h1
      · rename_i id p'
        simp only [Bool.and_eq_true, decide_eq_true_eq] at h1
        obtain ⟨⟨k1, k2⟩, k3⟩ := h1
        obtain ⟨n1, n2, _⟩ := plainName_ok k3
        exact ⟨pa_cons (pe_var k1 (visB_ok k2) n1 n2) p (star_cons h2 _ _), by rw [List.all_cons, h2, q]; rfl⟩
      · cases h1
    · cases h
  | .s z :: r, xs, h => by
    unfold agAT at h
    split at h
    · rename_i y j p' ys
      simp only [Bool.and_eq_true, decide_eq_true_eq] at h
      obtain ⟨rfl, h3⟩ := h
      obtain ⟨p, q⟩ := agAT_ok h3
      exact ⟨pa_cons pe_str p rfl, by rw [List.all_cons, q]; rfl⟩
    · cases h
theorem tAT_ok {K : PySem.W.Frag} {cs : List Addr} {F H : Hp} {vs0 : List V} {ds : List AV} {σ : L2.St} (rs : Reps K cs F vs0 ds) (hσ : ∀ (i : Nat) (v : L2.V), vs0[i]? = some v → σ[i]? = some (some v)) : ∀ {ts : List AT} {xs : List AV} {Q : List V → Hp → Prop}, argV ds ts = some xs →
    (∀ vs, Reps K cs F vs xs → Q vs H) → tAT ts σ H Q
  | [], xs, Q, h, q => by
    cases h
    exact q [] .nil
  | .v i :: r, xs, Q, h, q => by
    unfold argV at h
    split at h
    · rename_i d xs' h1 h2
      cases h
      obtain ⟨v, e1, e2⟩ := rs.get h1
      exact ⟨v, hσ i v e1, tAT_ok rs hσ h2 fun vs r => q _ (.cons e2 r)⟩
    · cases h
  | .s z :: r, xs, Q, h, q => by
    obtain ⟨xs', h2, rfl⟩ := Option.map_eq_some_iff.mp h
    show tAT r σ H fun vs H1 => Q (.str z :: vs) H1
    exact tAT_ok (Q := fun vs H1 => Q (.str z :: vs) H1) rs hσ h2 fun vs r => q _ (.cons (.str _) r)
theorem aft_ok {d : Option AV} {st : List Stmt} (h : agAft d st = true) : ∃ d', d = some d' ∧ ∃ v, (∀ K cs F, Rep K cs F v d') ∧ PSs X st (fun D σ H => (D.rt v H ∧ (v = .non → D.nx σ H))) := by
  unfold agAft at h
  split at h
  · split at h
    · exact ⟨_, rfl, .non, fun _ _ _ => .non, ⟨fun pins s σ H D I z => (pss_cons (ps_ret pe_non) pss_nil).run pins s σ H D I z.1⟩⟩
    · exact ⟨_, rfl, .non, fun _ _ _ => .non, ⟨fun pins s σ H D I z => pss_nil.run pins s σ H D I (z.2 rfl)⟩⟩
    · cases h
  · split at h
    · have e := of_decide_eq_true h
      subst e
      exact ⟨_, rfl, .bl _, fun _ _ _ => .bl _, ⟨fun pins s σ H D I z => (pss_cons (ps_ret pe_bl) pss_nil).run pins s σ H D I z.1⟩⟩
    · cases h
  · cases h
/-- the statement and what stands behind it, where no exception leaves -/
theorem try_ok {t : TryF} {st : List Stmt} {kg : Nat} {ag : Addr} {fdg : FuncData} {psg : List Str} {call : List AV → AHeap → (AV → AHeap → Prop) → (Nat → Int → AHeap → Prop) → Prop} (B : Bf T Cl X) (nd : X.N.Nodup) (gd : X.A.guards = some []) (hs : X.stack = X.env :: X.outer) (hf : X.env.frame = some X.env.locals)
    (hx : ∀ e s, ¬ X.xe e s) (h : agTry T X.env.scope X.N t st = true) (hC : ∀ c b, P.sub.lookup (c, t.c) = some b → Cau X.K P Cl c) (hE : ∀ c, P.sub.lookup (c, t.c) = some true → PySem.W.exmOne X.K (.ref (Cl c)) (.ref (Cl t.c)) = some true)
    (hg : ∀ xg, T.fname t.g = some xg → X.mg xg = some (.ref ag) ∧ PySem.W.keepIn X.K (.ref ag) = true) (F : FnGX X.prog X.w X.K X.mg X.base kg ag fdg psg (spX X.K Cl call)) (room : Room kg X.A) (bnd : Binds X.K fdg psg [])
    {cs : List Addr} {F0 H : Hp} {hp : AHeap} {vs0 : List L2.V} {ds xs : List AV} {σ : L2.St} {D : Ends} {Q : AV → AHeap → Prop} (S : StOk X.K Cl cs F0 H hp) (rs : Reps X.K cs F0 vs0 ds) (hσ : ∀ (i : Nat) (v : L2.V), vs0[i]? = some v → σ[i]? = some (some v)) (hl : σ.length = X.N.length)
    (ha : argV ds t.args = some xs) (w : call xs hp (fun v h2 => match okV t v with
      | some d => Q d h2
      | none => False) (fun c n h2 => match tryV P c n t with
      | some d => Q d h2
      | none => False))
    (hnx : ∀ cs' F' H' h' σ', Stp cs F0 H cs' F' H' → StOk X.K Cl cs' F' H' h' → Q .non h' → D.nx σ' H')
    (hrt : ∀ v d cs' F' H' h', Stp cs F0 H cs' F' H' → StOk X.K Cl cs' F' H' h' → Rep X.K cs' F' v d → Q d h' → D.rt v H') : WSs X st D σ H := by
  unfold agTry at h
  split at h
  · rename_i xg p1 e es cpos p2 xc p3 xn b₀ suite p4 p5 aft
    simp only [Bool.and_eq_true, decide_eq_true_eq] at h
    obtain ⟨⟨⟨⟨⟨⟨⟨⟨⟨⟨⟨h0, h1⟩, h2⟩, h3⟩, h4⟩, h5⟩, h6⟩, h7⟩, h8⟩, h9⟩, h10⟩, h11⟩ := h
    obtain ⟨d', ed, va, ra, pa⟩ := aft_ok (X := X) h11
    obtain ⟨mg, kp⟩ := hg xg h1
    have tk : Takes X (fun _ _ _ _ => False) := fun u s' ⟨_, _, _, _, _, _, _, _, _, _, _, _, _, _, _, _, z⟩ => z.elim
    obtain ⟨pargs, pst⟩ := agAT_ok h4
    have hst : notStar e = true := by rw [List.all_cons, Bool.and_eq_true] at pst; exact pst.1
    have hes : es.all notStar = true := by rw [List.all_cons, Bool.and_eq_true] at pst; exact pst.2
    have T1 := ps_try_as (X := X) (x := xc) (n := xn) (c := .ref (Cl t.c)) (i := t.i) (body := [.Expr (.Call (.Name xg p1) (e :: es) [] cpos) p2]) (suite := suite) (b₀ := b₀) (np := p3) (pos := p5) (pos' := p4)
      (tb := fun W => tSeq (tDrop (fun σ H Q => tAT t.args σ H fun vs H1 => spX X.K Cl call vs H1 Q fun c d H' => W c d σ H')) tNext)
      (ts := fun a cls d D σ H => ∃ c n dd out, cls = .ref (Cl c) ∧ d = some dd ∧ Cau X.K P Cl c ∧ H dd = some (.xd [("row", .int n)]) ∧ σ[t.i]? = some (some (.ref a)) ∧ gsV P c n t t.gs = some out ∧ (∀ v H', Rt H H' v out → D.rt v H') ∧ (∀ H', Grow H H' → t.aft = some out → D.nx σ H'))
      (Wout := fun _ _ _ _ => False) hs hf nd h8 h9 ⟨glB_ok h6, (plainName_ok h7).1, .inl (B.xn _ _ h5)⟩ tk
      (fun W pn xe tk2 po => pss_cons (ps_expr (FnGX.call (X := X.tr pn xe) F gd room (glB_ok (X := X.tr pn xe) h2) mg kp bnd tk2 (show PA (X.tr pn xe) (e :: es) (tAT t.args) from (agAT_ok (X := X.tr pn xe) h4).1) (plainName_ok h3).1 (star_cons hst _ _) (star_all hes _ _)) rfl) pss_nil)
      (fun a oe cls d pn hz hfv => ⟨fun pins s σ H D I ⟨c, n, dd, out, e1, e2, C, e3, e4, e5, e6, e7⟩ => by
        subst e1 e2
        exact gs_ok B C hz hfv e4 e6 e7 t.gs (b₀ :: suite) H .refl e3 h10 e5 pins s I⟩)
    refine wss_of (pss_cons T1 pa) ?_
    show tAT t.args σ H fun vs H1 => _
    refine tAT_ok rs hσ ha fun vs rv => ?_
    refine ⟨cs, F0, hp, xs, _, _, S, rv, w, ?_, ?_⟩
    · intro v d cs' F' H' h' x' S' r' q'
      unfold okV at q'
      rw [h0, ed] at q'
      exact ⟨hrt va d' cs' F' H' h' x' S' (ra _ _ _) q', fun z => by
        subst z
        have := ra X.K cs' F'
        cases this
        exact hnx _ _ _ _ _ x' S' q'⟩
    · intro c n cs' F' H' h' x' S' q' dd hdd
      have q2 : ∃ out, tryV P c n t = some out ∧ Q out h' := by
        cases ho : tryV P c n t with
        | none => rw [ho] at q'; exact q'.elim
        | some out => rw [ho] at q'; exact ⟨out, rfl, q'⟩
      obtain ⟨out, ho, q3⟩ := q2
      unfold tryV at ho
      split at ho
      · rename_i es2
        refine ⟨true, hE c es2, fun _ a ha2 => ?_, fun z => by cases z⟩
        have hi : t.i < σ.length := by rw [hl]; exact (List.getElem?_eq_some_iff.mp h8).1
        refine ⟨c, n, dd, out, rfl, rfl, hC c true es2, upd_same, List.getElem?_set_self hi, ho, ?_, ?_⟩
        · intro v H'' r
          have S1 : StOk X.K Cl cs' F' (upd H' dd (.xd [("row", .int n)])) h' := S'.newN hdd
          have x1 : Stp cs' F' H' cs' F' (upd H' dd (.xd [("row", .int n)])) := Stp.newN hdd
          rcases r with ⟨g, r⟩ | ⟨H0, p, vs2, ds2, g, hp0, rfl, rfl, rfl, r⟩
          · obtain ⟨S2, x2⟩ := g.step S1
            exact hrt v out _ _ _ _ ((x'.trans x1).trans x2) S2 (r _ _ _) q3
          · obtain ⟨S2, x2⟩ := g.step S1
            exact hrt _ _ _ _ _ _ (((x'.trans x1).trans x2).trans (Stp.newF S2 hp0)) (S2.newF hp0) (.tup (ex_t (fun _ _ z => z) (.inl (.inl upd_same))) (r _ _ _)) q3
        · intro H'' g ea
          have S1 : StOk X.K Cl cs' F' (upd H' dd (.xd [("row", .int n)])) h' := S'.newN hdd
          have x1 : Stp cs' F' H' cs' F' (upd H' dd (.xd [("row", .int n)])) := Stp.newN hdd
          obtain ⟨S2, x2⟩ := g.step S1
          rw [ed] at ea
          cases ea
          exact ⟨hrt va _ _ _ _ _ ((x'.trans x1).trans x2) S2 (ra _ _ _) q3, fun z => by
            subst z
            have := ra X.K cs' F'
            cases this
            exact hnx _ _ _ _ _ ((x'.trans x1).trans x2) S2 q3⟩
      · cases ho
  · cases h
end
end VL

set_option maxRecDepth 100000
set_option maxHeartbeats 4000000
/-! VL: a program's defs keep what the transformers say; the end of a law. -/
namespace VL
open PySem L2 Evl PyProof.Rows PySem.Spec

/-! ### the scope of a def, by one check -/
def scB (N ps : List Str) (sc : Scope) : Bool :=
  (match sc.kind with | .function => true | _ => false) && !sc.isCoroutine && !sc.isGenerator && decide N.Nodup && decide (N.take ps.length = ps) && ps.all (fun x => locB sc x) && sc.names.all (fun y => decide (y.2 ≠ .free))
theorem scB_ok {N ps : List Str} {sc : Scope} (h : scB N ps sc = true) : FnScope N ps sc := by
  unfold scB at h
  simp only [Bool.and_eq_true, Bool.not_eq_true', decide_eq_true_eq, List.all_eq_true] at h
  obtain ⟨⟨⟨⟨⟨⟨h1, h2⟩, h3⟩, h4⟩, h5⟩, h6⟩, h7⟩ := h
  refine ⟨?_, h2, h3, h4, h5, fun x hx => ?_, fun y hy => h7 y hy⟩
  · split at h1
    · assumption
    · cases h1
  · rcases locB_ok (h6 x hx) with q | q
    · exact .inl q
    · exact .inr q
/-- a def of the text and what it is in our syntax -/
structure FnT where
  name : Str
  st : Stmt
  N : List Str
  ps : List Str
def agF (T : Tab) (t : FnT) (F : Fn) : Bool := scB t.N t.ps (defScope t.st) && agSs T (defScope t.st) t.N F.body (defBody t.st) && decide (t.N.length = F.ns) && decide (t.ps.length = F.np)

/-- a def that tries, of the text and in our syntax -/
def agTF (T : Tab) (t : FnT) (y : TryF) : Bool := scB t.N t.ps (defScope t.st) && agTry T (defScope t.st) t.N y (defBody t.st) && decide (t.N.length = y.ns) && decide (t.ps.length = y.np) && y.args.all fun a => match a with
  | .v i => decide (i < y.np)
  | .s _ => true
/-- a class of exceptions in the written part -/
structure ExcP (K : PySem.W.Frag) (mg : Str → Option Value) (x : Str) (C : Addr) : Prop where
  mg : mg x = some (.ref C)
  ox : OexC K C
  row : PySem.W.findIn K (.ref C) "row" = some none
  ini : ∃ fI fd nm qn st, PySem.W.findIn K (.ref C) "__init__" = some (some (.ref fI)) ∧ PySem.W.typeIn K (.ref fI) = some (.type "function") ∧ Fun K nm qn st fI fd ∧ FnScope ["self", "row"] ["self", "row"] (defScope st) ∧ Vis (defScope st) "self" ∧ Vis (defScope st) "row" ∧ isRowInit (defBody st) = true ∧ Binds K fd ["self", "row"] []
structure PFacts (w : World) (P : Prg) (T : Tab) (Cl : Nat → Addr) (ts : Nat → Option FnT) (K : PySem.W.Frag) (mg : Str → Option Value) : Prop where
  blt : ∀ x, x ∈ bltNames → mg x = none
  glob : ∀ g d, P.glob.lookup g = some d → ∃ u v, mg (T.gname g) = some u ∧ RelV v u ∧ ∀ cs F, Rep K cs F v d
  fn : ∀ f F, P.fns.lookup f = some F → ∃ t a fd qual, ts f = some t ∧ Fun K t.name qual t.st a fd ∧ agF T t F = true ∧ Binds K fd t.ps [] ∧ ∀ x, T.fname f = some x → mg x = some (.ref a) ∧ PySem.W.keepIn K (.ref a) = true
  fnm : ∀ f x, T.fname f = some x → (∃ F, P.fns.lookup f = some F) ∨ ∃ t, P.tryf.lookup f = some t
  cls : ∀ c x, T.cname c = some x → ∃ f F t a fd qual, P.init.lookup c = some f ∧ P.fns.lookup f = some F ∧ ts f = some t ∧ Fun K t.name qual t.st a fd ∧ agF T t F = true ∧ Binds K fd t.ps [] ∧ mg x = some (.ref (Cl c)) ∧ Mk K (Cl c) a
  mth : ∀ c m f, P.meth.lookup (c, m) = some f → ∃ F t a fd qual, P.fns.lookup f = some F ∧ ts f = some t ∧ Fun K t.name qual t.st a fd ∧ agF T t F = true ∧ Binds K fd t.ps [] ∧ Cls K (Cl c) ∧ Meth K (Cl c) m a
  prp : ∀ c m f, P.prps.lookup (c, m) = some f → ∃ F t p a fd qual, P.fns.lookup f = some F ∧ ts f = some t ∧ Fun K t.name qual t.st a fd ∧ agF T t F = true ∧ Binds K fd t.ps [] ∧ Cls K (Cl c) ∧ PropOf K (Cl c) m p a
  fld : ∀ c f, P.flds.contains (c, f) = true → Cls K (Cl c) ∧ NoAttr K (Cl c) f
  gdc : ∀ g x, T.dname g = some x → ∃ kvs d, P.gdct.lookup g = some kvs ∧ mg x = some (.ref d) ∧ GDict K w d kvs
  isc : ∀ c x, T.iname c = some x → mg x = some (.ref (Cl c)) ∧ C8.InsC K (Cl c)
  exc : ∀ c x, T.ename c = some x → ExcP K mg x (Cl c)
  tfn : ∀ f t, P.tryf.lookup f = some t → P.fns.lookup f = none ∧ mg "ValueError" = none ∧ (∃ x F, T.fname t.g = some x ∧ P.fns.lookup t.g = some F) ∧ (∀ c, P.sub.lookup (c, t.c) = some true → PySem.W.exmOne K (.ref (Cl c)) (.ref (Cl t.c)) = some true) ∧
    ∃ tt a fd qual, ts f = some tt ∧ Fun K tt.name qual tt.st a fd ∧ agTF T tt t = true ∧ Binds K fd tt.ps [] ∧ ∀ x, T.fname f = some x → mg x = some (.ref a) ∧ PySem.W.keepIn K (.ref a) = true
  cau : ∀ c d b, P.sub.lookup (c, d) = some b → Cau K P Cl c
  xnm : ∀ d x, T.xname d = some x → mg x = some (.ref (Cl d))

section
variable {prog : Program} {w : World} {K : PySem.W.Frag} {mg : Str → Option Value} {base : Heap} {P : Prg} {T : Tab} {Cl : Nat → Addr} {ts : Nat → Option FnT}
theorem getS_start {ds : List AV} : ∀ {vs : List V} {cs : List Addr} {F : Hp} {k i : Nat} {d : AV}, Reps K cs F vs ds → getS (ds.map Slot.val ++ List.replicate k Slot.no) i = .val d → ∃ v, vs[i]? = some v ∧ Rep K cs F v d := by
  induction ds with
  | nil =>
    intro vs cs F k i d r h
    have : ∀ (k i : Nat), getS (List.replicate k Slot.no) i = .no := by
      intro k
      induction k with
      | zero => intro i; rfl
      | succ k ih => intro i; cases i with
        | zero => rfl
        | succ i => exact ih i
    rw [List.map_nil, List.nil_append, this] at h
    cases h
  | cons x ds ih =>
    intro vs cs F k i d r h
    cases r with
    | cons r rs =>
      cases i with
      | zero => cases h; exact ⟨_, rfl, r⟩
      | succ i =>
        obtain ⟨v, h1, h2⟩ := ih (i := i) rs h
        exact ⟨v, by simpa using h1, h2⟩
theorem getS_startO {ds : List AV} : ∀ {k i : Nat} {c : Cell}, getS (ds.map Slot.val ++ List.replicate k Slot.no) i ≠ .own c := by
  induction ds with
  | nil =>
    intro k
    induction k with
    | zero => intro i c h; cases h
    | succ k ih => intro i c h; cases i with
      | zero => cases h
      | succ i => exact ih h
  | cons x ds ih =>
    intro k i c h
    cases i with
    | zero => cases h
    | succ i => exact ih h
theorem env_start {cs : List Addr} {F H : Hp} {N : List Str} {vs : List V} {ds : List AV} {ns : Nat} (hn : N.length = ns) (hl : vs.length ≤ N.length) (r : Reps K cs F vs ds) : EnvOk K Cl cs F H (L2.start N vs) (ds.map Slot.val ++ List.replicate (ns - ds.length) Slot.no) where
  len := by
    unfold L2.start
    simp only [List.length_append, List.length_map, List.length_replicate]
    rw [r.length, hn]
  val := fun i d h => by
    obtain ⟨v, h1, h2⟩ := getS_start r h
    refine ⟨v, ?_, h2⟩
    unfold L2.start
    rw [List.getElem?_append_left (by simpa using (List.getElem?_eq_some_iff.mp h1).1), List.getElem?_map, h1]
    rfl
  own := fun i c h => absurd h getS_startO
  dis := fun i j c c' a _ h => absurd h getS_startO
/-- what stands around a def's body -/
theorem sok_of {X : Cx} {n k : Nat} (hF : PFacts X.w P T Cl ts X.K X.mg) (nd : X.N.Nodup) (calm : X.calm = true) (gd : X.A.guards = some []) (room : Room (k + 2) X.A)
    (all : ∀ (f : Nat) (t : FnT) (a : Addr) (fd : FuncData) (qual : Str), ts f = some t → Fun X.K t.name qual t.st a fd → ((∃ F, P.fns.lookup f = some F ∧ agF T t F = true) ∨ (∃ y, P.fns.lookup f = none ∧ P.tryf.lookup f = some y ∧ agTF T t y = true)) → FnG X.prog X.w X.K X.mg X.base k a fd t.ps (spOf X.K Cl (ctxOf P (callN P n)) f))
    (pass : PassesOwn (model X.prog X.w) X.A X.env X.xe) (sto : Sto X.env.scope X) : SOk (ctxOf P (callN P n)) T Cl X := by
  refine ⟨⟨nd, calm, ?_, gd, hF.blt, hF.glob, fun g x hg => ?_, fun c x hx => ?_, fun c m g hx => ?_, fun c m g hx => ?_, hF.fld, hF.gdc, hF.isc⟩, fun c x hx => ?_, pass, sto⟩
  · have := room.un
    omega
  · rcases hF.fnm g x hg with ⟨G, hG⟩ | ⟨y, hy⟩
    · obtain ⟨t', a', fd', qual', e1, e2, e3, e4, e5⟩ := hF.fn g G hG
      exact ⟨k, a', fd', t'.ps, all g t' a' fd' qual' e1 e2 (.inl ⟨G, hG, e3⟩), room.mono (by omega), (e5 x hg).1, (e5 x hg).2, e4⟩
    · obtain ⟨e0, _, _, _, t', a', fd', qual', e1, e2, e3, e4, e5⟩ := hF.tfn g y hy
      exact ⟨k, a', fd', t'.ps, all g t' a' fd' qual' e1 e2 (.inr ⟨y, e0, hy, e3⟩), room.mono (by omega), (e5 x hg).1, (e5 x hg).2, e4⟩
  · obtain ⟨g, G, t', a', fd', qual', e0, hG, e1, e2, e3, e4, e5, e6⟩ := hF.cls c x hx
    exact ⟨g, k, a', fd', t'.ps, e0, all g t' a' fd' qual' e1 e2 (.inl ⟨G, hG, e3⟩), room.mono (by omega), e5, e6, e4⟩
  · obtain ⟨G, t', a', fd', qual', hG, e1, e2, e3, e4, e5, e6⟩ := hF.mth c m g hx
    exact ⟨k, a', fd', t'.ps, all g t' a' fd' qual' e1 e2 (.inl ⟨G, hG, e3⟩), room.mono (by omega), e5, e6, e4⟩
  · obtain ⟨G, t', p', a', fd', qual', hG, e1, e2, e3, e4, e5, e6⟩ := hF.prp c m g hx
    exact ⟨k, p', a', fd', t'.ps, all g t' a' fd' qual' e1 e2 (.inl ⟨G, hG, e3⟩), room.mono (by omega), e5, e6, e4⟩
  · have E := hF.exc c x hx
    obtain ⟨fI, fd, nm, qn, st, i1, i2, i3, i4, i5, i6, i7, i8⟩ := E.ini
    exact ⟨E.mg, E.ox, E.row, fI, 1, fd, i1, i2, row_init i3 i4 i5 i6 i7, room.mono (by omega), i8⟩
theorem sto_of {prog : Program} {CX : CXT} {N : List Str} {qual : Str} {st : Stmt} {a : Addr} {cdv : Value} {A : Around} {outer : List PySem.Env} {s : Shared} {H : Hp} {E : XK} :
    Sto (defScope st) (cxOf CX prog w K mg base N qual (defScope st) a cdv A outer s H E) := fun id hid => by
  unfold tgN at hid
  simp only [Bool.or_eq_true, Bool.and_eq_true, decide_eq_true_eq] at hid
  rcases hid with hid | hid
  · exact ⟨.inl hid.1, .inl rfl⟩
  · exact ⟨.inr hid.1, .inl rfl⟩
theorem start_get {N : List Str} {vs : List L2.V} {i : Nat} {v : L2.V} (h : vs[i]? = some v) : (L2.start N vs)[i]? = some (some v) := by
  unfold L2.start
  rw [List.getElem?_append_left (by simpa using (List.getElem?_eq_some_iff.mp h).1), List.getElem?_map, h]
  rfl
theorem start_len {N : List Str} {vs : List L2.V} (h : vs.length ≤ N.length) : (L2.start N vs).length = N.length := by
  unfold L2.start
  simp only [List.length_append, List.length_map, List.length_replicate]
  omega
theorem scope_len {t : FnT} {vs : List L2.V} {np : Nat} (sc : FnScope t.N t.ps (defScope t.st)) (e : vs.length = np) (h4 : t.ps.length = np) : vs.length ≤ t.N.length := by
  have := congrArg List.length sc.pre
  rw [List.length_take] at this
  omega
/-- a def whose exceptions are told -/
theorem fn_x {n : Nat} (hF : PFacts w P T Cl ts K mg) (all : ∀ (f : Nat) (t : FnT) (a : Addr) (fd : FuncData) (qual : Str), ts f = some t → Fun K t.name qual t.st a fd → ((∃ F, P.fns.lookup f = some F ∧ agF T t F = true) ∨ (∃ y, P.fns.lookup f = none ∧ P.tryf.lookup f = some y ∧ agTF T t y = true)) → FnG prog w K mg base (4 * n) a fd t.ps (spOf K Cl (ctxOf P (callN P n)) f))
    {f : Nat} {F : Fn} {t : FnT} {a : Addr} {fd : FuncData} {qual : Str} (hf : P.fns.lookup f = some F) (hfun : Fun K t.name qual t.st a fd) (hag : agF T t F = true) : FnGX prog w K mg base (4 * n + 3) a fd t.ps (spX K Cl (bodyW P (callN P n) f)) := by
  unfold agF at hag
  simp only [Bool.and_eq_true, decide_eq_true_eq] at hag
  obtain ⟨⟨⟨h1, h2⟩, h3⟩, h4⟩ := hag
  have sc := scB_ok h1
  have call : ∀ ds h Qa Ea, bodyW P (callN P n) f ds h Qa Ea → ds.length = F.np ∧ WpSs (ctxOf P (callN P n)) F.body { nx := fun _ h => Qa .non h, rt := Qa, ex := Ea } (startS F ds) h := fun ds h Qa Ea z => by
    unfold bodyW at z
    rw [hf] at z
    exact z
  refine FnGX.of_body (k := 4 * n + 2) hfun sc (fun vs H Q E ⟨cs, F', h, ds, Qa, Ea, _, r, z, _⟩ => ?_) (fun cdv A outer s H vs Q E hgd hr ⟨cs, F', h, ds, Qa, Ea, S, r, z, k, kx⟩ => ?_)
  · rw [r.length, (call _ _ _ _ z).1, h4]
  · obtain ⟨z1, z2⟩ := call _ _ _ _ z
    have hN : vs.length ≤ t.N.length := scope_len sc (r.length.trans z1) h4
    refine ⟨WSs _ (defBody t.st), pss_we, ?_⟩
    have O : SOk (ctxOf P (callN P n)) T Cl (cxOf (L2.CX prog w) prog w K mg base t.N qual (defScope t.st) a cdv A outer s H E) :=
      sok_of hF sc.nd rfl hgd hr all PassesOwn.leaving sto_of
    refine sSs O sc.kind F.body (defBody t.st) h2 cs F' cs F' H { nx := fun _ h => Qa .non h, rt := Qa, ex := Ea } _ (startS F ds) h (L2.start t.N vs) cs F' H ⟨?_, ?_, ?_, ?_, (fun cls d _ H => E cls d H), takes_of rfl rfl rfl rfl, ?_⟩ ⟨S, ?_, .refl, ?_, fun _ _ z => z, [], by simp⟩ z2
    · intro cs2 F2 H2 h2 σ2 ρ2 n2 q2
      exact k _ _ _ _ _ _ n2.x n2.S .non q2
    · intro v d cs2 F2 H2 h2 x2 S2 r2 q2
      exact k _ _ _ _ _ _ x2 S2 r2 q2
    · intro cs2 F2 H2 h2 σ2 ρ2 n2 q2
      exact q2.elim
    · intro cs2 F2 H2 h2 σ2 ρ2 n2 q2
      exact q2.elim
    · intro c n cs2 F2 H2 h2 σ2 ρ2 n2 q2 dd hdd
      exact kx _ _ _ _ _ _ n2.x n2.S q2 dd hdd
    · exact env_start h3 hN r
    · intro i c a' hh
      exact absurd hh getS_startO
/-- every def, to any depth -/
theorem fn_any (hF : PFacts w P T Cl ts K mg) : ∀ (n f : Nat) (t : FnT) (a : Addr) (fd : FuncData) (qual : Str), ts f = some t → Fun K t.name qual t.st a fd → ((∃ F, P.fns.lookup f = some F ∧ agF T t F = true) ∨ (∃ y, P.fns.lookup f = none ∧ P.tryf.lookup f = some y ∧ agTF T t y = true)) →
    FnG prog w K mg base (4 * n) a fd t.ps (spOf K Cl (ctxOf P (callN P n)) f)
  | 0, f, t, a, fd, qual, ht, hfun, hag =>
    ⟨fun vs H Q E ⟨_, _, _, _, _, _, _, z, _⟩ => (show False from z).elim, fun A outer s H args us vs Q E _ _ _ _ _ ⟨_, _, _, _, _, _, _, z, _⟩ => (show False from z).elim⟩
  | n + 1, f, t, a, fd, qual, ht, hfun, .inl ⟨F, hf, hag⟩ => by
    unfold agF at hag
    simp only [Bool.and_eq_true, decide_eq_true_eq] at hag
    obtain ⟨⟨⟨h1, h2⟩, h3⟩, h4⟩ := hag
    have sc := scB_ok h1
    have call : ∀ ds h Qa, callN P (n + 1) f ds h Qa → ds.length = F.np ∧ WpSs (ctxOf P (callN P n)) F.body { nx := fun _ h => Qa .non h, rt := Qa } (startS F ds) h := fun ds h Qa z => by
      have z' : (match P.fns.lookup f with
        | none => match P.tryf.lookup f with
          | some t => tryW P (callN P n) t ds h Qa
          | none => False
        | some F => ds.length = F.np ∧ WpSs (ctxOf P (callN P n)) F.body { nx := fun _ h => Qa .non h, rt := Qa } (startS F ds) h) := z
      rw [hf] at z'
      exact z'
    refine FnG.of_body (k := 4 * n + 3) hfun sc (fun vs H Q E ⟨cs, F', h, ds, Qa, _, r, z, _⟩ => ?_) (fun cdv A outer s H vs Q E hgd hr ⟨cs, F', h, ds, Qa, S, r, z, k⟩ => ?_)
    · rw [r.length, (call _ _ _ z).1, h4]
    · obtain ⟨z1, z2⟩ := call _ _ _ z
      have hN : vs.length ≤ t.N.length := scope_len sc (r.length.trans z1) h4
      refine ⟨WSs _ (defBody t.st), pss_we, ?_⟩
      have O : SOk (ctxOf P (callN P n)) T Cl (cxOf CX0 prog w K mg base t.N qual (defScope t.st) a cdv A outer s H E).nox :=
        sok_of hF sc.nd rfl hgd (hr.mono (by omega)) (fn_any hF n) PassesOwn.never (sto_of (prog := prog) (CX := CX0) (w := w) (K := K) (mg := mg) (base := base) (N := t.N) (st := t.st) (A := A) (outer := outer) (H := H) (E := E))
      refine sSs O sc.kind F.body (defBody t.st) h2 cs F' cs F' H { nx := fun _ h => Qa .non h, rt := Qa } _ (startS F ds) h (L2.start t.N vs) cs F' H ⟨?_, ?_, ?_, ?_, (fun _ _ _ _ => False), (fun u s' ⟨_, _, _, _, _, _, _, _, _, _, _, _, _, _, _, _, z⟩ => z.elim), fun _ _ _ _ _ _ _ _ _ z => z.elim⟩ ⟨S, ?_, .refl, ?_, fun _ _ z => z, [], by simp⟩ z2
      · intro cs2 F2 H2 h2 σ2 ρ2 n2 q2
        exact k _ _ _ _ _ _ n2.x n2.S .non q2
      · intro v d cs2 F2 H2 h2 x2 S2 r2 q2
        exact k _ _ _ _ _ _ x2 S2 r2 q2
      · intro cs2 F2 H2 h2 σ2 ρ2 n2 q2
        exact q2.elim
      · intro cs2 F2 H2 h2 σ2 ρ2 n2 q2
        exact q2.elim
      · exact env_start h3 hN r
      · intro i c a' hh
        exact absurd hh getS_startO
  | n + 1, f, t, a, fd, qual, ht, hfun, .inr ⟨y, hf, hy, hag⟩ => by
    unfold agTF at hag
    simp only [Bool.and_eq_true, decide_eq_true_eq] at hag
    obtain ⟨⟨⟨⟨h1, h2⟩, h3⟩, h4⟩, h5⟩ := hag
    have sc := scB_ok h1
    have call : ∀ ds h Qa, callN P (n + 1) f ds h Qa → tryW P (callN P n) y ds h Qa := fun ds h Qa z => by
      have z' : (match P.fns.lookup f with
        | none => match P.tryf.lookup f with
          | some t => tryW P (callN P n) t ds h Qa
          | none => False
        | some F => ds.length = F.np ∧ WpSs (ctxOf P (callN P n)) F.body { nx := fun _ h => Qa .non h, rt := Qa } (startS F ds) h) := z
      rw [hf, hy] at z'
      exact z'
    obtain ⟨_, hve, ⟨xg, Fg, hx1, hx2⟩, hexm, _⟩ := hF.tfn f y hy
    obtain ⟨tg, ag, fdg, qualg, g1, g2, g3, g4, g5⟩ := hF.fn y.g Fg hx2
    have FX := fn_x (prog := prog) (base := base) hF (fn_any hF n) hx2 g2 g3
    refine FnG.of_body (k := 4 * n + 3) hfun sc (fun vs H Q E ⟨cs, F', h, ds, Qa, _, r, z, _⟩ => ?_) (fun cdv A outer s H vs Q E hgd hr ⟨cs, F', h, ds, Qa, S, r, z, k⟩ => ?_)
    · rw [r.length, (call _ _ _ z).1, h4]
    · obtain ⟨z1, z2⟩ := call _ _ _ z
      have hN : vs.length ≤ t.N.length := scope_len sc (r.length.trans z1) h4
      refine ⟨WSs _ (defBody t.st), pss_we, ?_⟩
      cases ha : argV ds y.args with
      | none => rw [ha] at z2; exact z2.elim
      | some xs =>
        rw [ha] at z2
        exact try_ok (X := (cxOf CX0 prog w K mg base t.N qual (defScope t.st) a cdv A outer s H E).nox) (P := P) ⟨hF.blt, hve, hF.xnm⟩ sc.nd hgd rfl rfl (fun _ _ z => z) h2 (fun c b e => hF.cau c _ b e) hexm (fun x hx => g5 x hx) FX hr g4 S r (fun i v h => start_get h) (start_len hN) ha z2
          (fun cs' F' H' h' σ' x' S' q' => k _ _ _ _ _ _ x' S' .non q') (fun v d cs' F' H' h' x' S' r' q' => k _ _ _ _ _ _ x' S' r' q')
theorem fn_all (hF : PFacts w P T Cl ts K mg) (n f : Nat) (F : Fn) (hf : P.fns.lookup f = some F) (t : FnT) (a : Addr) (fd : FuncData) (qual : Str) (h1 : ts f = some t) (h2 : Fun K t.name qual t.st a fd) (h3 : agF T t F = true) :
    FnG prog w K mg base (4 * n) a fd t.ps (spOf K Cl (ctxOf P (callN P n)) f) := fn_any hF n f t a fd qual h1 h2 (.inl ⟨F, hf, h3⟩)
end

/-! ### constants of the module -/
theorem relV_of {u : Value} {v : V} (h : absV u = some v) : RelV v u := by
  cases u <;> simp [absV] at h <;> subst h <;> first | rfl | exact ⟨_, rfl⟩
def valsOf : List Value → Option (List V)
  | [] => some []
  | u :: us => match absV u, valsOf us with
    | some v, some vs => some (v :: vs)
    | _, _ => none
theorem vals_of : ∀ {us : List Value} {vs : List V}, valsOf us = some vs → Vals vs us
  | [], vs, h => by simp [valsOf] at h; subst h; exact .nil
  | u :: us, vs, h => by
    simp only [valsOf] at h
    split at h
    · rename_i v vs' h1 h2
      cases h
      exact .cons (relV_of h1) (vals_of h2)
    · cases h
/-- plain items -/
def flatOf : List V → Option (List AV)
  | [] => some []
  | .non :: r => (flatOf r).map (.non :: ·)
  | .bl b :: r => (flatOf r).map (.bl b :: ·)
  | .int b :: r => (flatOf r).map (.int b :: ·)
  | .str b :: r => (flatOf r).map (.str b :: ·)
  | _ => none
theorem flat_reps {K : PySem.W.Frag} {cs : List Addr} {F : Hp} : ∀ {vs : List V} {ds : List AV}, flatOf vs = some ds → Reps K cs F vs ds
  | [], ds, h => by simp [flatOf] at h; subst h; exact .nil
  | v :: vs, ds, h => by
    cases v <;> simp [flatOf] at h <;> obtain ⟨l, h1, h2⟩ := h <;> subst h2 <;> refine .cons ?_ (flat_reps h1)
    · exact .non
    · exact .bl _
    · exact .int _
    · exact .str _
/-- a tuple of plain items that stands in the written part -/
theorem tup_glob {K : PySem.W.Frag} {a : Addr} {od : Option Addr} {its : Array Value} {n : Nat} {sl : Array (Option Value)} {vs : List V} {ds : List AV} (l : K.lookup a = some ⟨.type "tuple", od, .seq its n, sl⟩) (hz : its.size ≤ sizeLine)
    (hv : valsOf its.toList = some vs) (hd : flatOf vs = some ds) : ∀ cs F, Rep K cs F (.ref a) (.tup ds) := fun cs F =>
  .tup (.inr ⟨_, its, n, l, rfl, rfl, hz, vals_of hv⟩) (flat_reps hd)

/-! ### the end of a law -/
theorem law_sp {K : PySem.W.Frag} {Cl : Nat → Addr} {P : Prg} {n fl : Nat} (h : ∀ ns : List Int, ns.length ≤ 63 → callN P n fl [.ro (ns.map AV.int)] [] fun d _ => d = .bl true) :
    ∀ (H : Hp) (a : Addr) (ns : List Int), ns.length ≤ 63 → Only H → SqL K H a (ns.map V.int) → spOf K Cl (ctxOf P (callN P n)) fl [.ref a] H (fun v _ => v = .bl true) fun _ _ _ => False := by
  intro H a ns hl _ hS
  have S : StOk K Cl [] H H [] := ⟨fun _ _ z => z, rfl, by simp, fun n a q => by simp at q, fun a q => by simp at q⟩
  have rs : Reps K [] H (ns.map V.int) (ns.map AV.int) := by
    clear hS hl
    induction ns with
    | nil => exact .nil
    | cons n ns ih => exact .cons (.int n) ih
  refine ⟨[], H, [], [.ro (ns.map AV.int)], fun d _ => d = .bl true, S, .cons (.ro hS rs) .nil, h ns hl, fun v d cs' F' H' h' _ _ r q => ?_⟩
  subst q
  cases r
  rfl
/-- the head of a law whose def keeps what FnG says -/
theorem head_G {P : Program} {W : World} {K : PySem.W.Frag} {gl mb : Str → Option Value} {k : Nat} {fa a : Addr} {fd : FuncData} {x : Str} {sp : Sp} {s1 : Shared} {vs : List Value} {ns : List Int}
    (KX : K.In s1.heap) (hns : s1.heap.Ns mainGlobals gl) (hb : s1.heap.Ns builtinsNs mb) (hbb : ∀ x : Str, x ≠ "__name__" → mb x = bootBuiltins x) (hlim : s1.heap.NoLimit) (hg : s1.gens = #[])
    (ha : s1.heap.get? a = some ⟨.type "list", none, .seq vs.toArray 0, #[]⟩) (hi : IntsAre vs ns) (hl : ns.length ≤ sizeLine) (room : Room k callerA)
    (F : ∀ B : Heap, K.In B → B.Ns mainGlobals gl → FnG P W K gl B k fa fd [x] sp) (bnd : ∀ (s : Shared) (u : Value), BindsTo s fd ⟨[u], []⟩ [(x, u)])
    (want : ∀ H : Hp, Only H → SqL K H a (ns.map V.int) → sp [.ref a] H (fun v _ => v = .bl true) fun _ _ _ => False) :
    codeAny (model P W) callerA (.call (.ref fa) ⟨[.ref a], []⟩) (fun r s2 => r = .ok (.ret (.bool true)) ∧ OldK s1.heap s2.heap ∧ s2.os = s1.os ∧ AllBare s2.gens) s1 := by
  have rel : Vals (ns.map V.int) vs := vals_ints hi
  have core : ∀ H : Hp, Only H → SqL K H a (ns.map V.int) → HOk P W H s1.heap → (∀ b, H b ≠ none → b = a ∧ K.lookup a = none) →
      codeAny (model P W) callerA (.call (.ref fa) ⟨[.ref a], []⟩) (fun r s2 => r = .ok (.ret (.bool true)) ∧ OldK s1.heap s2.heap ∧ s2.os = s1.os ∧ AllBare s2.gens) s1 := by
    intro H only sq ok at_
    have off : ∀ b o es ep, s1.heap.get? b = some o → o.data = .dict es ep → H b = none := by
      intro b o es ep e d
      apply Classical.byContradiction
      intro z
      obtain ⟨rfl, _⟩ := at_ b z
      rw [ha] at e
      cases e
      cases d
    have nsH : ∀ b m, s1.heap.Ns b m → (hidT s1.heap H).Ns b m := by
      rintro b m ⟨o, es, ep, e, d, r⟩
      exact ⟨o, es, ep, hidT_get e (off b o es ep e d), d, r⟩
    have inK : K.In (hidT s1.heap H) := by
      intro b o e
      refine hidT_get (KX b o e) (Classical.byContradiction fun z => ?_)
      obtain ⟨rfl, n⟩ := at_ b z
      rw [n] at e
      cases e
    obtain ⟨mc, c1, c2⟩ := hlim
    have md : Mod K gl (hidT s1.heap H) := ⟨inK, nsH _ _ hns, ⟨mb, nsH _ _ hb, hbb⟩, ⟨mc, nsH _ _ c1, c2⟩⟩
    have nofr : ∀ b, b ∈ frs [] → False := fun b z => by cases z
    have env : Env0 P W K gl (hidT s1.heap H) callerA [] s1 H := by
      refine ⟨rfl, md, fun b o e => of_hidT e, ?_, trivial, fun b z => (nofr b z).elim, ok, .of_eq hg⟩
      rw [hidT_size]
      exact Nat.le_refl _
    refine codeAny_mono ((F _ inK (nsH _ _ hns)).go callerA [] s1 H ⟨[.ref a], []⟩ [.ref a] [.ref a] _ _ rfl room env (bnd s1 (.ref a)) (.cons rfl .nil) (want H only sq)) ?_
    intro r s2 z
    match r, z with
    | .ok (.ret u), ⟨v, H2, os, bare, un, ok2, rv, q⟩ =>
      have q : v = .bl true := q
      subst q
      have rv : u = Value.bool true := rv
      subst rv
      refine ⟨rfl, OldK.of_keep ?_, os, bare⟩
      intro b o e
      cases hb : H b with
      | none => exact un.keep b o e hb (fun z => nofr b z) (by simp)
      | some y =>
        rcases only b with z | ⟨ob, xs, z⟩
        · rw [hb] at z; cases z
        · have f1 := (ok b _ z).1
          have f2 := (ok2 b _ (un.frzs b ob _ z)).1
          rw [e] at f1
          cases f1
          exact f2
    | .ok .next, z => exact z.elim
    | .ok .brk, z => exact z.elim
    | .ok .cont, z => exact z.elim
    | .error _, z => exact z.elim
  cases at_ : K.lookup a with
  | some o =>
    have e := KX a o at_
    rw [ha] at e
    cases e
    refine core (fun _ => none) (fun _ => .inl rfl) (.inr ⟨_, vs.toArray, 0, at_, rfl, rfl, rfl, ?_, by simpa using rel⟩) (fun b u z => nomatch z) fun b z => absurd rfl z
    rw [List.size_toArray, hi.length]
    exact hl
  | none =>
    have me : (fun b => if b = a then some (HO.frz ⟨.type "list", none, .seq vs.toArray 0, #[]⟩ (.lst (ns.map V.int))) else none) a = some (HO.frz ⟨.type "list", none, .seq vs.toArray 0, #[]⟩ (.lst (ns.map V.int))) := if_pos rfl
    have no : ∀ b, b ≠ a → (fun b => if b = a then some (HO.frz ⟨.type "list", none, .seq vs.toArray 0, #[]⟩ (.lst (ns.map V.int))) else none) b = none := fun b z => if_neg z
    refine core _ (fun b => ?_) (.inl (.inr ⟨_, me⟩)) (fun b u z => ?_) fun b z => ⟨Classical.byContradiction fun n => z (no b n), at_⟩
    · by_cases n : b = a
      · subst n; exact .inr ⟨_, _, me⟩
      · exact .inl (no b n)
    · by_cases n : b = a
      · subst n
        cases me.symm.trans z
        exact ⟨ha, by rw [List.length_map]; exact hl, vs, _, rel, ha⟩
      · cases (no b n).symm.trans z
theorem walk_G {l : PySem.W.OpenLaw} {n k : Nat} {q : Program} {loose : List Str} {XP : (Str → Option Value) → Heap → Prop} {YP : World → Heap → Prop} {d : DefRec} {K : Params → PySem.W.Frag} {x : Str}
    (hn : l.most = some n) (hn2 : n ≤ sizeLine) (hdf : d.params.defaults = []) (room : Room k callerA) (hY : ∀ (w : World) (h : Heap), YP w h → (K w.params).In h)
    (F : ∀ (w : World) (gl : Str → Option Value) (fa : Addr) (h : Heap), (K w.params).In h → h.Ns mainGlobals gl → gl d.name = some (.ref fa) →
      ∃ (fd : FuncData) (sp : Sp), (∀ (s : Shared) (u : Value), BindsTo s fd ⟨[u], []⟩ [(x, u)]) ∧ (∀ B : Heap, (K w.params).In B → B.Ns mainGlobals gl → FnG l.prog w (K w.params) gl B k fa fd [x] sp) ∧
        ∀ (H : Hp) (a : Addr) (ns : List Int), ns.length ≤ n → Only H → SqL (K w.params) H a (ns.map V.int) → sp [.ref a] H (fun v _ => v = .bl true) fun _ _ _ => False) :
    PySem.W.WalkO q loose XP YP l.row.toRowW d [] (fun f vs => PySem.call f vs) := by
  refine Att.attach_call hn hdf fun w s0 s1 gl mb fa o pm cd dc a vs ns G Y ho hd hcd hm hobj hints hlen hg => ?_
  have KX := hY w s1.heap Y
  obtain ⟨fd, sp, bnd, hF, want⟩ := F w gl fa s1.heap KX G.T.g hm
  exact head_G KX G.T.g G.T.b G.T.builtins G.T.nolimit hg hobj hints (Nat.le_trans hlen hn2) room hF bnd fun H hO hS => want H a ns hlen hO hS
end VL

set_option maxRecDepth 100000
set_option maxHeartbeats 4000000
/-! VL: reasoning over the transformers. -/
namespace VL
open PySem L2

section
variable {h : AHeap} {Q : KA} {i j : Int} {x y : AV} {s t : Str} {b c : Bool} {xs ys : List AV}
theorem k_add : binK h .Add (.int i) (.int j) Q = Q (.int (i + j)) := rfl
theorem k_addS : binK h .Add (.str s) (.str t) Q = (s.length + t.length ≤ sizeLine ∧ Q (.str (s ++ t))) := rfl
theorem k_addT : binK h .Add (.tup xs) (.tup ys) Q = (xs.length + ys.length ≤ sizeLine ∧ Q (.tup (xs ++ ys))) := rfl
theorem k_sub : binK h .Sub (.int i) (.int j) Q = Q (.int (i - j)) := rfl
theorem k_mul : binK h .Mult (.int i) (.int j) Q = (CMulA i j ∧ Q (.int (i * j))) := rfl
theorem k_mulT {xs : List AV} : binK h .Mult (.tup xs) (.int j) Q = ((xs ≠ [] ∧ (j = 0 ∨ j = 1)) ∧ Q (.tup (if j = 1 then xs else []))) := rfl
theorem k_mulS : binK h .Mult (.str s) (.int j) Q = ((-(2 ^ 60) < j ∧ j < 2 ^ 60 ∧ s.length * j.toNat ≤ 1000000) ∧ Q (.str (strRep s j))) := rfl
theorem k_fdiv : binK h .FloorDiv (.int i) (.int j) Q = (CDivA j ∧ Q (.int (i / j))) := rfl
theorem k_mod : binK h .Mod (.int i) (.int j) Q = (0 < j ∧ Q (.int (i % j))) := rfl
theorem k_pow : binK h .Pow (.int i) (.int j) Q = (CPow i j ∧ Q (.int (i ^ j.toNat))) := rfl
theorem k_neg : negK (.int i) Q = Q (.int (-i)) := rfl
theorem k_lt : cmpK h .Lt (.int i) (.int j) Q = Q (.bl (decide (i < j))) := rfl
theorem k_le : cmpK h .LtE (.int i) (.int j) Q = Q (.bl (decide (i ≤ j))) := rfl
theorem k_gt : cmpK h .Gt (.int i) (.int j) Q = Q (.bl (decide (j < i))) := rfl
theorem k_ge : cmpK h .GtE (.int i) (.int j) Q = Q (.bl (decide (j ≤ i))) := rfl
theorem k_eqI : cmpK h .Eq (.int i) (.int j) Q = Q (.bl (decide (i = j))) := rfl
theorem k_neI : cmpK h .NotEq (.int i) (.int j) Q = Q (.bl (!decide (i = j))) := rfl
theorem k_eqS : cmpK h .Eq (.str s) (.str t) Q = Q (.bl (decide (s = t))) := rfl
theorem k_neS : cmpK h .NotEq (.str s) (.str t) Q = Q (.bl (!decide (s = t))) := rfl
theorem k_eqB : cmpK h .Eq (.bl b) (.bl c) Q = Q (.bl (decide (b = c))) := rfl
theorem k_neB : cmpK h .NotEq (.bl b) (.bl c) Q = Q (.bl (!decide (b = c))) := rfl
theorem k_is : cmpK h .Is x .non Q = Q (.bl (isNon x)) := rfl
theorem k_isn : cmpK h .IsNot x .non Q = Q (.bl (!isNon x)) := rfl
theorem k_isB : cmpK h .Is (.bl b) (.bl c) Q = Q (.bl (decide (b = c))) := rfl
theorem k_isnB : cmpK h .IsNot (.bl b) (.bl c) Q = Q (.bl (!decide (b = c))) := rfl
theorem k_gIn {kvs : List (Str × Int)} {R : Bool → Prop} : gInK (some kvs) b (.str s) R = R (if b then !(kvs.lookup s).isSome else (kvs.lookup s).isSome) := rfl
theorem k_gGet {kvs : List (Str × Int)} (e : kvs.lookup s = some i) (q : Q (.int i)) : gGetK (some kvs) (.str s) Q := by
  show (match kvs.lookup s with | some i => Q (.int i) | none => False)
  rw [e]; exact q
theorem k_isC {n c : Nat} {fs : List (Str × AV)} (e : cells h n = .obj c fs) (q : Q (.bl true)) : isCK h c (.adr n) Q := by
  show (match cells h n with | .obj c' _ => c' = c ∧ Q (.bl true) | _ => False)
  rw [e]; exact ⟨rfl, q⟩
theorem k_in : cmpK h .In x y Q = inK h false x y Q := rfl
theorem k_nin : cmpK h .NotIn x y Q = inK h true x y Q := rfl
theorem k_inS {c : Nat} {b : Bool} : inK h b (.str ⟨#[c]⟩) (.str t) Q = Q (.bl (if b then !decide (c ∈ t.cps.toList) else decide (c ∈ t.cps.toList))) := rfl
theorem k_inF {b : Bool} (hx : flatA x = true) (hy : viewT h y = some xs) (hf : xs.all flatA = true) (hn : ∀ z, y ≠ .str z) (q : Q (.bl (if b then !(xs.any fun y => eqF y x) else xs.any fun y => eqF y x))) : inK h b x y Q := by
  unfold inK
  split
  · exact absurd rfl (hn _)
  · rw [hy]
    exact .inl ⟨hx, hf, q⟩
/-- membership among data -/
theorem k_inD {b : Bool} {d : PyData} {ds : List PyData} (hy : viewT h y = some xs) (hn : ∀ z, y ≠ .str z) (h1 : pdH h x = some d) (h2 : pdHs h xs = some ds) (s1 : SeqAt.shaped d = true) (s2 : ds.all SeqAt.shaped = true)
    (q : Q (.bl (if b then !(ds.any fun y => PyData.eqv y d) else ds.any fun y => PyData.eqv y d))) : inK h b x y Q := by
  unfold inK
  split
  · exact absurd rfl (hn _)
  · rw [hy]
    exact .inr ⟨d, ds, h1, h2, s1, s2, q⟩
theorem isi_non_int : isiK .non "int" h Q = Q (.bl false) := by simp [isiK, view]
theorem isi_non_bool : isiK .non "bool" h Q = Q (.bl false) := by simp [isiK, view]
theorem isi_non_str : isiK .non "str" h Q = Q (.bl false) := by simp [isiK, view]
theorem isi_non_list : isiK .non "list" h Q = Q (.bl false) := by simp [isiK, view]
theorem isi_non_tuple : isiK .non "tuple" h Q = Q (.bl false) := by simp [isiK, view]
theorem isi_bl_int : isiK (.bl b) "int" h Q = Q (.bl true) := by simp [isiK, view]
theorem isi_bl_bool : isiK (.bl b) "bool" h Q = Q (.bl true) := by simp [isiK, view]
theorem isi_bl_str : isiK (.bl b) "str" h Q = Q (.bl false) := by simp [isiK, view]
theorem isi_bl_list : isiK (.bl b) "list" h Q = Q (.bl false) := by simp [isiK, view]
theorem isi_bl_tuple : isiK (.bl b) "tuple" h Q = Q (.bl false) := by simp [isiK, view]
theorem isi_int_int : isiK (.int i) "int" h Q = Q (.bl true) := by simp [isiK, view]
theorem isi_int_bool : isiK (.int i) "bool" h Q = Q (.bl false) := by simp [isiK, view]
theorem isi_int_str : isiK (.int i) "str" h Q = Q (.bl false) := by simp [isiK, view]
theorem isi_int_list : isiK (.int i) "list" h Q = Q (.bl false) := by simp [isiK, view]
theorem isi_int_tuple : isiK (.int i) "tuple" h Q = Q (.bl false) := by simp [isiK, view]
theorem isi_str_int : isiK (.str s) "int" h Q = Q (.bl false) := by simp [isiK, view]
theorem isi_str_bool : isiK (.str s) "bool" h Q = Q (.bl false) := by simp [isiK, view]
theorem isi_str_str : isiK (.str s) "str" h Q = Q (.bl true) := by simp [isiK, view]
theorem isi_str_list : isiK (.str s) "list" h Q = Q (.bl false) := by simp [isiK, view]
theorem isi_str_tuple : isiK (.str s) "tuple" h Q = Q (.bl false) := by simp [isiK, view]
theorem isi_tup_int : isiK (.tup xs) "int" h Q = Q (.bl false) := by simp [isiK, view]
theorem isi_tup_bool : isiK (.tup xs) "bool" h Q = Q (.bl false) := by simp [isiK, view]
theorem isi_tup_str : isiK (.tup xs) "str" h Q = Q (.bl false) := by simp [isiK, view]
theorem isi_tup_list : isiK (.tup xs) "list" h Q = Q (.bl false) := by simp [isiK, view]
theorem isi_tup_tuple : isiK (.tup xs) "tuple" h Q = Q (.bl true) := by simp [isiK, view]
theorem isi_lst_int : isiK (.lst xs) "int" h Q = Q (.bl false) := by simp [isiK, view]
theorem isi_lst_bool : isiK (.lst xs) "bool" h Q = Q (.bl false) := by simp [isiK, view]
theorem isi_lst_str : isiK (.lst xs) "str" h Q = Q (.bl false) := by simp [isiK, view]
theorem isi_lst_list : isiK (.lst xs) "list" h Q = Q (.bl true) := by simp [isiK, view]
theorem isi_lst_tuple : isiK (.lst xs) "tuple" h Q = Q (.bl false) := by simp [isiK, view]
theorem isi_ro_int : isiK (.ro xs) "int" h Q = Q (.bl false) := by simp [isiK, view]
theorem isi_ro_bool : isiK (.ro xs) "bool" h Q = Q (.bl false) := by simp [isiK, view]
theorem isi_ro_str : isiK (.ro xs) "str" h Q = Q (.bl false) := by simp [isiK, view]
theorem isi_ro_list : isiK (.ro xs) "list" h Q = Q (.bl true) := by simp [isiK, view]
theorem isi_ro_tuple : isiK (.ro xs) "tuple" h Q = Q (.bl false) := by simp [isiK, view]
theorem k_intB : bltK h .int [.bl b] Q = Q (.int (if b = true then 1 else 0)) := rfl
theorem isNon_non : isNon .non = true := rfl
theorem isNon_int : isNon (.int i) = false := rfl
theorem isNon_str : isNon (.str s) = false := rfl
theorem isNon_lst : isNon (.lst xs) = false := rfl
theorem isNon_tup : isNon (.tup xs) = false := rfl
theorem isNon_adr {n : Nat} : isNon (.adr n) = false := rfl
theorem k_subL (hv : viewT h x = some xs) (hn : ∀ z, x ≠ .str z) {d : AV} (e : atI xs i = some d) (q : Q d) : subK h x (.int i) Q := by
  unfold subK
  split
  · exact absurd rfl (hn _)
  · rw [hv]
    simp only [e]
    exact q
theorem k_subS {k : Nat} (hz : s.length ≤ sizeLine) {c : Nat} (e : s.cps.toList[k]? = some c) (q : Q (.str ⟨#[c]⟩)) : subK h (.str s) (.int (k : Int)) Q := by
  have hk : k < s.cps.toList.length := (List.getElem?_eq_some_iff.mp e).1
  have : atI s.cps.toList (k : Int) = some c := by
    unfold atI
    rw [Evl.ixN_nat hk]
    exact e
  refine ⟨hz, ?_⟩
  rw [this]
  exact q
theorem atI_nat {α : Type} {l : List α} {k : Nat} (hk : k < l.length) : atI l (k : Int) = l[k]? := by
  unfold atI
  rw [Evl.ixN_nat hk]
  rfl
theorem k_lenS : bltK h .len [.str s] Q = (s.length ≤ sizeLine ∧ Q (.int s.length)) := rfl
theorem k_lenL : bltK h .len [.lst xs] Q = Q (.int xs.length) := rfl
theorem k_lenR : bltK h .len [.ro xs] Q = Q (.int xs.length) := rfl
theorem k_lenT : bltK h .len [.tup xs] Q = Q (.int xs.length) := rfl
theorem k_abs : bltK h .abs [.int i] Q = Q (.int (if i < 0 then -i else i)) := rfl
theorem k_int : bltK h .int [.int i] Q = Q (.int i) := rfl
theorem k_intS {n : Int} (e : PySem.intText? s = some n) (hz : s.length ≤ 640) (q : Q (.int n)) : bltK h .int [.str s] Q := by
  show (match PySem.intText? s with | some n => s.length ≤ 640 ∧ Q (.int n) | none => False)
  rw [e]
  exact ⟨hz, q⟩
theorem k_str : bltK h .str [.int i] Q = (i.natAbs.log2 < 1920 ∧ Q (.str (toString i))) := rfl
theorem k_max2 : bltK h .max2 [.int i, .int j] Q = Q (.int (if j > i then j else i)) := rfl
theorem k_min2 : bltK h .min2 [.int i, .int j] Q = Q (.int (if j < i then j else i)) := rfl
theorem k_sliceS {lo hi : Option Int} : sliceK h (.str s) lo hi Q = (s.length ≤ sizeLine ∧ Q (.str (cutS s lo hi))) := rfl
theorem k_sliceT {lo hi : Option Int} : sliceK h (.tup xs) lo hi Q = Q (.tup (cut xs lo hi)) := rfl
theorem viewE_lst : viewE h (.lst xs) = some xs := rfl
theorem viewE_tup : viewE h (.tup xs) = some xs := rfl
theorem zs_lst : zs (.lst xs) = some xs := rfl
theorem zs_tup : zs (.tup xs) = some xs := rfl
theorem viewT_lst : viewT h (.lst xs) = some xs := rfl
theorem viewT_ro : viewT h (.ro xs) = some xs := rfl
theorem viewT_tup : viewT h (.tup xs) = some xs := rfl
theorem view_lst : view h (.lst xs) = some xs := rfl
theorem view_ro : view h (.ro xs) = some xs := rfl
theorem viewW_lst : viewW h (.lst xs) = some xs := rfl
theorem tru_bl : truK h (.bl b) = fun Q => Q b := rfl
theorem asStrs_map (l : List Str) : asStrs (l.map AV.str) = some l := by
  induction l with
  | nil => rfl
  | cons x l ih => simp [asStrs, ih]
theorem asBools_map (l : List Bool) : asBools (l.map AV.bl) = some l := by
  induction l with
  | nil => rfl
  | cons x l ih => simp [asBools, ih]
end
theorem mulA_r {i j : Int} (h1 : -18446744073709551616 < j) (h2 : j < 18446744073709551616) : CMulA i j := by
  have e : (2 ^ 64 : Int) = 18446744073709551616 := by decide
  refine .inl (.inr ⟨?_, ?_⟩) <;> omega
theorem mulA_l {i j : Int} (h1 : -18446744073709551616 < i) (h2 : i < 18446744073709551616) : CMulA i j := by
  have e : (2 ^ 64 : Int) = 18446744073709551616 := by decide
  refine .inl (.inl ⟨?_, ?_⟩) <;> omega
theorem divA {j : Int} (h1 : 0 < j) (h2 : j < 18446744073709551616) : CDivA j := ⟨h1, by
  have : j.natAbs < 2 ^ 64 := by
    have e : (2 ^ 64 : Nat) = 18446744073709551616 := by decide
    omega
  have := PySem.Flt.log2_lt_of (by decide : 0 < 64) this
  omega⟩

/-! ### loops -/
/-- a for by an invariant; the body is shown for any ends that follow from it -/
theorem for_invX {B : AV → Kt → Env → AHeap → Prop} {chk : AHeap → Prop} {D : Kt} {xs : List AV} {ρ : Env} {h : AHeap} (Inv : Nat → Env → AHeap → Prop) (h0 : Inv 0 ρ h) (hc : ∀ i ρ h, i ≤ xs.length → Inv i ρ h → chk h)
    (hs : ∀ i x ρ h (D' : Kt), xs[i]? = some x → Inv i ρ h → (∀ ρ h, Inv (i + 1) ρ h → D'.nx ρ h) → (∀ ρ h, Inv (i + 1) ρ h → D'.ct ρ h) → (∀ v h, D.rt v h → D'.rt v h) → (∀ ρ h, D.nx ρ h → D'.bk ρ h) → (∀ c n h, D.ex c n h → D'.ex c n h) → B x D' ρ h)
    (hd : ∀ ρ h, Inv xs.length ρ h → D.nx ρ h) : forL B chk D xs ρ h := by
  have key : ∀ (ys : List AV) (i : Nat), xs.drop i = ys → i ≤ xs.length → ∀ ρ h, Inv i ρ h → forL B chk D ys ρ h := by
    intro ys
    induction ys with
    | nil =>
      intro i e hi ρ h hI
      have : i = xs.length := by
        have := List.drop_eq_nil_iff.mp e
        omega
      subst this
      exact ⟨hc _ _ _ hi hI, hd _ _ hI⟩
    | cons y ys ih =>
      intro i e hi ρ h hI
      have hlt : i < xs.length := by
        cases Nat.lt_or_ge i xs.length with
        | inl q => exact q
        | inr q => rw [List.drop_of_length_le q] at e; cases e
      have hx : xs[i]? = some y := by
        rw [List.drop_eq_getElem_cons hlt] at e
        cases e
        exact List.getElem?_eq_getElem hlt
      have ht : xs.drop (i + 1) = ys := by
        rw [List.drop_eq_getElem_cons hlt] at e
        exact (List.cons.inj e).2
      exact ⟨hc _ _ _ hi hI, hs i y ρ h _ hx hI (fun ρ h q => ih (i + 1) ht hlt ρ h q) (fun ρ h q => ih (i + 1) ht hlt ρ h q) (fun _ _ q => q) (fun _ _ q => q) (fun _ _ _ q => q)⟩
  exact key xs 0 rfl (Nat.zero_le _) ρ h h0
theorem for_inv {B : AV → Kt → Env → AHeap → Prop} {chk : AHeap → Prop} {D : Kt} {xs : List AV} {ρ : Env} {h : AHeap} (Inv : Nat → Env → AHeap → Prop) (h0 : Inv 0 ρ h) (hc : ∀ i ρ h, i ≤ xs.length → Inv i ρ h → chk h)
    (hs : ∀ i x ρ h (D' : Kt), xs[i]? = some x → Inv i ρ h → (∀ ρ h, Inv (i + 1) ρ h → D'.nx ρ h) → (∀ ρ h, Inv (i + 1) ρ h → D'.ct ρ h) → (∀ v h, D.rt v h → D'.rt v h) → (∀ ρ h, D.nx ρ h → D'.bk ρ h) → B x D' ρ h)
    (hd : ∀ ρ h, Inv xs.length ρ h → D.nx ρ h) : forL B chk D xs ρ h :=
  for_invX Inv h0 hc (fun i x ρ h D' a b c d e f _ => hs i x ρ h D' a b c d e f) hd
/-- a comprehension by an invariant over what it has made -/
theorem comp_inv {B : AV → AHeap → (Option AV → AHeap → Prop) → Prop} {chk : AHeap → Prop} {xs acc : List AV} {h : AHeap} {Q : List AV → AHeap → Prop} (Inv : Nat → List AV → AHeap → Prop) (h0 : Inv 0 acc h) (hc : ∀ i a h, i ≤ xs.length → Inv i a h → chk h)
    (hs : ∀ i x a h R, xs[i]? = some x → Inv i a h → (∀ (y : AV) h', Inv (i + 1) (a ++ [y]) h' → R (some y) h') → (∀ h', Inv (i + 1) a h' → R none h') → B x h R) (hd : ∀ a h, Inv xs.length a h → Q a h) : compL B chk xs acc h Q := by
  have key : ∀ (ys : List AV) (i : Nat), xs.drop i = ys → i ≤ xs.length → ∀ a h, Inv i a h → compL B chk ys a h Q := by
    intro ys
    induction ys with
    | nil =>
      intro i e hi a h hI
      have : i = xs.length := by
        have := List.drop_eq_nil_iff.mp e
        omega
      subst this
      exact ⟨hc _ _ _ hi hI, hd _ _ hI⟩
    | cons y ys ih =>
      intro i e hi a h hI
      have hlt : i < xs.length := by
        cases Nat.lt_or_ge i xs.length with
        | inl q => exact q
        | inr q => rw [List.drop_of_length_le q] at e; cases e
      have hx : xs[i]? = some y := by
        rw [List.drop_eq_getElem_cons hlt] at e
        cases e
        exact List.getElem?_eq_getElem hlt
      have ht : xs.drop (i + 1) = ys := by
        rw [List.drop_eq_getElem_cons hlt] at e
        exact (List.cons.inj e).2
      exact ⟨hc _ _ _ hi hI, hs i y a h _ hx hI (fun y h q => ih (i + 1) ht hlt _ h q) (fun h q => ih (i + 1) ht hlt _ h q)⟩
  exact key xs 0 rfl (Nat.zero_le _) acc h h0
/-- a comprehension without a test whose items make what f says, the heap as it was -/
theorem comp_map {B : AV → AHeap → (Option AV → AHeap → Prop) → Prop} {xs : List AV} {h : AHeap} {Q : List AV → AHeap → Prop} (f : Nat → AV) (hs : ∀ i x R, xs[i]? = some x → R (some (f i)) h → B x h R) (hd : Q ((List.range xs.length).map f) h) :
    compL B (fun _ => True) xs [] h Q := by
  refine comp_inv (fun i a h' => a = (List.range i).map f ∧ h' = h) ⟨rfl, rfl⟩ (fun _ _ _ _ _ => trivial) ?_ ?_
  · rintro i x a h' R hx ⟨rfl, rfl⟩ k1 k2
    exact hs i x R hx (k1 _ _ ⟨by rw [List.range_succ, List.map_append]; rfl, rfl⟩)
  · rintro a h' ⟨rfl, rfl⟩
    exact hd
/-- a while by an invariant and a measure -/
theorem wh_inv {T : Env → AHeap → (Bool → AHeap → Prop) → Prop} {B : Kt → Env → AHeap → Prop} {D : Kt} {ρ : Env} {h : AHeap} (W : Nat → Env → AHeap → Prop) (m0 : Nat) (h0 : W m0 ρ h)
    (hs : ∀ m ρ h (D' : Kt), W m ρ h → (∀ m' ρ h, m' < m → W m' ρ h → D'.nx ρ h) → (∀ m' ρ h, m' < m → W m' ρ h → D'.ct ρ h) → (∀ v h, D.rt v h → D'.rt v h) → (∀ ρ h, D.nx ρ h → D'.bk ρ h) → T ρ h fun b h1 => if b = true then B D' ρ h1 else D.nx ρ h1) : whL T B D ρ h :=
  ⟨W, ⟨m0, h0⟩, fun m ρ h w => hs m ρ h _ w (fun m' _ _ a b => ⟨m', a, b⟩) (fun m' _ _ a b => ⟨m', a, b⟩) (fun _ _ q => q) (fun _ _ q => q)⟩
theorem ite_b {c : Prop} [Decidable c] {A B : Prop} (h1 : c → A) (h2 : ¬ c → B) : if decide c = true then A else B := by
  by_cases h : c
  · rw [if_pos (decide_eq_true h)]; exact h1 h
  · rw [if_neg (by rw [decide_eq_false h]; decide)]; exact h2 h
theorem ite_p {c : Prop} [Decidable c] {A B : Prop} (h1 : c → A) (h2 : ¬ c → B) : if c then A else B := by
  by_cases h : c
  · rw [if_pos h]; exact h1 h
  · rw [if_neg h]; exact h2 h
theorem ctx_call {P : Prg} {c} : (ctxOf P c).call = c := rfl
theorem ctx_gdct {P : Prg} {c} {g : Nat} : (ctxOf P c).gdct g = P.gdct.lookup g := rfl
theorem ctx_glob {P : Prg} {c} {g : Nat} : (ctxOf P c).glob g = P.glob.lookup g := rfl
theorem items_range {n : Nat} {f : Nat → AV} {i : Nat} {x : AV} (h : ((List.range n).map f)[i]? = some x) : i < n ∧ x = f i := by
  rw [List.getElem?_map] at h
  obtain ⟨j, h1, rfl⟩ := Option.map_eq_some_iff.mp h
  have h2 := List.getElem?_eq_some_iff.mp h1
  obtain ⟨h3, h4⟩ := h2
  simp at h3 h4
  exact ⟨h3, by rw [h4]⟩
theorem items_map {α : Type} {l : List α} {f : α → AV} {i : Nat} {x : AV} (h : (l.map f)[i]? = some x) : ∃ a, l[i]? = some a ∧ x = f a := by
  rw [List.getElem?_map] at h
  obtain ⟨j, h1, rfl⟩ := Option.map_eq_some_iff.mp h
  exact ⟨j, h1, rfl⟩
theorem cut_take {α : Type} (l : List α) (i j n : Nat) (e : n = l.length) : (l.drop (min i n)).take (min j n - min i n) = (l.drop i).take (j - i) := by
  subst e
  by_cases hi : l.length ≤ i
  · rw [Nat.min_eq_right hi, List.drop_of_length_le (Nat.le_refl _), List.drop_of_length_le hi]; simp
  · rw [Nat.min_eq_left (by omega : i ≤ l.length)]
    by_cases hj : j ≤ l.length
    · rw [Nat.min_eq_left hj]
    · rw [Nat.min_eq_right (by omega : l.length ≤ j), List.take_of_length_le (by simp), List.take_of_length_le (by simp; omega)]
theorem cut_ss {α : Type} (l : List α) (i j : Nat) : cut l (some (i : Int)) (some (j : Int)) = (l.drop i).take (j - i) := by
  unfold cut
  rw [HT.sIx_nat, HT.sIx_nat, cut_take _ _ _ _ rfl]
theorem cut_ns {α : Type} (l : List α) (j : Nat) : cut l none (some (j : Int)) = l.take j := by
  have := cut_ss l 0 j
  rw [List.drop_zero, Nat.sub_zero] at this
  rw [← this]
  unfold cut
  rw [HT.sIx_nat, HT.sIx_nat, HT.sIx_none, Nat.zero_min]
theorem cut_sn {α : Type} (l : List α) (i : Nat) : cut l (some (i : Int)) none = l.drop i := by
  have := cut_ss l i l.length
  rw [List.take_of_length_le (by simp)] at this
  rw [← this]
  unfold cut
  rw [HT.sIx_nat, HT.sIx_nat, HT.sIx_none, Nat.min_self]
theorem look_mem {α β : Type} [BEq α] [LawfulBEq α] {l : List (α × β)} {k : α} {v : β} (h : l.lookup k = some v) : (k, v) ∈ l := by
  induction l with
  | nil => cases h
  | cons x l ih =>
    obtain ⟨a, b⟩ := x
    rw [List.lookup_cons] at h
    cases e : k == a with
    | true =>
      rw [e] at h
      have h : some b = some v := h
      cases h
      rw [eq_of_beq e]
      exact List.mem_cons_self ..
    | false =>
      rw [e] at h
      exact List.mem_cons_of_mem _ (ih h)
theorem call_of {P : Prg} {n f : Nat} {F : Fn} {args : List AV} {h : AHeap} {Q : AV → AHeap → Prop} (e : P.fns.lookup f = some F) (l : args.length = F.np) (w : WpSs (ctxOf P (callN P n)) F.body { nx := fun _ h => Q .non h, rt := Q } (startS F args) h) : callN P (n + 1) f args h Q := by
  show (match P.fns.lookup f with | none => (match P.tryf.lookup f with | some t => tryW P (callN P n) t args h Q | none => False) | some F => args.length = F.np ∧ WpSs (ctxOf P (callN P n)) F.body { nx := fun _ h => Q .non h, rt := Q } (startS F args) h)
  rw [e]
  exact ⟨l, w⟩
theorem body_of {P : Prg} {rec : Nat → List AV → AHeap → (AV → AHeap → Prop) → Prop} {f : Nat} {F : Fn} {args : List AV} {h : AHeap} {Q : AV → AHeap → Prop} {E : Nat → Int → AHeap → Prop} (e : P.fns.lookup f = some F) (l : args.length = F.np)
    (w : WpSs (ctxOf P rec) F.body { nx := fun _ h => Q .non h, rt := Q, ex := E } (startS F args) h) : bodyW P rec f args h Q E := by
  unfold bodyW
  rw [e]
  exact ⟨l, w⟩
theorem try_of {P : Prg} {n f : Nat} {t : TryF} {args xs : List AV} {h : AHeap} {Q : AV → AHeap → Prop} (e0 : P.fns.lookup f = none) (e : P.tryf.lookup f = some t) (l : args.length = t.np) (ha : argV args t.args = some xs)
    (w : bodyW P (callN P n) t.g xs h (fun v h2 => match okV t v with
      | some d => Q d h2
      | none => False) (fun c n h2 => match tryV P c n t with
      | some d => Q d h2
      | none => False)) : callN P (n + 1) f args h Q := by
  show (match P.fns.lookup f with | none => (match P.tryf.lookup f with | some t => tryW P (callN P n) t args h Q | none => False) | some F => args.length = F.np ∧ WpSs (ctxOf P (callN P n)) F.body { nx := fun _ h => Q .non h, rt := Q } (startS F args) h)
  rw [e0]
  show (match P.tryf.lookup f with | some t => tryW P (callN P n) t args h Q | none => False)
  rw [e]
  refine ⟨l, ?_⟩
  rw [ha]
  exact w
theorem clsIn_of {K : PySem.W.Frag} {nm q : Str} {C N : Addr} {bs bm : List Value} {hdct : Bool} {sn : List Str} {sub : List Value} {ab : Bool} {col : Option Bool} {dd : Option Addr} {k0 k1 k2 k3 k5 : Option Value} {newId : String}
    (h : K.lookup C = some (excClassObj nm q C N bs bm hdct sn sub ab col dd k0 k1 k2 k3 k5 newId)) : (PySem.W.clsIn K C).isSome = true := by
  unfold PySem.W.clsIn
  rw [h]
  rfl
theorem exm_of {K : PySem.W.Frag} {t : Value} {D : Addr} {b : Bool} (h1 : PySem.W.subIn K (.ref D) (.type "BaseException") = some true) (h2 : (PySem.W.clsIn K D).isSome = true) (h3 : PySem.W.typeIn K (.ref D) = some (.type "type")) (h4 : PySem.W.subIn K t (.ref D) = some b) :
    PySem.W.exmOne K t (.ref D) = some b := by
  unfold PySem.W.exmOne PySem.W.kitCls
  simp only [h1, h2, h3]
  simpa using h4
/-- of all that stand in a table -/
def AllP {α β : Type} (G : α → β → Prop) : List (α × β) → Prop
  | [] => True
  | (f, F) :: r => G f F ∧ AllP G r
theorem look_all {α β : Type} [BEq α] [LawfulBEq α] {G : α → β → Prop} {k : α} {v : β} : ∀ {l : List (α × β)}, AllP G l → l.lookup k = some v → G k v
  | [], _, h => by cases h
  | (a, b) :: l, g, h => by
    rw [List.lookup_cons] at h
    cases e : k == a with
    | true =>
      rw [e] at h
      have h : some b = some v := h
      cases h
      rw [eq_of_beq e]
      exact g.1
    | false =>
      rw [e] at h
      exact look_all g.2 h
end VL

set_option maxRecDepth 100000
set_option maxHeartbeats 4000000
namespace Hd
open PySem L2 VL

def b_law_draws_1 : Ss := (.cons (.asg (.nm 7) (.bin .Mod (.blt .int (.cons (.bin .Add (.bin .Add (.bin .Mult (.var 5) (.cint 48271)) (.bin .Mult (.var 4) (.cint 69621))) (.cint 11)) .nil)) (.cint 2147483647))) (.cons (.asg (.nm 7) (.bin .Mod (.blt .int (.cons (.bin .Add (.bin .FloorDiv (.bin .Mult (.var 7) (.var 7)) (.cint 4096)) (.var 7)) .nil)) (.cint 2147483629))) (.cons (.app 3 (.bin .Mod (.blt .int (.cons (.bin .Add (.bin .FloorDiv (.bin .Mult (.var 7) (.var 7)) (.cint 4096)) (.bin .Mult (.var 4) (.cint 7919))) .nil)) (.cint 2147483629))) .nil)))
def b_law_draws_2 : Ss := (.cons (.asg (.nm 5) (.var 4)) (.cons (.ite (.cmp .Gt (.blt .len (.cons (.var 0) .nil)) (.cint 0)) (.cons (.asg (.nm 6) (.bin .Mod (.var 4) (.blt .len (.cons (.var 0) .nil)))) (.cons (.asg (.nm 5) (.blt .int (.cons (.sub (.var 0) (.var 6)) .nil))) (.cons (.ite (.and (.cmp .GtE (.var 5) (.bin .Pow (.cint 10) (.cint 18))) (.cmp .Gt (.sub (.vw 2) (.var 6)) (.cint 0))) (.cons (.app 3 (.bin .Mod (.blt .int (.cons (.sub (.vw 2) (.var 6)) .nil)) (.cint 1000003))) (.cons (.put 2 (.var 6) (.bin .FloorDiv (.blt .int (.cons (.sub (.vw 2) (.var 6)) .nil)) (.cint 1000003))) (.cons .cont .nil))) .nil) .nil))) .nil) b_law_draws_1))
def b_law_draws_3 : Ss := (.cons (.frz 3) (.cons (.ret (.var 3)) .nil))
def b_law_draws : Ss := (.cons (.asgO 2 (.comp (.blt .abs (.cons (.blt .int (.cons (.var 5) .nil)) .nil)) (.nm 5) (.seq (.var 0)) .no [5])) (.cons (.asgO 3 (.lst .nil)) (.cons (.for (.nm 4) (.rng1 (.var 1)) b_law_draws_2) b_law_draws_3)))
def b_law_take_1 : Ss := (.cons (.ret (.bin .Mod (.bin .FloorDiv (.blt .int (.cons (.sub (.var 3) (.var 2)) .nil)) (.cint 7)) (.var 1))) .nil)
def b_law_take : Ss := (.cons (.asg (.nm 2) (.sub (.var 0) (.cint 1))) (.cons (.putE (.var 0) (.cint 1) (.bin .Add (.var 2) (.cint 1))) (.cons (.asg (.nm 3) (.sub (.var 0) (.cint 0))) (.cons (.ite (.cmp .GtE (.var 2) (.blt .len (.cons (.var 3) .nil))) (.cons (.ret (.cint 0)) .nil) .nil) b_law_take_1))))
class U (P : Prg) : Prop where
  f__law_draws : P.fns.lookup 19 = some ⟨2, 8, b_law_draws⟩
  f__law_take : P.fns.lookup 20 = some ⟨2, 4, b_law_take⟩
end Hd

set_option maxRecDepth 100000
set_option maxHeartbeats 4000000
namespace Nm
open PySem L2 VL

def b_law_names_1 : Ss := (.cons (.asg (.nm 3) (.sub (.fz (.lst (.cons (.cstr "u") (.cons (.cstr "z") (.cons (.cstr "uz") (.cons (.cstr "zuuz") (.cons (.cstr "zzzzuuuu") .nil))))))) (.call 20 (.cons (.var 0) (.cons (.cint 5) .nil))))) (.cons (.app 1 (.sub (.fz (.lst (.cons (.var 2) (.cons (.bin .Add (.var 2) (.var 3)) (.cons (.bin .Add (.var 3) (.var 2)) .nil))))) (.call 20 (.cons (.var 0) (.cons (.cint 3) .nil))))) .nil))
def b_law_names_2 : Ss := (.cons (.frz 1) (.cons (.ret (.var 1)) .nil))
def b_law_names : Ss := (.cons (.asgO 1 (.lst .nil)) (.cons (.for (.nm 2) (.chars (.cstr "abcdegkmpqvxyhjw")) b_law_names_1) b_law_names_2))
class U (P : Prg) : Prop where
  f__law_names : P.fns.lookup 148 = some ⟨1, 4, b_law_names⟩
end Nm

set_option maxRecDepth 100000
set_option maxHeartbeats 4000000
namespace Pc
open PySem L2 VL

def b_Procedure___init__ : Ss := (.cons (.fld (.var 0) "row" (.var 1)) (.cons (.fld (.var 0) "name" (.var 2)) (.cons (.fld (.var 0) "parameters" (.blt .tuple (.cons (.var 3) .nil))) (.cons (.fld (.var 0) "needs" (.blt .tuple (.cons (.var 4) .nil))) (.cons (.fld (.var 0) "gives" (.blt .tuple (.cons (.var 5) .nil))) (.cons (.fld (.var 0) "moves" (.blt .tuple (.cons (.var 6) .nil))) (.cons (.fld (.var 0) "falls" (.var 7)) (.cons (.fld (.var 0) "lets" (.blt .tuple (.cons (.var 8) .nil))) (.cons (.fld (.var 0) "body" (.blt .tuple (.cons (.var 9) .nil))) .nil)))))))))
def b_Procedure_list_names : Ss := (.cons (.ret (.fz (.comp (.var 1) (.tup [1, 2]) (.seq (.attr (.var 0) "parameters")) (.so (.tru (.var 2))) [1, 2]))) .nil)
def b_Program___init__ : Ss := (.cons (.fld (.var 0) "procedures" (.blt .tuple (.cons (.var 1) .nil))) .nil)
def b_Program_called_1 : Ss := (.cons (.ite (.cmp .Eq (.attr (.var 2) "name") (.var 1)) (.cons (.ret (.var 2)) .nil) .nil) .nil)
def b_Program_called_2 : Ss := (.cons (.ret .cnon) .nil)
def b_Program_called : Ss := (.cons (.for (.nm 2) (.seq (.attr (.var 0) "procedures")) b_Program_called_1) b_Program_called_2)
class U (P : Prg) : Prop where
  f_Procedure___init__ : P.fns.lookup 258 = some ⟨10, 10, b_Procedure___init__⟩
  f_Procedure_list_names : P.fns.lookup 259 = some ⟨1, 3, b_Procedure_list_names⟩
  f_Program___init__ : P.fns.lookup 260 = some ⟨2, 2, b_Program___init__⟩
  f_Program_called : P.fns.lookup 261 = some ⟨2, 3, b_Program_called⟩
  m_10_called : P.meth.lookup (10, ("called" : Str)) = some 261
  p_11_list_names : P.prps.lookup (11, ("list_names" : Str)) = some 259
  i_11 : P.init.lookup 11 = some 258
  i_10 : P.init.lookup 10 = some 260
  d_11_row : P.flds.contains (11, ("row" : Str)) = true
  d_11_name : P.flds.contains (11, ("name" : Str)) = true
  d_11_parameters : P.flds.contains (11, ("parameters" : Str)) = true
  d_11_needs : P.flds.contains (11, ("needs" : Str)) = true
  d_11_gives : P.flds.contains (11, ("gives" : Str)) = true
  d_11_moves : P.flds.contains (11, ("moves" : Str)) = true
  d_11_falls : P.flds.contains (11, ("falls" : Str)) = true
  d_11_lets : P.flds.contains (11, ("lets" : Str)) = true
  d_11_body : P.flds.contains (11, ("body" : Str)) = true
  d_10_procedures : P.flds.contains (10, ("procedures" : Str)) = true
end Pc

set_option maxRecDepth 100000
set_option maxHeartbeats 4000000
namespace Ch
open PySem L2 VL

def b_statements_in_1 : Ss := (.cons (.app 1 (.var 2)) (.cons (.ite (.cmp .Eq (.sub (.var 2) (.cint 0)) (.cstr "if")) (.cons (.ext 1 (.call 262 (.cons (.sub (.var 2) (.cint 3)) .nil))) (.cons (.ext 1 (.call 262 (.cons (.sub (.var 2) (.cint 4)) .nil))) .nil)) (.cons (.ite (.cmp .Eq (.sub (.var 2) (.cint 0)) (.cstr "while")) (.cons (.ext 1 (.call 262 (.cons (.sub (.var 2) (.cint 5)) .nil))) .nil) .nil) .nil)) .nil))
def b_statements_in_2 : Ss := (.cons (.frz 1) (.cons (.ret (.var 1)) .nil))
def b_statements_in : Ss := (.cons (.asgO 1 (.lst .nil)) (.cons (.for (.nm 2) (.seq (.var 0)) b_statements_in_1) b_statements_in_2))
def b_statements_of : Ss := (.cons (.ret (.call 262 (.cons (.attr (.var 0) "body") .nil))) .nil)
def b_handed_lists_1 : Ss := (.cons (.ite (.tru (.sub (.var 6) (.cint 1))) (.cons (.app 3 (.tup (.cons (.sub (.var 7) (.cint 1)) (.cons (.var 5) (.cons (.sub (.var 6) (.cint 0)) .nil))))) .nil) .nil) .nil)
def b_handed_lists_2 : Ss := (.cons (.ite (.cmp .Eq (.sub (.var 4) (.cint 0)) (.cstr "call")) (.cons (.asg (.nm 5) (.mcall (.var 0) "called" (.cons (.sub (.var 4) (.cint 3)) .nil))) (.cons (.for (.tup [6, 7]) (.zip (.attr (.var 5) "parameters") (.sub (.var 4) (.cint 4))) b_handed_lists_1) .nil)) .nil) .nil)
def b_handed_lists_3 : Ss := (.cons (.frz 3) (.cons (.ret (.var 3)) .nil))
def b_handed_lists : Ss := (.cons (.asgO 3 (.lst .nil)) (.cons (.for (.nm 4) (.seq (.call 262 (.cons (.var 2) .nil))) b_handed_lists_2) b_handed_lists_3))
def b_changed_in_1 : Ss := (.cons (.ite (.cmp .In (.sub (.var 4) (.cint 0)) (.tup (.cons (.cstr "put") (.cons (.cstr "swap") .nil)))) (.cons (.put 3 (.sub (.var 4) (.cint 2)) (.cbl true)) .nil) .nil) .nil)
def b_changed_in_2 : Ss := (.cons (.ite (.and (.cmp .NotEq (.attr (.var 6) "name") (.attr (.var 1) "name")) (.cmp .In (.var 7) (.call 267 (.cons (.var 0) (.cons (.var 6) .nil))))) (.cons (.put 3 (.var 5) (.cbl true)) .nil) .nil) .nil)
def b_changed_in_3 : Ss := (.cons (.ite (.and (.cmp .Eq (.attr (.var 6) "name") (.attr (.var 1) "name")) (.cmp .In (.var 7) (.var 8))) (.cons (.put 3 (.var 5) (.cbl true)) .nil) .nil) .nil)
def b_changed_in_4 : Ss := (.cons (.ret (.new (.comp (.var 5) (.nm 5) (.seq (.prop (.var 1) "list_names")) (.so (.cmp .In (.var 5) (.vw 3))) [5]))) .nil)
def b_changed_in_5 : Ss := (.cons (.asg (.nm 8) (.call 266 (.cons (.var 0) (.cons (.var 1) .nil)))) (.cons (.for (.tup [5, 6, 7]) (.seq (.call 264 (.cons (.var 0) (.cons (.var 1) (.cons (.var 2) .nil))))) b_changed_in_3) b_changed_in_4))
def b_changed_in_6 : Ss := (.cons (.for (.tup [5, 6, 7]) (.seq (.call 264 (.cons (.var 0) (.cons (.var 1) (.cons (.var 2) .nil))))) b_changed_in_2) b_changed_in_5)
def b_changed_in : Ss := (.cons (.asgO 3 .dct0) (.cons (.for (.nm 4) (.seq (.call 262 (.cons (.var 2) .nil))) b_changed_in_1) b_changed_in_6))
def b_changed_names_1 : Ss := (.cons (.ite (.cmp .In (.sub (.var 3) (.cint 0)) (.tup (.cons (.cstr "put") (.cons (.cstr "swap") .nil)))) (.cons (.put 2 (.sub (.var 3) (.cint 2)) (.cbl true)) .nil) .nil) .nil)
def b_changed_names_2 : Ss := (.cons (.ite (.and (.cmp .NotEq (.attr (.var 6) "name") (.attr (.var 1) "name")) (.cmp .In (.var 7) (.call 267 (.cons (.var 0) (.cons (.var 6) .nil))))) (.cons (.put 2 (.var 5) (.cbl true)) .nil) .nil) .nil)
def b_changed_names_3 : Ss := (.cons (.ite (.and (.cmp .Eq (.attr (.var 6) "name") (.attr (.var 1) "name")) (.cmp .In (.var 7) (.vw 2))) (.cons (.put 2 (.var 5) (.cbl true)) .nil) .nil) .nil)
def b_changed_names_4 : Ss := (.cons (.for (.tup [5, 6, 7]) (.seq (.var 4)) b_changed_names_3) .nil)
def b_changed_names_5 : Ss := (.cons (.frz 2) (.cons (.ret (.var 2)) .nil))
def b_changed_names_6 : Ss := (.cons (.for (.nm 8) (.seq (.prop (.var 1) "list_names")) b_changed_names_4) b_changed_names_5)
def b_changed_names_7 : Ss := (.cons (.asg (.nm 4) (.call 264 (.cons (.var 0) (.cons (.var 1) (.cons (.attr (.var 1) "body") .nil))))) (.cons (.for (.tup [5, 6, 7]) (.seq (.var 4)) b_changed_names_2) b_changed_names_6))
def b_changed_names : Ss := (.cons (.asgO 2 .dct0) (.cons (.for (.nm 3) (.seq (.call 263 (.cons (.var 1) .nil))) b_changed_names_1) b_changed_names_7))
def b_changed_lists : Ss := (.cons (.asg (.nm 2) (.call 266 (.cons (.var 0) (.cons (.var 1) .nil)))) (.cons (.ret (.new (.comp (.var 3) (.nm 3) (.seq (.prop (.var 1) "list_names")) (.so (.cmp .In (.var 3) (.var 2))) [3]))) .nil))
class U (P : Prg) : Prop where
  f_statements_in : P.fns.lookup 262 = some ⟨1, 3, b_statements_in⟩
  f_statements_of : P.fns.lookup 263 = some ⟨1, 1, b_statements_of⟩
  f_handed_lists : P.fns.lookup 264 = some ⟨3, 8, b_handed_lists⟩
  f_changed_in : P.fns.lookup 265 = some ⟨3, 9, b_changed_in⟩
  f_changed_names : P.fns.lookup 266 = some ⟨2, 9, b_changed_names⟩
  f_changed_lists : P.fns.lookup 267 = some ⟨2, 4, b_changed_lists⟩
end Ch

set_option maxRecDepth 100000
set_option maxHeartbeats 4000000
namespace Ga
open PySem L2 VL

def b_law_gen_plain_1 : Ss := (.cons (.ret (.tup (.cons (.cstr "var") (.cons (.sub (.var 3) (.call 20 (.cons (.var 0) (.cons (.blt .len (.cons (.var 3) .nil)) .nil)))) (.cons (.sub (.fz (.lst (.cons (.cint 0) (.cons (.cint 0) (.cons (.cint 1) (.cons (.neg (.cint 1)) .nil)))))) (.call 20 (.cons (.var 0) (.cons (.cint 4) .nil)))) .nil))))) .nil)
def b_law_gen_plain_2 : Ss := (.cons (.ite (.cmp .Eq (.blt .len (.cons (.var 3) .nil)) (.cint 0)) (.cons (.ret (.tup (.cons (.cstr "num") (.cons (.cint 0) .nil)))) .nil) .nil) b_law_gen_plain_1)
def b_law_gen_plain_3 : Ss := (.cons (.ite (.cmp .Eq (.var 4) (.cint 2)) (.cons (.ret (.tup (.cons (.cstr "len") (.cons (.sub (.var 2) (.call 20 (.cons (.var 0) (.cons (.blt .len (.cons (.var 2) .nil)) .nil)))) (.cons (.bin .Sub (.call 20 (.cons (.var 0) (.cons (.cint 3) .nil))) (.cint 2)) .nil))))) .nil) .nil) b_law_gen_plain_2)
def b_law_gen_plain : Ss := (.cons (.par 2 3 (.sub (.var 1) (.cint 0)) (.sub (.var 1) (.cint 1))) (.cons (.asg (.nm 4) (.call 20 (.cons (.var 0) (.cons (.cint 6) .nil)))) (.cons (.ite (.or (.cmp .Lt (.var 4) (.cint 2)) (.and (.cmp .Eq (.var 4) (.cint 2)) (.cmp .Eq (.blt .len (.cons (.var 2) .nil)) (.cint 0)))) (.cons (.ret (.tup (.cons (.cstr "num") (.cons (.sub (.fz (.lst (.cons (.bin .Sub (.call 20 (.cons (.var 0) (.cons (.cint 7) .nil))) (.cint 2)) (.cons (.bin .Sub (.call 20 (.cons (.var 0) (.cons (.cint 199) .nil))) (.cint 99)) .nil)))) (.bin .FloorDiv (.call 20 (.cons (.var 0) (.cons (.cint 5) .nil))) (.cint 4))) .nil)))) .nil) .nil) b_law_gen_plain_3)))
def b_law_gen_index_1 : Ss := (.cons (.ret (.call 268 (.cons (.var 0) (.cons (.var 1) .nil)))) .nil)
def b_law_gen_index_2 : Ss := (.cons (.ite (.cmp .Lt (.var 3) (.cint 7)) (.cons (.ret (.tup (.cons (.cstr "var") (.cons (.sub (.sub (.var 1) (.cint 3)) (.call 20 (.cons (.var 0) (.cons (.cint 2) .nil)))) (.cons (.cint 0) .nil))))) .nil) .nil) b_law_gen_index_1)
def b_law_gen_index_3 : Ss := (.cons (.ite (.cmp .Lt (.var 3) (.cint 5)) (.cons (.ret (.tup (.cons (.cstr "len") (.cons (.var 2) (.cons (.bin .Sub (.neg (.cint 1)) (.call 20 (.cons (.var 0) (.cons (.cint 2) .nil)))) .nil))))) .nil) .nil) b_law_gen_index_2)
def b_law_gen_index : Ss := (.cons (.asg (.nm 3) (.call 20 (.cons (.var 0) (.cons (.cint 8) .nil)))) (.cons (.ite (.cmp .Lt (.var 3) (.cint 3)) (.cons (.ret (.tup (.cons (.cstr "num") (.cons (.call 20 (.cons (.var 0) (.cons (.cint 3) .nil))) .nil)))) .nil) .nil) b_law_gen_index_3))
def b_law_gen_term_1 : Ss := (.cons (.ret (.tup (.cons (.cstr "cell") (.cons (.tup (.cons (.var 2) (.cons (.cbl false) .nil))) (.cons (.var 3) (.cons (.sub (.fz (.lst (.cons (.cint 0) (.cons (.cint 0) (.cons (.cint 1) (.cons (.neg (.cint 2)) .nil)))))) (.call 20 (.cons (.var 0) (.cons (.cint 4) .nil)))) .nil)))))) .nil)
def b_law_gen_term_2 : Ss := (.cons (.asg (.nm 2) (.sub (.sub (.var 1) (.cint 0)) (.call 20 (.cons (.var 0) (.cons (.blt .len (.cons (.sub (.var 1) (.cint 0)) .nil)) .nil))))) (.cons (.asg (.nm 3) (.tup (.cons (.cstr "num") (.cons (.call 20 (.cons (.var 0) (.cons (.cint 2) .nil))) .nil)))) (.cons (.ite (.tru (.sub (.var 1) (.cint 6))) (.cons (.asg (.nm 3) (.call 269 (.cons (.var 0) (.cons (.var 1) (.cons (.var 2) .nil))))) .nil) .nil) b_law_gen_term_1)))
def b_law_gen_term : Ss := (.cons (.ite (.or (.cmp .Eq (.blt .len (.cons (.sub (.var 1) (.cint 0)) .nil)) (.cint 0)) (.cmp .Gt (.call 20 (.cons (.var 0) (.cons (.cint 3) .nil))) (.cint 0))) (.cons (.ret (.call 268 (.cons (.var 0) (.cons (.var 1) .nil)))) .nil) .nil) b_law_gen_term_2)
def b_law_gen_cmp : Ss := (.cons (.asg (.nm 2) (.sub (.fz (.lst (.cons (.cstr "<") (.cons (.cstr "<=") (.cons (.cstr ">") (.cons (.cstr ">=") (.cons (.cstr "==") (.cons (.cstr "!=") .nil)))))))) (.call 20 (.cons (.var 0) (.cons (.cint 6) .nil))))) (.cons (.ret (.tup (.cons (.cstr "cmp") (.cons (.var 2) (.cons (.call 270 (.cons (.var 0) (.cons (.var 1) .nil))) (.cons (.call 270 (.cons (.var 0) (.cons (.var 1) .nil))) .nil)))))) .nil))
def b_law_gen_condition_1 : Ss := (.cons (.asg (.nm 5) (.call 271 (.cons (.var 0) (.cons (.var 1) .nil)))) (.cons (.asg (.nm 6) (.fz (.lst (.cons (.tup (.cons (.cstr "or") (.cons (.tup (.cons (.tup (.cons (.cstr "and") (.cons (.tup (.cons (.var 3) (.cons (.tup (.cons (.cstr "not") (.cons (.var 4) .nil))) .nil))) .nil))) (.cons (.var 5) .nil))) .nil))) (.cons (.tup (.cons (.cstr "and") (.cons (.tup (.cons (.tup (.cons (.cstr "or") (.cons (.tup (.cons (.var 3) (.cons (.var 4) .nil))) .nil))) (.cons (.var 5) .nil))) .nil))) .nil))))) (.cons (.asg (.nm 6) (.fz (.cat (.var 6) (.fz (.lst (.cons (.tup (.cons (.sub (.fz (.lst (.cons (.cstr "and") (.cons (.cstr "or") .nil)))) (.call 20 (.cons (.var 0) (.cons (.cint 2) .nil)))) (.cons (.tup (.cons (.var 3) (.cons (.var 4) (.cons (.var 5) .nil)))) .nil))) (.cons (.tup (.cons (.cstr "and") (.cons (.tup (.cons (.var 3) (.cons (.tup (.cons (.cstr "or") (.cons (.tup (.cons (.var 4) (.cons (.var 5) .nil))) .nil))) .nil))) .nil))) .nil))))))) (.cons (.ret (.fz (.lst (.cons (.cint 3) (.cons (.sub (.var 6) (.call 20 (.cons (.var 0) (.cons (.cint 4) .nil)))) .nil))))) .nil))))
def b_law_gen_condition_2 : Ss := (.cons (.ite (.cmp .Eq (.var 2) (.cint 7)) (.cons (.ret (.fz (.lst (.cons (.cint 2) (.cons (.tup (.cons (.cstr "not") (.cons (.tup (.cons (.sub (.fz (.lst (.cons (.cstr "and") (.cons (.cstr "or") .nil)))) (.call 20 (.cons (.var 0) (.cons (.cint 2) .nil)))) (.cons (.tup (.cons (.var 3) (.cons (.var 4) .nil))) .nil))) .nil))) .nil))))) .nil) .nil) b_law_gen_condition_1)
def b_law_gen_condition_3 : Ss := (.cons (.asg (.nm 4) (.call 271 (.cons (.var 0) (.cons (.var 1) .nil)))) (.cons (.ite (.cmp .Lt (.var 2) (.cint 7)) (.cons (.ret (.fz (.lst (.cons (.cint 2) (.cons (.tup (.cons (.sub (.fz (.lst (.cons (.cstr "and") (.cons (.cstr "or") .nil)))) (.bin .Sub (.var 2) (.cint 5))) (.cons (.tup (.cons (.var 3) (.cons (.var 4) .nil))) .nil))) .nil))))) .nil) .nil) b_law_gen_condition_2))
def b_law_gen_condition_4 : Ss := (.cons (.ite (.cmp .Eq (.var 2) (.cint 4)) (.cons (.ret (.fz (.lst (.cons (.cint 1) (.cons (.tup (.cons (.cstr "not") (.cons (.var 3) .nil))) .nil))))) .nil) .nil) b_law_gen_condition_3)
def b_law_gen_condition : Ss := (.cons (.asg (.nm 2) (.call 20 (.cons (.var 0) (.cons (.cint 11) .nil)))) (.cons (.asg (.nm 3) (.call 271 (.cons (.var 0) (.cons (.var 1) .nil)))) (.cons (.ite (.cmp .Lt (.var 2) (.cint 4)) (.cons (.ret (.fz (.lst (.cons (.cint 1) (.cons (.var 3) .nil))))) .nil) .nil) b_law_gen_condition_4)))
def b_law_gen_call_1 : Ss := (.cons (.asg (.nm 10) (.sub (.var 9) (.call 20 (.cons (.var 0) (.cons (.blt .len (.cons (.var 9) .nil)) .nil))))) (.cons (.rem 5 (.var 10)) (.cons (.app 6 (.tup (.cons (.cstr "list") (.cons (.var 10) .nil)))) .nil)))
def b_law_gen_call_2 : Ss := (.cons (.asg (.nm 9) (.fz (.comp (.var 11) (.nm 11) (.own 5) (.so (.or (.cmp .In (.var 7) (.var 4)) (.cmp .NotIn (.var 11) (.sub (.var 1) (.cint 4))))) [11]))) (.cons (.ite (.cmp .Eq (.blt .len (.cons (.var 9) .nil)) (.cint 0)) (.cons (.ret (.tup (.cons (.cstr "skip") (.cons (.cint 0) .nil)))) .nil) .nil) b_law_gen_call_1))
def b_law_gen_call_3 : Ss := (.cons (.ite (.not (.tru (.var 8))) (.cons (.app 6 (.call 268 (.cons (.var 0) (.cons (.var 1) .nil)))) (.cons .cont .nil)) .nil) b_law_gen_call_2)
def b_law_gen_call_4 : Ss := (.cons (.ret (.tup (.cons (.cstr "call") (.cons (.cint 0) (.cons (.sub (.sub (.var 1) (.cint 3)) (.call 20 (.cons (.var 0) (.cons (.cint 2) .nil)))) (.cons (.var 2) (.cons (.blt .tuple (.cons (.vw 6) .nil)) .nil))))))) .nil)
def b_law_gen_call : Ss := (.cons (.asg (.tup [2, 3, 4]) (.sub (.sub (.var 1) (.cint 2)) (.call 20 (.cons (.var 0) (.cons (.blt .len (.cons (.sub (.var 1) (.cint 2)) .nil)) .nil))))) (.cons (.asgO 5 (.listOf (.sub (.var 1) (.cint 0)))) (.cons (.asgO 6 (.lst .nil)) (.cons (.for (.tup [7, 8]) (.seq (.var 3)) b_law_gen_call_3) b_law_gen_call_4))))
def b_law_gen_simple_1 : Ss := (.cons (.ret (.tup (.cons (.cstr "put") (.cons (.cint 0) (.cons (.var 3) (.cons (.call 269 (.cons (.var 0) (.cons (.var 1) (.cons (.var 3) .nil)))) (.cons (.call 270 (.cons (.var 0) (.cons (.var 1) .nil))) .nil))))))) .nil)
def b_law_gen_simple_2 : Ss := (.cons (.ret (.tup (.cons (.cstr "set") (.cons (.cint 0) (.cons (.sub (.sub (.var 1) (.cint 3)) (.call 20 (.cons (.var 0) (.cons (.cint 2) .nil)))) (.cons (.call 270 (.cons (.var 0) (.cons (.var 1) .nil))) .nil)))))) .nil)
def b_law_gen_simple_3 : Ss := (.cons (.ite (.cmp .Eq (.var 2) (.cint 6)) (.cons (.ret (.tup (.cons (.cstr "skip") (.cons (.cint 0) .nil)))) .nil) .nil) b_law_gen_simple_2)
def b_law_gen_simple_4 : Ss := (.cons (.ite (.cmp .Eq (.var 2) (.cint 5)) (.cons (.asg (.nm 4) (.sub (.fz (.lst (.cons (.tup (.cons (.cstr "num") (.cons (.bin .Sub (.call 20 (.cons (.var 0) (.cons (.cint 3) .nil))) (.cint 1)) .nil))) (.cons (.call 268 (.cons (.var 0) (.cons (.var 1) .nil))) .nil)))) (.bin .FloorDiv (.call 20 (.cons (.var 0) (.cons (.cint 4) .nil))) (.cint 3)))) (.cons (.asg (.nm 5) (.sub (.fz (.lst (.cons (.tup (.cons (.cstr "num") (.cons (.bin .Add (.cint 2) (.call 20 (.cons (.var 0) (.cons (.cint 4) .nil)))) .nil))) (.cons (.call 268 (.cons (.var 0) (.cons (.var 1) .nil))) .nil)))) (.bin .FloorDiv (.call 20 (.cons (.var 0) (.cons (.cint 4) .nil))) (.cint 3)))) (.cons (.ret (.tup (.cons (.cstr "choose") (.cons (.cint 0) (.cons (.sub (.sub (.var 1) (.cint 3)) (.call 20 (.cons (.var 0) (.cons (.cint 2) .nil)))) (.cons (.var 4) (.cons (.var 5) .nil))))))) .nil))) .nil) b_law_gen_simple_3)
def b_law_gen_simple_5 : Ss := (.cons (.ite (.and (.cmp .Lt (.var 2) (.cint 5)) (.cmp .Gt (.blt .len (.cons (.sub (.var 1) (.cint 0)) .nil)) (.cint 0))) (.cons (.asg (.nm 3) (.sub (.sub (.var 1) (.cint 0)) (.call 20 (.cons (.var 0) (.cons (.blt .len (.cons (.sub (.var 1) (.cint 0)) .nil)) .nil))))) (.cons (.ite (.or (.cmp .Eq (.var 2) (.cint 2)) (.cmp .In (.var 3) (.sub (.var 1) (.cint 4)))) (.cons (.ret (.tup (.cons (.cstr "swap") (.cons (.cint 0) (.cons (.var 3) (.cons (.call 269 (.cons (.var 0) (.cons (.var 1) (.cons (.var 3) .nil)))) (.cons (.call 269 (.cons (.var 0) (.cons (.var 1) (.cons (.var 3) .nil)))) .nil))))))) .nil) .nil) b_law_gen_simple_1)) .nil) b_law_gen_simple_4)
def b_law_gen_simple : Ss := (.cons (.asg (.nm 2) (.call 20 (.cons (.var 0) (.cons (.cint 9) .nil)))) (.cons (.ite (.and (.cmp .Lt (.var 2) (.cint 2)) (.cmp .Gt (.blt .len (.cons (.sub (.var 1) (.cint 2)) .nil)) (.cint 0))) (.cons (.ret (.call 273 (.cons (.var 0) (.cons (.var 1) .nil)))) .nil) .nil) b_law_gen_simple_5))
def b_law_gen_block_1 : Ss := (.cons (.asg (.nm 21) (.bin .Mult (.tup (.cons (.tup (.cons (.cstr "cmp") (.cons (.cstr ">") (.cons (.tup (.cons (.cstr "num") (.cons (.cint 0) .nil))) (.cons (.tup (.cons (.cstr "num") (.cons (.cint 1) .nil))) .nil))))) .nil)) (.blt .int (.cons (.and (.cmp .Eq (.call 20 (.cons (.var 0) (.cons (.cint 4) .nil))) (.cint 3)) (.cmp .Gt (.sub (.sub (.var 1) (.cint 5)) (.cint 0)) (.cint 0))) .nil)))) (.cons (.putE (.sub (.var 1) (.cint 5)) (.cint 0) (.bin .Sub (.sub (.sub (.var 1) (.cint 5)) (.cint 0)) (.blt .len (.cons (.var 21) .nil)))) (.cons (.asg (.nm 12) (.tup (.cons (.cstr "while") (.cons (.cint 0) (.cons (.var 11) (.cons (.var 21) (.cons (.var 18) (.cons (.var 19) .nil)))))))) .nil)))
def b_law_gen_block_2 : Ss := (.cons (.asg (.nm 5) (.bin .FloorDiv (.var 5) (.var 13))) (.cons (.asg (.nm 7) (.bin .Mult (.var 7) (.var 13))) (.cons (.app 6 (.var 12)) .nil)))
def b_law_gen_block_3 : Ss := (.cons (.ite (.and (.cmp .Eq (.var 9) (.cint 3)) (.and (.tru (.var 14)) (.cmp .Gt (.var 3) (.cint 0)))) (.cons (.putE (.sub (.var 1) (.cint 5)) (.cint 0) (.bin .Sub (.sub (.sub (.var 1) (.cint 5)) (.cint 0)) (.cint 2))) (.cons (.asg (.nm 17) (.call 275 (.cons (.var 0) (.cons (.var 1) (.cons (.bin .Sub (.var 2) (.cint 1)) (.cons (.bin .Sub (.var 3) (.cint 1)) (.cons (.bin .Add (.cint 1) (.call 20 (.cons (.var 0) (.cons (.cint 2) .nil)))) (.cons (.bin .FloorDiv (.var 5) (.bin .Mult (.cint 2) (.var 10))) .nil)))))))) (.cons (.asg (.nm 13) (.bin .Mult (.var 10) (.bin .Add (.sub (.var 17) (.cint 0)) (.cint 1)))) (.cons (.asg (.nm 18) (.tup (.cons (.call 268 (.cons (.var 0) (.cons (.var 1) .nil))) (.cons (.call 268 (.cons (.var 0) (.cons (.var 1) .nil))) .nil)))) (.cons (.asg (.nm 19) (.sub (.var 17) (.cint 1))) (.cons (.ite (.and (.cmp .Gt (.call 20 (.cons (.var 0) (.cons (.cint 3) .nil))) (.cint 0)) (.cmp .Gt (.sub (.sub (.var 1) (.cint 5)) (.cint 0)) (.cint 0))) (.cons (.putE (.sub (.var 1) (.cint 5)) (.cint 0) (.bin .Sub (.sub (.sub (.var 1) (.cint 5)) (.cint 0)) (.cint 1))) (.cons (.asg (.nm 20) (.sub (.sub (.var 1) (.cint 3)) (.call 20 (.cons (.var 0) (.cons (.cint 2) .nil))))) (.cons (.asg (.nm 13) (.bin .Add (.sub (.var 17) (.cint 0)) (.cint 1))) (.cons (.asg (.nm 11) (.tup (.cons (.cstr "cmp") (.cons (.cstr "<") (.cons (.tup (.cons (.cstr "var") (.cons (.var 20) (.cons (.cint 0) .nil)))) (.cons (.call 268 (.cons (.var 0) (.cons (.var 1) .nil))) .nil)))))) (.cons (.asg (.nm 19) (.bin .Add (.var 19) (.tup (.cons (.tup (.cons (.cstr "set") (.cons (.cint 0) (.cons (.var 20) (.cons (.tup (.cons (.cstr "var") (.cons (.var 20) (.cons (.cint 1) .nil)))) .nil))))) .nil)))) .nil))))) .nil) b_law_gen_block_1)))))) .nil) b_law_gen_block_2)
def b_law_gen_block_4 : Ss := (.cons (.ite (.and (.cmp .In (.var 9) (.fz (.lst (.cons (.cint 1) (.cons (.cint 2) .nil))))) (.tru (.var 14))) (.cons (.putE (.sub (.var 1) (.cint 5)) (.cint 0) (.bin .Sub (.sub (.sub (.var 1) (.cint 5)) (.cint 0)) (.cint 2))) (.cons (.asg (.nm 15) (.call 275 (.cons (.var 0) (.cons (.var 1) (.cons (.bin .Sub (.var 2) (.cint 1)) (.cons (.var 3) (.cons (.call 20 (.cons (.var 0) (.cons (.cint 3) .nil))) (.cons (.bin .FloorDiv (.var 5) (.bin .Mult (.cint 2) (.var 10))) .nil)))))))) (.cons (.asg (.nm 16) (.call 275 (.cons (.var 0) (.cons (.var 1) (.cons (.bin .Sub (.var 2) (.cint 1)) (.cons (.var 3) (.cons (.call 20 (.cons (.var 0) (.cons (.cint 2) .nil))) (.cons (.bin .FloorDiv (.var 5) (.bin .Mult (.cint 2) (.var 10))) .nil)))))))) (.cons (.asg (.nm 13) (.bin .Mult (.var 10) (.bin .Add (.sub (.var 15) (.cint 0)) (.sub (.var 16) (.cint 0))))) (.cons (.asg (.nm 12) (.tup (.cons (.cstr "if") (.cons (.cint 0) (.cons (.var 11) (.cons (.sub (.var 15) (.cint 1)) (.cons (.sub (.var 16) (.cint 1)) .nil))))))) .nil))))) .nil) b_law_gen_block_3)
def b_law_gen_block_5 : Ss := (.cons (.asg (.nm 9) (.call 20 (.cons (.var 0) (.cons (.cint 7) .nil)))) (.cons (.asg (.tup [10, 11]) (.call 272 (.cons (.var 0) (.cons (.var 1) .nil)))) (.cons (.asg (.nm 12) (.call 274 (.cons (.var 0) (.cons (.var 1) .nil)))) (.cons (.asg (.nm 13) (.cint 1)) (.cons (.putE (.sub (.var 1) (.cint 5)) (.cint 0) (.bin .Sub (.sub (.sub (.var 1) (.cint 5)) (.cint 0)) (.cint 1))) (.cons (.asg (.nm 14) (.and (.cmp .Gt (.var 2) (.cint 0)) (.and (.cmp .LtE (.bin .Mult (.cint 2) (.var 10)) (.var 5)) (.cmp .GtE (.sub (.sub (.var 1) (.cint 5)) (.cint 0)) (.cint 5))))) (.cons (.ite (.and (.cmp .Eq (.var 9) (.cint 0)) (.cmp .LtE (.var 10) (.var 5))) (.cons (.asg (.nm 13) (.var 10)) (.cons (.asg (.nm 12) (.tup (.cons (.cstr "check") (.cons (.cint 0) (.cons (.var 11) .nil))))) .nil)) .nil) b_law_gen_block_4)))))))
def b_law_gen_block_6 : Ss := (.cons (.ite (.cmp .LtE (.sub (.sub (.var 1) (.cint 5)) (.cint 0)) (.cint 0)) (.cons .brk .nil) .nil) b_law_gen_block_5)
def b_law_gen_block_7 : Ss := (.cons (.ret (.fz (.lst (.cons (.var 7) (.cons (.blt .tuple (.cons (.vw 6) .nil)) .nil))))) .nil)
def b_law_gen_block : Ss := (.cons (.asgO 6 (.lst .nil)) (.cons (.asg (.nm 7) (.cint 1)) (.cons (.for (.nm 8) (.rng1 (.var 4)) b_law_gen_block_6) b_law_gen_block_7)))
def b_law_gen_1 : Ss := (.cons (.app 3 (.tup (.cons (.sub (.var 1) (.bin .Sub (.cint 15) (.var 6))) (.cons (.blt .tuple (.cons (.var 9) .nil)) (.cons (.var 15) (.cons (.var 16) (.cons (.var 10) (.cons (.var 12) (.cons (.var 13) (.cons (.bin .Add (.var 17) (.tup (.cons (.var 18) .nil))) .nil)))))))))) (.cons (.app 4 (.tup (.cons (.sub (.var 1) (.bin .Sub (.cint 15) (.var 6))) (.cons (.blt .tuple (.cons (.var 9) .nil)) (.cons (.var 10) .nil))))) .nil))
def b_law_gen_2 : Ss := (.cons (.asg (.nm 13) (.tup (.cons (.tup (.cons (.cint 0) (.cons (.sub (.var 1) (.cint 5)) (.cons (.call 270 (.cons (.var 0) (.cons (.var 11) .nil))) .nil)))) .nil))) (.cons (.putE (.var 11) (.cint 1) (.fz (.cat (.var 8) (.fz (.lst (.cons (.sub (.var 1) (.cint 5)) (.cons (.sub (.var 1) (.cint 5)) .nil))))))) (.cons (.asg (.nm 13) (.bin .Add (.var 13) (.tup (.cons (.tup (.cons (.cint 0) (.cons (.sub (.var 1) (.cint 6)) (.cons (.sub (.fz (.lst (.cons (.call 270 (.cons (.var 0) (.cons (.var 11) .nil))) (.cons (.tup (.cons (.cstr "var") (.cons (.sub (.var 1) (.cint 5)) (.cons (.cint 1) .nil)))) .nil)))) (.bin .FloorDiv (.call 20 (.cons (.var 0) (.cons (.cint 3) .nil))) (.cint 2))) .nil)))) .nil)))) (.cons (.putE (.var 11) (.cint 1) (.fz (.cat (.var 8) (.fz (.lst (.cons (.sub (.var 1) (.cint 5)) (.cons (.sub (.var 1) (.cint 6)) .nil))))))) (.cons (.putE (.var 11) (.cint 6) (.cbl true)) (.cons (.asg (.nm 14) (.tup (.cons (.cstr "cmp") (.cons (.cstr "<") (.cons (.tup (.cons (.cstr "num") (.cons (.cint 1) .nil))) (.cons (.tup (.cons (.cstr "num") (.cons (.cint 0) .nil))) .nil)))))) (.cons (.asg (.nm 15) (.bin .Mult (.tup (.cons (.var 14) .nil)) (.bin .FloorDiv (.call 20 (.cons (.var 0) (.cons (.cint 4) .nil))) (.cint 3)))) (.cons (.asg (.nm 16) (.bin .Mult (.tup (.cons (.var 14) .nil)) (.bin .FloorDiv (.call 20 (.cons (.var 0) (.cons (.cint 4) .nil))) (.cint 3)))) (.cons (.asg (.nm 17) (.sub (.call 275 (.cons (.var 0) (.cons (.var 11) (.cons (.cint 4) (.cons (.cint 2) (.cons (.bin .Add (.cint 1) (.call 20 (.cons (.var 0) (.cons (.cint 5) .nil)))) (.cons (.cint 32) .nil))))))) (.cint 1))) (.cons (.asg (.nm 18) (.tup (.cons (.cstr "return") (.cons (.cint 0) (.cons (.call 270 (.cons (.var 0) (.cons (.var 11) .nil))) .nil))))) (.cons (.ite (.cmp .Eq (.call 20 (.cons (.var 0) (.cons (.cint 3) .nil))) (.cint 0)) (.cons (.asg (.nm 18) (.tup (.cons (.cstr "if") (.cons (.cint 0) (.cons (.call 271 (.cons (.var 0) (.cons (.var 11) .nil))) (.cons (.tup (.cons (.var 18) .nil)) (.cons (.tup (.cons (.tup (.cons (.cstr "skip") (.cons (.cint 0) .nil))) (.cons (.tup (.cons (.cstr "return") (.cons (.cint 0) (.cons (.call 270 (.cons (.var 0) (.cons (.var 11) .nil))) .nil)))) .nil))) .nil))))))) .nil) .nil) b_law_gen_1)))))))))))
def b_law_gen_3 : Ss := (.cons (.asg (.nm 10) (.blt .tuple (.cons (.fz (.slice (.var 7) .no (.so (.var 2)))) .nil))) (.cons (.asg (.nm 11) (.new (.lst (.cons (.var 7) (.cons (.var 8) (.cons (.new (.listOf (.vw 4))) (.cons (.fz (.lst (.cons (.sub (.var 1) (.cint 5)) (.cons (.sub (.var 1) (.cint 6)) .nil)))) (.cons (.fz (.slice (.var 7) .no (.so (.var 2)))) (.cons (.var 5) (.cons (.cbl false) .nil)))))))))) (.cons (.asg (.nm 12) .cnon) (.cons (.ite (.cmp .Eq (.call 20 (.cons (.var 0) (.cons (.cint 2) .nil))) (.cint 0)) (.cons (.asg (.nm 12) (.tup (.cons (.call 268 (.cons (.var 0) (.cons (.var 11) .nil))) (.cons (.call 268 (.cons (.var 0) (.cons (.var 11) .nil))) .nil)))) (.cons (.appE (.sub (.var 11) (.cint 2)) (.tup (.cons (.sub (.var 1) (.bin .Sub (.cint 15) (.var 6))) (.cons (.blt .tuple (.cons (.var 9) .nil)) (.cons (.var 10) .nil))))) .nil)) .nil) b_law_gen_2))))
def b_law_gen_4 : Ss := (.cons (.asg (.nm 7) (.fz (.slice (.var 1) .no (.so (.call 20 (.cons (.var 0) (.cons (.cint 4) .nil))))))) (.cons (.asg (.nm 8) (.fz (.slice (.var 1) (.so (.cint 3)) (.so (.bin .Add (.cint 3) (.call 20 (.cons (.var 0) (.cons (.cint 3) .nil)))))))) (.cons (.asg (.nm 9) (.fz (.cat (.fz (.comp (.tup (.cons (.var 19) (.cons (.cbl true) .nil))) (.nm 19) (.seq (.var 7)) .no [19])) (.fz (.comp (.tup (.cons (.var 19) (.cons (.cbl false) .nil))) (.nm 19) (.seq (.var 8)) .no [19]))))) (.cons (.ite (.cmp .Eq (.call 20 (.cons (.var 0) (.cons (.cint 2) .nil))) (.cint 0)) (.cons (.asg (.nm 9) (.fz (.rev (.var 9)))) .nil) .nil) b_law_gen_3))))
def b_law_gen_5 : Ss := (.cons (.frz 3) (.cons (.ret (.var 3)) .nil))
def b_law_gen : Ss := (.cons (.asgO 3 (.lst .nil)) (.cons (.asgO 4 (.lst .nil)) (.cons (.asg (.nm 5) (.new (.lst (.cons (.bin .Sub (.cint 13) (.bin .Mult (.cint 2) (.blt .int (.cons (.cmp .Gt (.var 2) (.cint 0)) .nil)))) .nil)))) (.cons (.for (.nm 6) (.rng1 (.bin .Add (.cint 1) (.call 20 (.cons (.var 0) (.cons (.cint 3) .nil))))) b_law_gen_4) b_law_gen_5))))
class U (P : Prg) : Prop where
  f__law_gen_plain : P.fns.lookup 268 = some ⟨2, 5, b_law_gen_plain⟩
  f__law_gen_index : P.fns.lookup 269 = some ⟨3, 4, b_law_gen_index⟩
  f__law_gen_term : P.fns.lookup 270 = some ⟨2, 4, b_law_gen_term⟩
  f__law_gen_cmp : P.fns.lookup 271 = some ⟨2, 3, b_law_gen_cmp⟩
  f__law_gen_condition : P.fns.lookup 272 = some ⟨2, 7, b_law_gen_condition⟩
  f__law_gen_call : P.fns.lookup 273 = some ⟨2, 12, b_law_gen_call⟩
  f__law_gen_simple : P.fns.lookup 274 = some ⟨2, 6, b_law_gen_simple⟩
  f__law_gen_block : P.fns.lookup 275 = some ⟨6, 22, b_law_gen_block⟩
  f__law_gen : P.fns.lookup 276 = some ⟨3, 20, b_law_gen⟩
end Ga

set_option maxRecDepth 100000
set_option maxHeartbeats 4000000
namespace Gb
open PySem L2 VL

def b_law_rows_1 : Ss := (.cons (.app 2 (.bin .Add (.tup (.cons (.sub (.var 3) (.cint 0)) (.cons (.var 4) .nil))) (.slice (.var 3) (.so (.cint 2)) .no))) .nil)
def b_law_rows_2 : Ss := (.cons (.asg (.nm 4) (.var 1)) (.cons (.asg (.nm 1) (.bin .Add (.var 1) (.cint 1))) (.cons (.ite (.cmp .Eq (.sub (.var 3) (.cint 0)) (.cstr "if")) (.cons (.asg (.tup [5, 1]) (.call 277 (.cons (.sub (.var 3) (.cint 3)) (.cons (.var 1) .nil)))) (.cons (.asg (.tup [6, 1]) (.call 277 (.cons (.sub (.var 3) (.cint 4)) (.cons (.bin .Add (.var 1) (.blt .int (.cons (.cmp .Gt (.blt .len (.cons (.sub (.var 3) (.cint 4)) .nil)) (.cint 0)) .nil))) .nil)))) (.cons (.asg (.nm 3) (.bin .Add (.slice (.var 3) .no (.so (.cint 3))) (.tup (.cons (.var 5) (.cons (.var 6) .nil))))) (.cons (.asg (.nm 1) (.bin .Add (.var 1) (.cint 1))) .nil)))) (.cons (.ite (.cmp .Eq (.sub (.var 3) (.cint 0)) (.cstr "while")) (.cons (.asg (.tup [7, 1]) (.call 277 (.cons (.sub (.var 3) (.cint 5)) (.cons (.bin .Add (.bin .Add (.var 1) (.blt .len (.cons (.sub (.var 3) (.cint 3)) .nil))) (.cint 1)) .nil)))) (.cons (.asg (.nm 3) (.bin .Add (.slice (.var 3) .no (.so (.cint 5))) (.tup (.cons (.var 7) .nil)))) (.cons (.asg (.nm 1) (.bin .Add (.var 1) (.cint 1))) .nil))) .nil) .nil)) b_law_rows_1)))
def b_law_rows_3 : Ss := (.cons (.ret (.tup (.cons (.blt .tuple (.cons (.vw 2) .nil)) (.cons (.var 1) .nil)))) .nil)
def b_law_rows : Ss := (.cons (.asgO 2 (.lst .nil)) (.cons (.for (.nm 3) (.seq (.var 0)) b_law_rows_2) b_law_rows_3))
def b_law_parts_1 : Ss := (.cons (.app 12 (.bin .Add (.tup (.cons (.var 2) .nil)) (.slice (.var 13) (.so (.cint 1)) .no))) (.cons (.asg (.nm 2) (.bin .Add (.var 2) (.cint 1))) .nil))
def b_law_parts_2 : Ss := (.cons (.asg (.tup [14, 2]) (.call 277 (.cons (.var 10) (.cons (.var 2) .nil)))) (.cons (.asg (.nm 2) (.bin .Add (.var 2) (.cint 1))) (.cons (.app 1 (.tup (.cons (.var 11) (.cons (.var 3) (.cons (.var 4) (.cons (.var 5) (.cons (.var 6) (.cons (.var 7) (.cons (.var 8) (.cons (.blt .tuple (.cons (.vw 12) .nil)) (.cons (.var 14) .nil))))))))))) .nil)))
def b_law_parts_3 : Ss := (.cons (.asg (.nm 11) (.var 2)) (.cons (.asg (.nm 2) (.bin .Add (.bin .Add (.bin .Add (.bin .Add (.bin .Add (.var 2) (.cint 1)) (.blt .len (.cons (.var 5) .nil))) (.blt .len (.cons (.var 6) .nil))) (.blt .len (.cons (.var 7) .nil))) (.blt .int (.cons (.cmp .IsNot (.var 8) .cnon) .nil)))) (.cons (.asgO 12 (.lst .nil)) (.cons (.for (.nm 13) (.seq (.var 9)) b_law_parts_1) b_law_parts_2))))
def b_law_parts_4 : Ss := (.cons (.frz 1) (.cons (.ret (.var 1)) .nil))
def b_law_parts : Ss := (.cons (.asgO 1 (.lst .nil)) (.cons (.asg (.nm 2) (.cint 1)) (.cons (.for (.tup [3, 4, 5, 6, 7, 8, 9, 10]) (.seq (.var 0)) b_law_parts_3) b_law_parts_4)))
def b_law_made : Ss := (.cons (.ret (.make 11 (.cons (.sub (.var 0) (.cint 0)) (.cons (.sub (.var 0) (.cint 1)) (.cons (.sub (.var 0) (.cint 2)) (.cons (.sub (.var 0) (.cint 3)) (.cons (.sub (.var 0) (.cint 4)) (.cons (.sub (.var 0) (.cint 5)) (.cons (.sub (.var 0) (.cint 6)) (.cons (.sub (.var 0) (.cint 7)) (.cons (.sub (.var 0) (.cint 8)) .nil))))))))))) .nil)
def b_law_program : Ss := (.cons (.ret (.make 10 (.cons (.blt .tuple (.cons (.fz (.comp (.call 279 (.cons (.var 1) .nil)) (.nm 1) (.seq (.var 0)) .no [1])) .nil)) .nil))) .nil)
class U (P : Prg) : Prop where
  f__law_rows : P.fns.lookup 277 = some ⟨2, 8, b_law_rows⟩
  f__law_parts : P.fns.lookup 278 = some ⟨1, 15, b_law_parts⟩
  f__law_made : P.fns.lookup 279 = some ⟨1, 1, b_law_made⟩
  f__law_program : P.fns.lookup 280 = some ⟨1, 2, b_law_program⟩
end Gb

set_option maxRecDepth 100000
set_option maxHeartbeats 4000000
namespace K08
open PySem L2 VL

def b_law_touched_1 : Ss := (.cons (.ite (.cmp .In (.var 5) (.sub (.var 1) (.sub (.var 3) (.cint 3)))) (.cons (.app 2 (.sub (.sub (.sub (.var 3) (.cint 4)) (.var 5)) (.cint 1))) .nil) .nil) .nil)
def b_law_touched_2 : Ss := (.cons (.ite (.cmp .Eq (.var 4) (.cstr "while")) (.cons (.asgO 2 (.cat (.vw 2) (.call 281 (.cons (.sub (.var 3) (.cint 5)) (.cons (.var 1) .nil))))) .nil) .nil) .nil)
def b_law_touched_3 : Ss := (.cons (.ite (.cmp .Eq (.var 4) (.cstr "if")) (.cons (.asgO 2 (.cat (.fz (.cat (.vw 2) (.call 281 (.cons (.sub (.var 3) (.cint 3)) (.cons (.var 1) .nil))))) (.call 281 (.cons (.sub (.var 3) (.cint 4)) (.cons (.var 1) .nil))))) .nil) .nil) b_law_touched_2)
def b_law_touched_4 : Ss := (.cons (.ite (.cmp .Eq (.var 4) (.cstr "call")) (.cons (.for (.nm 5) (.rng1 (.blt .len (.cons (.sub (.var 3) (.cint 4)) .nil))) b_law_touched_1) .nil) .nil) b_law_touched_3)
def b_law_touched_5 : Ss := (.cons (.asg (.nm 4) (.sub (.var 3) (.cint 0))) (.cons (.ite (.or (.cmp .Eq (.var 4) (.cstr "put")) (.cmp .Eq (.var 4) (.cstr "swap"))) (.cons (.app 2 (.sub (.var 3) (.cint 2))) .nil) .nil) b_law_touched_4))
def b_law_touched_6 : Ss := (.cons (.frz 2) (.cons (.ret (.var 2)) .nil))
def b_law_touched : Ss := (.cons (.asgO 2 (.lst .nil)) (.cons (.for (.nm 3) (.seq (.var 0)) b_law_touched_5) b_law_touched_6))
def b_law_changes_1 : Ss := (.cons (.putE (.var 1) (.sub (.var 2) (.cint 1)) (.fz (.lst .nil))) .nil)
def b_law_changes_2 : Ss := (.cons (.asg (.nm 4) (.call 281 (.cons (.sub (.var 2) (.cint 8)) (.cons (.var 1) .nil)))) (.cons (.putE (.var 1) (.sub (.var 2) (.cint 1)) (.fz (.comp (.var 5) (.nm 5) (.rng1 (.blt .len (.cons (.sub (.var 2) (.cint 2)) .nil))) (.so (.cmp .In (.sub (.sub (.sub (.var 2) (.cint 2)) (.var 5)) (.cint 0)) (.var 4))) [5]))) .nil))
def b_law_changes_3 : Ss := (.cons (.for (.nm 2) (.seq (.var 0)) b_law_changes_2) .nil)
def b_law_changes_4 : Ss := (.cons (.ret (.var 1)) .nil)
def b_law_changes_5 : Ss := (.cons (.for (.nm 3) (.rng1 (.cint 20)) b_law_changes_3) b_law_changes_4)
def b_law_changes : Ss := (.cons (.asg (.nm 1) (.new .dct0)) (.cons (.for (.nm 2) (.seq (.var 0)) b_law_changes_1) b_law_changes_5))
def b_law_blocks_1 : Ss := (.cons (.ite (.cmp .Eq (.sub (.var 2) (.cint 0)) (.cstr "while")) (.cons (.asg (.nm 1) (.fz (.cat (.var 1) (.call 283 (.cons (.sub (.var 2) (.cint 5)) .nil))))) .nil) .nil) .nil)
def b_law_blocks_2 : Ss := (.cons (.ite (.cmp .Eq (.sub (.var 2) (.cint 0)) (.cstr "if")) (.cons (.asg (.nm 1) (.fz (.cat (.fz (.cat (.var 1) (.call 283 (.cons (.sub (.var 2) (.cint 3)) .nil)))) (.call 283 (.cons (.sub (.var 2) (.cint 4)) .nil))))) .nil) .nil) b_law_blocks_1)
def b_law_blocks_3 : Ss := (.cons (.ret (.var 1)) .nil)
def b_law_blocks : Ss := (.cons (.asg (.nm 1) (.fz (.lst (.cons (.var 0) .nil)))) (.cons (.for (.nm 2) (.seq (.var 0)) b_law_blocks_2) b_law_blocks_3))
def b_law_is_list : Ss := (.cons (.ret (.and (.isi (.var 0) "list") (.cmp .Eq (.var 0) (.var 1)))) .nil)
def b_law_1 : Ss := (.cons (.appE (.var 10) (.cstr "zz")) .nil)
def b_law_2 : Ss := (.cons (.asg (.nm 10) (.call 267 (.cons (.var 3) (.cons (.var 7) .nil)))) (.cons (.ite (.not (.tru (.call 284 (.cons (.var 10) (.cons (.var 8) .nil))))) (.cons (.ret (.cbl false)) .nil) .nil) b_law_1))
def b_law_3 : Ss := (.cons (.appE (.var 10) (.cstr "zz")) .nil)
def b_law_4 : Ss := (.cons (.asg (.nm 10) (.call 265 (.cons (.var 3) (.cons (.var 7) (.cons (.var 11) .nil))))) (.cons (.ite (.not (.tru (.call 284 (.cons (.var 10) (.cons (.var 13) .nil))))) (.cons (.ret (.cbl false)) .nil) .nil) b_law_3))
def b_law_5 : Ss := (.cons (.asg (.nm 12) (.call 281 (.cons (.var 11) (.cons (.var 4) .nil)))) (.cons (.asg (.nm 13) (.fz (.comp (.var 15) (.tup [15, 16]) (.seq (.sub (.var 6) (.cint 2))) (.so (.and (.tru (.var 16)) (.cmp .In (.var 15) (.var 12)))) [15, 16]))) (.cons (.for (.nm 9) (.rng1 (.cint 2)) b_law_4) .nil)))
def b_law_6 : Ss := (.cons (.for (.nm 11) (.seq (.call 283 (.cons (.sub (.var 6) (.cint 8)) .nil))) b_law_5) .nil)
def b_law_7 : Ss := (.cons (.asg (.nm 6) (.sub (.var 2) (.var 5))) (.cons (.asg (.nm 7) (.sub (.attr (.var 3) "procedures") (.var 5))) (.cons (.asg (.nm 8) (.fz (.comp (.sub (.sub (.sub (.var 6) (.cint 2)) (.var 14)) (.cint 0)) (.nm 14) (.seq (.sub (.var 4) (.sub (.var 6) (.cint 1)))) .no [14]))) (.cons (.for (.nm 9) (.rng1 (.cint 2)) b_law_2) b_law_6))))
def b_law_8 : Ss := (.cons (.ret (.cbl true)) .nil)
def b_law : Ss := (.cons (.asg (.nm 1) (.new (.lst (.cons (.call 19 (.cons (.var 0) (.cons (.cint 400) .nil))) (.cons (.cint 0) .nil))))) (.cons (.asg (.nm 2) (.call 278 (.cons (.call 276 (.cons (.var 1) (.cons (.call 148 (.cons (.var 1) .nil)) (.cons (.sub (.fz (.lst (.cons (.cint 0) (.cons (.cint 1) (.cons (.cint 4) .nil))))) (.call 20 (.cons (.var 1) (.cons (.cint 3) .nil)))) .nil)))) .nil))) (.cons (.asg (.nm 3) (.call 280 (.cons (.var 2) .nil))) (.cons (.asg (.nm 4) (.call 282 (.cons (.var 2) .nil))) (.cons (.for (.nm 5) (.rng1 (.blt .len (.cons (.var 2) .nil))) b_law_7) b_law_8)))))
class U (P : Prg) : Prop where
  f__law_touched : P.fns.lookup 281 = some ⟨2, 6, b_law_touched⟩
  f__law_changes : P.fns.lookup 282 = some ⟨1, 6, b_law_changes⟩
  f__law_blocks : P.fns.lookup 283 = some ⟨1, 3, b_law_blocks⟩
  f__law_is_list : P.fns.lookup 284 = some ⟨2, 2, b_law_is_list⟩
  f_law : P.fns.lookup 285 = some ⟨1, 17, b_law⟩
end K08

set_option maxRecDepth 100000
set_option maxHeartbeats 4000000
namespace K08
open PySem L2 VL
def P : Prg where
  fns := [(19, Fn.mk 2 8 Hd.b_law_draws), (20, Fn.mk 2 4 Hd.b_law_take), (148, Fn.mk 1 4 Nm.b_law_names), (258, Fn.mk 10 10 Pc.b_Procedure___init__), (259, Fn.mk 1 3 Pc.b_Procedure_list_names), (260, Fn.mk 2 2 Pc.b_Program___init__), (261, Fn.mk 2 3 Pc.b_Program_called), (262, Fn.mk 1 3 Ch.b_statements_in), (263, Fn.mk 1 1 Ch.b_statements_of), (264, Fn.mk 3 8 Ch.b_handed_lists), (265, Fn.mk 3 9 Ch.b_changed_in), (266, Fn.mk 2 9 Ch.b_changed_names), (267, Fn.mk 2 4 Ch.b_changed_lists), (268, Fn.mk 2 5 Ga.b_law_gen_plain), (269, Fn.mk 3 4 Ga.b_law_gen_index), (270, Fn.mk 2 4 Ga.b_law_gen_term), (271, Fn.mk 2 3 Ga.b_law_gen_cmp), (272, Fn.mk 2 7 Ga.b_law_gen_condition), (273, Fn.mk 2 12 Ga.b_law_gen_call), (274, Fn.mk 2 6 Ga.b_law_gen_simple), (275, Fn.mk 6 22 Ga.b_law_gen_block), (276, Fn.mk 3 20 Ga.b_law_gen), (277, Fn.mk 2 8 Gb.b_law_rows), (278, Fn.mk 1 15 Gb.b_law_parts), (279, Fn.mk 1 1 Gb.b_law_made), (280, Fn.mk 1 2 Gb.b_law_program), (281, Fn.mk 2 6 K08.b_law_touched), (282, Fn.mk 1 6 K08.b_law_changes), (283, Fn.mk 1 3 K08.b_law_blocks), (284, Fn.mk 2 2 K08.b_law_is_list), (285, Fn.mk 1 17 K08.b_law)]
  glob := []
  gdct := []
  meth := [((10, ("called" : Str)), 261)]
  prps := [((11, ("list_names" : Str)), 259)]
  init := [(11, 258), (10, 260)]
  flds := [(11, ("row" : Str)), (11, ("name" : Str)), (11, ("parameters" : Str)), (11, ("needs" : Str)), (11, ("gives" : Str)), (11, ("moves" : Str)), (11, ("falls" : Str)), (11, ("lets" : Str)), (11, ("body" : Str)), (10, ("procedures" : Str))]
  tryf := []
  sub := []
instance : Hd.U P := ⟨rfl, rfl⟩
instance : Nm.U P := ⟨rfl⟩
instance : Pc.U P := ⟨rfl, rfl, rfl, rfl, rfl, rfl, rfl, rfl, rfl, rfl, rfl, rfl, rfl, rfl, rfl, rfl, rfl, rfl⟩
instance : Ch.U P := ⟨rfl, rfl, rfl, rfl, rfl, rfl⟩
instance : Ga.U P := ⟨rfl, rfl, rfl, rfl, rfl, rfl, rfl, rfl, rfl⟩
instance : Gb.U P := ⟨rfl, rfl, rfl, rfl⟩
instance : K08.U P := ⟨rfl, rfl, rfl, rfl, rfl⟩
end K08

set_option maxRecDepth 100000
set_option maxHeartbeats 4000000
namespace Hd
open PySem L2 VL
local macro_rules
  | `(tactic| push_cast [$xs,*]) => `(tactic| try simp only [$xs,*, WpSs, WpS, WpE, WpEs, WpBs, WpO, WpN, WpI, WpC, WpT, getS, setS, tgK, setsS, wipeS, k_add, k_addT, k_sub, k_mul, k_fdiv, k_mod, k_neg, k_lt, k_le, k_gt, k_ge, k_eqI, k_neI, k_eqS, k_neS, k_eqB, k_neB, k_is, k_isn, k_isB, k_isnB, k_gIn, ctx_gdct, isNon_non, isNon_int, isNon_str, isNon_lst, isNon_tup, isNon_adr, k_lenS, k_lenL, k_lenR, k_lenT, k_int, k_str, k_abs, tru_bl, augK, ctx_call, ctx_glob, k_in, k_nin, k_inS, k_addS, k_intB, isi_non_int, isi_non_bool, isi_non_str, isi_non_list, isi_non_tuple, isi_bl_int, isi_bl_bool, isi_bl_str, isi_bl_list, isi_bl_tuple, isi_int_int, isi_int_bool, isi_int_str, isi_int_list, isi_int_tuple, isi_str_int, isi_str_bool, isi_str_str, isi_str_list, isi_str_tuple, isi_tup_int, isi_tup_bool, isi_tup_str, isi_tup_list, isi_tup_tuple, isi_lst_int, isi_lst_bool, isi_lst_str, isi_lst_list, isi_lst_tuple, isi_ro_int, isi_ro_bool, isi_ro_str, isi_ro_list, isi_ro_tuple, zs_lst, zs_tup, viewE_lst, viewE_tup])
theorem int_one (ds : List Int) (x : Int) : ds.map AV.int ++ [.int x] = (ds ++ [x]).map AV.int := by rw [List.map_append]; rfl
theorem set_int (ds : List Int) (j : Nat) (x : Int) : (ds.map AV.int).set j (.int x) = (ds.set j x).map AV.int := by rw [List.map_set]
theorem cells_pos {h : AHeap} {n : Nat} {c : Cell} (e : cells h n = c) (hc : c ≠ .dead) : n < h.length := by
  cases Nat.lt_or_ge n h.length with
  | inl q => exact q
  | inr q => unfold cells at e; rw [List.getElem?_eq_none q] at e; exact absurd e.symm hc
theorem cells_push {h : AHeap} {n : Nat} {c : Cell} (e : n < h.length) : cells (h ++ [c]) n = cells h n := by
  unfold cells
  rw [List.getElem?_append_left e]
theorem cells_app {h l : AHeap} {n : Nat} (e : n < h.length) : cells (h ++ l) n = cells h n := by
  unfold cells
  rw [List.getElem?_append_left e]
theorem cells_put {h : AHeap} {n m : Nat} {c : Cell} (hn : n ≠ m) : cells (h.set n c) m = cells h m := by
  unfold cells
  rw [List.getElem?_set_ne hn]
theorem cells_set {h : AHeap} {n : Nat} {c : Cell} (hn : n < h.length) : cells (h.set n c) n = c := by
  unfold cells
  rw [List.getElem?_set_self hn]; rfl
theorem cells_last (h : AHeap) (c : Cell) : cells (h ++ [c]) h.length = c := by simp [cells]
theorem set_last (h : AHeap) (c d : Cell) : (h ++ [c]).set h.length d = h ++ [d] := by simp
theorem view_adr {h : AHeap} {n : Nat} {xs : List AV} (e : cells h n = .lst xs) : viewT h (.adr n) = some xs := by
  show view h (.adr n) = _
  simp only [view, e]
/-- the hand: draws, and where in them -/
def Hnd (a : Nat) (h : AHeap) : Prop := ∃ (ds : List Int) (k : Nat), cells h a = .lst [.lst (ds.map AV.int), .int k]
theorem Hnd.lt {a : Nat} {h : AHeap} (x : Hnd a h) : a < h.length := by
  obtain ⟨ds, k, e⟩ := x
  exact cells_pos e (fun z => by cases z)
/-- from one heap to a later one: the hand is one still, the other cells are as they were -/
structure Hx (a : Nat) (h h' : AHeap) : Prop where
  hand : Hnd a h'
  len : h.length ≤ h'.length
  keep : ∀ b, b < h.length → b ≠ a → cells h' b = cells h b
theorem Hx.refl {a : Nat} {h : AHeap} (x : Hnd a h) : Hx a h h := ⟨x, Nat.le_refl _, fun _ _ _ => rfl⟩
theorem Hx.trans {a : Nat} {h h' h'' : AHeap} (x : Hx a h h') (y : Hx a h' h'') : Hx a h h'' := ⟨y.hand, Nat.le_trans x.len y.len, fun b h1 h2 => (y.keep b (Nat.lt_of_lt_of_le h1 x.len) h2).trans (x.keep b h1 h2)⟩
theorem Hx.app {a : Nat} {h : AHeap} (x : Hnd a h) (l : List Cell) : Hx a h (h ++ l) := by
  have lt := x.lt
  obtain ⟨ds, k, e⟩ := x
  exact ⟨⟨ds, k, (cells_app lt).trans e⟩, by simp, fun b h1 _ => cells_app h1⟩
section
variable {P : Prg} [U P]
theorem take_ok {a n : Nat} {m : Int} {h Q} (hd : Hnd a h) (hm : 0 < m) (q : ∀ (r : Nat) h', Hx a h h' → (r : Int) < m → Q (.int (r : Int)) h') : callN P (n+1) 20 [.adr a, .int m] h Q := by
  have hp := hd.lt
  obtain ⟨ds, k, e⟩ := hd
  refine call_of U.f__law_take rfl ?_
  show WpSs (ctxOf P (callN P n)) b_law_take _ [.val (.adr a), .val (.int m), .no, .no] h
  push_cast [b_law_take]
  refine k_subL (d := .int k) (view_adr e) (fun _ h => by cases h) rfl ?_
  have ix : ixN 2 1 = some 1 := rfl
  push_cast [e, putC, List.length_cons, List.length_nil, ix]
  have e1 : (k : Int) + 1 = ((k + 1 : Nat) : Int) := by omega
  have e2 : cells (h.set a (.lst ([.lst (ds.map AV.int), .int k].set 1 (.int ((k : Int) + 1))))) a = .lst [.lst (ds.map AV.int), .int ((k + 1 : Nat) : Int)] := by
    rw [cells_set hp, e1]; rfl
  have hx : Hx a h (h.set a (.lst ([.lst (ds.map AV.int), .int k].set 1 (.int ((k : Int) + 1))))) := ⟨⟨ds, k + 1, e2⟩, by simp, fun b _ h2 => cells_put (Ne.symm h2)⟩
  refine k_subL (d := .lst (ds.map AV.int)) (view_adr e2) (fun _ h => by cases h) rfl ?_
  push_cast [WpSs]
  refine ite_b (fun c => q 0 _ hx hm) (fun c => ?_)
  have hk : k < ds.length := by simp at c; omega
  have e3 : atI (ds.map AV.int) (k : Int) = some (.int ds[k]) := by
    rw [atI_nat (by simpa using hk)]
    simp [hk]
  push_cast [b_law_take_1]
  refine k_subL viewT_lst (fun _ h => by cases h) e3 ?_
  push_cast [WpSs]
  refine ⟨divA (by decide) (by decide), hm, ?_⟩
  have h1 := Int.emod_nonneg (ds[k] / 7) (b := m) (by omega)
  have h2 := Int.emod_lt_of_pos (ds[k] / 7) hm
  obtain ⟨r, hr⟩ := Int.eq_ofNat_of_zero_le h1
  rw [hr] at h2 ⊢
  exact q r _ hx h2
theorem draws_ok {n m : Nat} {ns : List Int} {h Q} (hn : ns.length ≤ 63) (hm : m ≤ 100000) (q : ∀ ds : List Int, ds.length = m → Q (.lst (ds.map AV.int)) h) : callN P (n+1) 19 [.ro (ns.map AV.int), .int (m : Int)] h Q := by
  refine call_of U.f__law_draws rfl ?_
  show WpSs (ctxOf P (callN P n)) b_law_draws _ [.val (.ro (ns.map AV.int)), .val (.int (m : Int)), .no, .no, .no, .no, .no, .no] h
  push_cast [b_law_draws, viewT_ro]
  have hz1 : sizeLine = 16777216 := rfl
  refine ⟨by rw [List.length_map]; omega, ?_⟩
  refine comp_map (fun i => .int (if (ns[i]?).getD 0 < 0 then -(ns[i]?).getD 0 else (ns[i]?).getD 0)) ?_ ?_
  · intro i x R hx r
    obtain ⟨a, ha, rfl⟩ := items_map hx
    push_cast [if_true]
    rw [ha] at r
    exact r
  refine ⟨Nat.zero_le _, ⟨by omega, by omega⟩, ?_⟩
  refine for_inv (fun k ρ h' => h' = h ∧ ∃ (ls ds : List Int) (s4 s5 s6 s7 : Slot), ls.length = ns.length ∧ ds.length = k ∧ ρ = [.val (.ro (ns.map AV.int)), .val (.int (m : Int)), .own (.lst (ls.map AV.int)), .own (.lst (ds.map AV.int)), s4, s5, s6, s7]) ⟨rfl, (List.range ns.length).map (fun i => (if (ns[i]?).getD 0 < 0 then -(ns[i]?).getD 0 else (ns[i]?).getD 0)), [], .no, .no, .no, .no, by simp, rfl, ?_⟩ (fun _ _ _ _ _ => by trivial) ?_ ?_
  · rw [List.length_map, List.map_map]; rfl
  · rintro k x _ h D' hx ⟨rfl, ls, ds, s4, s5, s6, s7, hl, hd, rfl⟩ kn kc kr kb
    obtain ⟨hk, rfl⟩ := items_range hx
    have hk : k < m := by simpa using hk
    have rest : ∀ (i : Int) s6 s7, WpSs (ctxOf P (callN P n)) b_law_draws_1 D' [.val (.ro (ns.map AV.int)), .val (.int (m : Int)), .own (.lst (ls.map AV.int)), .own (.lst (ds.map AV.int)), .val (.int k), .val (.int i), s6, s7] h := by
      intro i s6 s7
      push_cast [b_law_draws_1, int_one]
      refine ⟨mulA_r (by decide) (by decide), mulA_r (by decide) (by decide), by decide, ?_⟩
      generalize i * 48271 + (k : Int) * 69621 + 11 = a
      have h1 := Int.emod_nonneg a (by decide : (2147483647 : Int) ≠ 0)
      have h2 := Int.emod_lt_of_pos a (by decide : (0 : Int) < 2147483647)
      generalize a % 2147483647 = b at h1 h2
      refine ⟨mulA_l (by omega) (by omega), divA (by decide) (by decide), by decide, ?_⟩
      generalize b * b / 4096 + b = c
      have h3 := Int.emod_nonneg c (by decide : (2147483629 : Int) ≠ 0)
      have h4 := Int.emod_lt_of_pos c (by decide : (0 : Int) < 2147483629)
      generalize c % 2147483629 = d at h3 h4
      refine ⟨mulA_l (by omega) (by omega), divA (by decide) (by decide), mulA_r (by decide) (by decide), by decide, by simp; omega, ?_⟩
      exact kn _ _ ⟨rfl, ls, _, _, _, _, _, hl, by simp [hd], rfl⟩
    push_cast [b_law_draws_2]
    refine ite_b (fun c => ?_) (fun c => rest _ _ _)
    rw [List.length_map] at c ⊢
    refine ⟨by omega, ?_⟩
    have h1 := Int.emod_nonneg (k : Int) (b := (ns.length : Int)) (by omega)
    have h2 := Int.emod_lt_of_pos (k : Int) (b := (ns.length : Int)) (by omega)
    obtain ⟨j, hj⟩ := Int.eq_ofNat_of_zero_le h1
    rw [hj] at h2 ⊢
    have hj1 : j < ns.length := by omega
    have hj2 : j < ls.length := by omega
    have en : atI (ns.map AV.int) (j : Int) = some (.int ns[j]) := by
      rw [atI_nat (by simpa using hj1)]
      simp [hj1]
    have el : atI (ls.map AV.int) (j : Int) = some (.int ls[j]) := by
      rw [atI_nat (by simpa using hj2)]
      simp [hj2]
    refine k_subL viewT_ro (fun _ h => by cases h) en ?_
    push_cast [WpSs]
    refine ⟨⟨by decide, by decide, by decide⟩, ?_⟩
    refine ite_b (fun c2 => ?_) (fun c2 => ?_)
    · refine k_subL viewT_lst (fun _ h => by cases h) el ?_
      push_cast [WpSs]
      refine ite_b (fun c3 => ?_) (fun c3 => rest _ _ _)
      refine k_subL viewT_lst (fun _ h => by cases h) el ?_
      push_cast [WpSs]
      refine ⟨by decide, by simp; omega, ?_⟩
      refine k_subL viewT_lst (fun _ h => by cases h) el ?_
      have ix : ixN (ls.map AV.int).length (j : Int) = some j := by
        rw [List.length_map]
        exact Evl.ixN_nat hj2
      push_cast [putC, ix, int_one, set_int]
      refine ⟨divA (by decide) (by decide), ?_⟩
      exact kc _ _ ⟨rfl, _, _, _, _, _, _, by simp [hl], by simp [hd], rfl⟩
    · push_cast [Bool.false_eq_true, if_false]
      exact rest _ _ _
  · rintro _ h ⟨rfl, ls, ds, s4, s5, s6, s7, hl, hd, rfl⟩
    push_cast [b_law_draws_3]
    exact q ds (by simpa using hd)
end
end Hd

set_option maxRecDepth 100000
set_option maxHeartbeats 400000
namespace Nm
open PySem L2 VL Hd
local macro_rules
  | `(tactic| push_cast [$xs,*]) => `(tactic| try simp only [$xs,*, WpSs, WpS, WpE, WpEs, WpBs, WpO, WpN, WpI, WpC, WpT, getS, setS, tgK, setsS, wipeS, k_add, k_addT, k_sub, k_mul, k_fdiv, k_mod, k_neg, k_lt, k_le, k_gt, k_ge, k_eqI, k_neI, k_eqS, k_neS, k_eqB, k_neB, k_is, k_isn, k_isB, k_isnB, k_gIn, ctx_gdct, isNon_non, isNon_int, isNon_str, isNon_lst, isNon_tup, isNon_adr, k_lenS, k_lenL, k_lenR, k_lenT, k_int, k_str, k_abs, tru_bl, augK, ctx_call, ctx_glob, k_in, k_nin, k_inS, k_addS, k_intB, isi_non_int, isi_non_bool, isi_non_str, isi_non_list, isi_non_tuple, isi_bl_int, isi_bl_bool, isi_bl_str, isi_bl_list, isi_bl_tuple, isi_int_int, isi_int_bool, isi_int_str, isi_int_list, isi_int_tuple, isi_str_int, isi_str_bool, isi_str_str, isi_str_list, isi_str_tuple, isi_tup_int, isi_tup_bool, isi_tup_str, isi_tup_list, isi_tup_tuple, isi_lst_int, isi_lst_bool, isi_lst_str, isi_lst_list, isi_lst_tuple, isi_ro_int, isi_ro_bool, isi_ro_str, isi_ro_list, isi_ro_tuple, zs_lst, zs_tup, viewE_lst, viewE_tup])
section
variable {P : Prg} [Hd.U P] [U P] {n a : Nat} {h : AHeap} {Q : AV → AHeap → Prop}
theorem k_pick {xs : List AV} {i : Nat} {Q : KA} (hi : i < xs.length) (q : ∀ d ∈ xs, Q d) : subK h (.lst xs) (.int (i : Int)) Q :=
  k_subL viewT_lst (fun _ z => by cases z) (d := xs[i]) (by rw [atI_nat hi, List.getElem?_eq_getElem hi]) (q _ (List.getElem_mem hi))
theorem names_ok (hd : Hnd a h) (q : ∀ ns : List Str, ns.length = 16 → ∀ h', Hx a h h' → Q (.lst (ns.map .str)) h') : callN P (n+2) 148 [.adr a] h Q := by
  refine call_of U.f__law_names rfl ?_
  show WpSs (ctxOf P (callN P (n+1))) b_law_names _ [.val (.adr a), .no, .no, .no] h
  have hz : sizeLine = 16777216 := sizeLine_eq
  push_cast [b_law_names]
  refine ⟨Nat.zero_le _, ?_⟩
  refine for_inv (fun i ρ h' => Hx a h h' ∧ ∃ (ns : List Str) (s2 s3 : Slot), ns.length = i ∧ ρ = [.val (.adr a), .own (.lst (ns.map .str)), s2, s3]) ⟨Hx.refl hd, [], _, _, rfl, rfl⟩ (fun _ _ _ _ _ => by trivial) ?_ ?_
  · rintro i x _ h1 D' hx ⟨x1, ns, s2, s3, hl, rfl⟩ k1 k2 k3 k4
    obtain ⟨c, hc, rfl⟩ := items_map hx
    have hi : i < 16 := by
      have := (List.getElem?_eq_some_iff.mp hc).1
      have e : ("abcdegkmpqvxyhjw" : Str).cps.toList.length = 16 := by decide +kernel
      omega
    have lc : Str.length ⟨#[c]⟩ = 1 := rfl
    push_cast [b_law_names_1]
    refine ⟨(show 5 ≤ sizeLine by decide), ?_⟩
    refine take_ok x1.hand (by decide) fun r h2 x2 hr => ?_
    refine k_pick (by show r < 5; omega) fun d hd => ?_
    have : ∃ s : Str, d = .str s ∧ s.length ≤ 8 := by
      simp only [List.mem_cons, List.not_mem_nil, or_false] at hd
      rcases hd with rfl | rfl | rfl | rfl | rfl <;> exact ⟨_, rfl, by decide +kernel⟩
    obtain ⟨s, rfl, hs⟩ := this
    push_cast [WpSs]
    refine ⟨by omega, by omega, (show 3 ≤ sizeLine by decide), ?_⟩
    refine take_ok x2.hand (by decide) fun r2 h3 x3 hr2 => ?_
    refine k_pick (by show r2 < 3; omega) fun d hd => ?_
    have : ∃ s : Str, d = .str s := by
      simp only [List.mem_cons, List.not_mem_nil, or_false] at hd
      rcases hd with rfl | rfl | rfl <;> exact ⟨_, rfl⟩
    obtain ⟨t, rfl⟩ := this
    refine ⟨by simp; omega, ?_⟩
    have em : ns.map AV.str ++ [AV.str t] = (ns ++ [t]).map AV.str := by rw [List.map_append]; rfl
    rw [em]
    exact k1 _ _ ⟨(x1.trans x2).trans x3, ns ++ [t], _, _, by simp [hl], rfl⟩
  · rintro _ h1 ⟨x1, ns, s2, s3, hl, rfl⟩
    have e : ("abcdegkmpqvxyhjw" : Str).cps.toList.length = 16 := by decide +kernel
    rw [List.length_map, e] at hl
    push_cast [b_law_names_2]
    exact q ns hl h1 x1
end
end Nm

set_option maxRecDepth 100000
set_option maxHeartbeats 400000
namespace Nm
open PySem L2 VL Hd
local macro_rules
  | `(tactic| push_cast [$xs,*]) => `(tactic| try simp only [$xs,*, WpSs, WpS, WpE, WpEs, WpBs, WpO, WpN, WpI, WpC, WpT, getS, setS, tgK, setsS, wipeS, k_add, k_addT, k_sub, k_mul, k_fdiv, k_mod, k_neg, k_lt, k_le, k_gt, k_ge, k_eqI, k_neI, k_eqS, k_neS, k_eqB, k_neB, k_is, k_isn, k_isB, k_isnB, k_gIn, ctx_gdct, isNon_non, isNon_int, isNon_str, isNon_lst, isNon_tup, isNon_adr, k_lenS, k_lenL, k_lenR, k_lenT, k_int, k_str, k_abs, tru_bl, augK, ctx_call, ctx_glob, k_in, k_nin, k_inS, k_addS, k_intB, isi_non_int, isi_non_bool, isi_non_str, isi_non_list, isi_non_tuple, isi_bl_int, isi_bl_bool, isi_bl_str, isi_bl_list, isi_bl_tuple, isi_int_int, isi_int_bool, isi_int_str, isi_int_list, isi_int_tuple, isi_str_int, isi_str_bool, isi_str_str, isi_str_list, isi_str_tuple, isi_tup_int, isi_tup_bool, isi_tup_str, isi_tup_list, isi_tup_tuple, isi_lst_int, isi_lst_bool, isi_lst_str, isi_lst_list, isi_lst_tuple, isi_ro_int, isi_ro_bool, isi_ro_str, isi_ro_list, isi_ro_tuple, zs_lst, zs_tup, viewE_lst, viewE_tup])
/-- the signs that are no padding -/
def keyN (s : Str) : List Nat := s.cps.toList.filter fun c => !decide (c = 117) && !decide (c = 122)
def letN : List Nat := ("abcdegkmpqvxyhjw" : Str).cps.toList
theorem letN_nd : letN.Nodup := by decide +kernel
theorem letN_len : letN.length = 16 := by decide +kernel
theorem letN_in : ∀ c ∈ letN, (!decide (c = 117) && !decide (c = 122)) = true := by decide +kernel
theorem letN_asc : ∀ c ∈ letN, c < 128 := by decide +kernel
theorem keyN_app (s t : Str) : keyN (s ++ t) = keyN s ++ keyN t := by
  unfold keyN
  have : (s ++ t).cps.toList = s.cps.toList ++ t.cps.toList := by
    show (s.cps ++ t.cps).toList = _
    simp
  rw [this, List.filter_append]
/-- signs below 128 alone -/
def asc (s : Str) : Prop := ∀ c ∈ s.cps.toList, c < 128
theorem asc_app {s t : Str} (h1 : asc s) (h2 : asc t) : asc (s ++ t) := by
  intro c m
  have : (s ++ t).cps.toList = s.cps.toList ++ t.cps.toList := by
    show (s.cps ++ t.cps).toList = _
    simp
  rw [this] at m
  exact (List.mem_append.mp m).elim (h1 c) (h2 c)
theorem nd_of_key {ns : List Str} (h : ns.map keyN = (letN.take ns.length).map fun c => [c]) : ns.Nodup := by
  have : (ns.map keyN).Nodup := by
    rw [h]
    have e := (List.take_sublist ns.length letN).nodup letN_nd
    exact List.Pairwise.map _ (fun a b h => by simpa using h) e
  exact List.Pairwise.of_map keyN (fun a b h e => h (by rw [e])) this
section
variable {P : Prg} [Hd.U P] [U P] {n a : Nat} {h : AHeap} {Q : AV → AHeap → Prop}
theorem names_nd (hd : Hnd a h) (q : ∀ ns : List Str, ns.length = 16 → ns.Nodup → (∀ s ∈ ns, asc s) → ∀ h', Hx a h h' → Q (.lst (ns.map .str)) h') : callN P (n+2) 148 [.adr a] h Q := by
  refine call_of U.f__law_names rfl ?_
  show WpSs (ctxOf P (callN P (n+1))) b_law_names _ [.val (.adr a), .no, .no, .no] h
  have hz : sizeLine = 16777216 := sizeLine_eq
  push_cast [b_law_names]
  refine ⟨Nat.zero_le _, ?_⟩
  refine for_inv (fun i ρ h' => Hx a h h' ∧ ∃ (ns : List Str) (s2 s3 : Slot), ns.length = i ∧ ns.map keyN = (letN.take i).map (fun c => [c]) ∧ (∀ s ∈ ns, asc s) ∧ ρ = [.val (.adr a), .own (.lst (ns.map .str)), s2, s3]) ⟨Hx.refl hd, [], _, _, rfl, rfl, nofun, rfl⟩ (fun _ _ _ _ _ => by trivial) ?_ ?_
  · rintro i x _ h1 D' hx ⟨x1, ns, s2, s3, hl, hk, has, rfl⟩ k1 k2 k3 k4
    obtain ⟨c, hc, rfl⟩ := items_map hx
    have hi : i < 16 := by
      have := (List.getElem?_eq_some_iff.mp hc).1
      have e : ("abcdegkmpqvxyhjw" : Str).cps.toList.length = 16 := by decide +kernel
      omega
    have hc : letN[i]? = some c := hc
    have kc : keyN ⟨#[c]⟩ = [c] := by
      have := letN_in c (List.mem_of_getElem? hc)
      show List.filter _ [c] = [c]
      rw [List.filter_cons, if_pos this]; rfl
    have ac : asc ⟨#[c]⟩ := fun c' m => by
      have : c' = c := List.mem_singleton.mp (show c' ∈ [c] from m)
      rw [this]; exact letN_asc c (List.mem_of_getElem? hc)
    have lc : Str.length ⟨#[c]⟩ = 1 := rfl
    push_cast [b_law_names_1]
    refine ⟨(show 5 ≤ sizeLine by decide), ?_⟩
    refine take_ok x1.hand (by decide) fun r h2 x2 hr => ?_
    refine k_pick (by show r < 5; omega) fun d hd => ?_
    have : ∃ s : Str, d = .str s ∧ s.length ≤ 8 ∧ keyN s = [] ∧ asc s := by
      simp only [List.mem_cons, List.not_mem_nil, or_false] at hd
      rcases hd with rfl | rfl | rfl | rfl | rfl <;> exact ⟨_, rfl, by decide +kernel, by decide +kernel, by unfold asc; decide +kernel⟩
    obtain ⟨s, rfl, hs, ks, as⟩ := this
    push_cast [WpSs]
    refine ⟨by omega, by omega, (show 3 ≤ sizeLine by decide), ?_⟩
    refine take_ok x2.hand (by decide) fun r2 h3 x3 hr2 => ?_
    refine k_pick (by show r2 < 3; omega) fun d hd => ?_
    have : ∃ s : Str, d = .str s ∧ keyN s = [c] ∧ asc s := by
      simp only [List.mem_cons, List.not_mem_nil, or_false] at hd
      rcases hd with rfl | rfl | rfl
      · exact ⟨_, rfl, kc, ac⟩
      · exact ⟨_, rfl, by rw [keyN_app, kc, ks]; rfl, asc_app ac as⟩
      · exact ⟨_, rfl, by rw [keyN_app, kc, ks]; rfl, asc_app as ac⟩
    obtain ⟨t, rfl, kt, at'⟩ := this
    refine ⟨by simp; omega, ?_⟩
    have em : ns.map AV.str ++ [AV.str t] = (ns ++ [t]).map AV.str := by rw [List.map_append]; rfl
    rw [em]
    refine k1 _ _ ⟨(x1.trans x2).trans x3, ns ++ [t], _, _, by simp [hl], ?_, fun z mz => (List.mem_append.mp mz).elim (has z) fun mz => by rw [List.mem_singleton.mp mz]; exact at', rfl⟩
    rw [List.map_append, hk, List.map_cons, kt, List.take_add_one, hc, List.map_append]
    rfl
  · rintro _ h1 ⟨x1, ns, s2, s3, hl, hk, has, rfl⟩
    have e : ("abcdegkmpqvxyhjw" : Str).cps.toList.length = 16 := by decide +kernel
    rw [List.length_map, e] at hl
    rw [List.length_map, e] at hk
    push_cast [b_law_names_2]
    exact q ns hl (nd_of_key (by rw [hl]; exact hk)) has h1 x1
end
end Nm

set_option maxRecDepth 100000
set_option maxHeartbeats 400000
/-! Terms, promises, conditions: their values in a state. -/
namespace TvL
open PySem L2 VL
/-- numbers, lists, old lists by names -/
structure Stt where
  nu : List (Str × Int)
  li : List (Str × List Int)
  ol : List (Str × List Int)
def dN (l : List (Str × Int)) : List (Key × AV) := l.map fun p => (.inr p.1, .int p.2)
def dL (l : List (Str × List Int)) : List (Key × AV) := l.map fun p => (.inr p.1, .lst (p.2.map .int))
theorem getD_map {α : Type} (f : α → AV) (k : Str) : ∀ l : List (Str × α), VL.getD (l.map fun p => ((.inr p.1 : Key), f p.2)) (.inr k) = (l.lookup k).map f
  | [] => rfl
  | (a, x) :: l => by
    have ih := getD_map f k l
    unfold VL.getD at ih ⊢
    rw [List.map_cons, List.find?_cons, List.lookup_cons]
    by_cases c : a = k
    · subst c
      simp
    · have h1 : decide ((Sum.inr a : Key) = Sum.inr k) = false := decide_eq_false fun z => c (Sum.inr.inj z)
      have h2 : (k == a) = false := by simpa using fun z : k = a => c z.symm
      simp only [h1, h2]
      exact ih
theorem getD_N (l : List (Str × Int)) (k : Str) : VL.getD (dN l) (.inr k) = (l.lookup k).map .int := getD_map .int k l
theorem getD_L (l : List (Str × List Int)) (k : Str) : VL.getD (dL l) (.inr k) = (l.lookup k).map fun x => .lst (x.map .int) := getD_map (fun (x : List Int) => AV.lst (x.map .int)) k l
def Stt.num (st : Stt) (s : Str) : Int := (st.nu.lookup s).getD 0
def Stt.lis (st : Stt) (o : Bool) (s : Str) : List Int := ((if o then st.ol else st.li).lookup s).getD []
/-- the names are there -/
structure Stt.Ok (st : Stt) (nN lN : List Str) : Prop where
  n : ∀ s ∈ nN, ∃ i, st.nu.lookup s = some i
  l : ∀ (o : Bool), ∀ s ∈ lN, ∃ l : List Int, (if o then st.ol else st.li).lookup s = some l ∧ l.length ≤ 10
inductive Pl where
  | num (i : Int) | var (s : Str) (i : Int) | len (s : Str) (i : Int)
def Pl.av : Pl → AV
  | .num i => .tup [.str "num", .int i]
  | .var s i => .tup [.str "var", .str s, .int i]
  | .len s i => .tup [.str "len", .str s, .int i]
def Pl.Ok (nN lN : List Str) : Pl → Prop
  | .num _ => True
  | .var s _ => s ∈ nN
  | .len s _ => s ∈ lN
def Pl.v (st : Stt) : Pl → Int
  | .num i => i
  | .var s i => st.num s + i
  | .len s i => ((st.lis false s).length : Int) + i
inductive Tm where
  | pl (p : Pl) | cell (s : Str) (o : Bool) (p : Pl) (i : Int)
def ref (s : Str) (o : Bool) : AV := .tup [.str s, .bl o]
def Tm.av : TvL.Tm → AV
  | .pl p => p.av
  | .cell s o p i => .tup [.str "cell", ref s o, p.av, .int i]
def Tm.Ok (nN lN : List Str) : TvL.Tm → Prop
  | .pl p => p.Ok nN lN
  | .cell s _ p _ => s ∈ lN ∧ p.Ok nN lN
def at_ (l : List Int) (k : Int) : Int := (l[k.toNat]?).getD 0
def Tm.v (st : Stt) : TvL.Tm → Option Int
  | .pl p => some (p.v st)
  | .cell s o p i => if p.v st < 0 ∨ ((st.lis o s).length : Int) ≤ p.v st then none else some (at_ (st.lis o s) (p.v st) + i)
def sgs : List Str := ["<", "<=", ">", ">=", "==", "!="]
def sgS (k : Nat) : Str := (sgs[k]?).getD ""
def cmpB (k : Nat) (a b : Int) : Bool := match k with
  | 0 => decide (a < b)
  | 1 => decide (a ≤ b)
  | 2 => decide (b < a)
  | 3 => decide (b ≤ a)
  | 4 => decide (a = b)
  | _ => !decide (a = b)
structure Cm where
  sg : Nat
  l : TvL.Tm
  r : TvL.Tm
def Cm.av (c : TvL.Cm) : AV := .tup [.str "cmp", .str (sgS c.sg), c.l.av, c.r.av]
def Cm.Ok (nN lN : List Str) (c : TvL.Cm) : Prop := c.sg < 6 ∧ c.l.Ok nN lN ∧ c.r.Ok nN lN
def Cm.v (st : Stt) (c : TvL.Cm) : Bool := match c.l.v st, c.r.v st with
  | some a, some b => cmpB c.sg a b
  | _, _ => false
structure Rg where
  s : Str
  o : Bool
  lo : Pl
  hi : Pl
def Rg.Ok (nN lN : List Str) (r : Rg) : Prop := r.s ∈ lN ∧ r.lo.Ok nN lN ∧ r.hi.Ok nN lN
def Rg.a (st : Stt) (r : Rg) : Int := max 0 (r.lo.v st)
def Rg.e (st : Stt) (r : Rg) : Int := min ((st.lis r.o r.s).length : Int) (r.hi.v st)
def Rg.cs (st : Stt) (r : Rg) : List Int := st.lis r.o r.s
/-- the cells of a range -/
def Rg.part (st : Stt) (r : Rg) : List Int := (List.range (r.e st - r.a st).toNat).map fun (k : Nat) => at_ (r.cs st) (r.a st + (k : Int))
inductive Pr where
  | cmp (c : TvL.Cm) | either (c d : TvL.Cm) | all (r : Rg) (sg : Nat) (b : Pl) | mtch (r : Rg) (sg : Nat) (s : Str) (o : Bool) (k : Int) | sorted (r : Rg) | below (r q : Rg)
def Pr.av : Pr → AV
  | .cmp c => c.av
  | .either c d => .tup [.str "either", c.av, d.av]
  | .all r sg b => .tup [.str "all", ref r.s r.o, r.lo.av, r.hi.av, .str (sgS sg), b.av]
  | .mtch r sg s o k => .tup [.str "match", ref r.s r.o, r.lo.av, r.hi.av, .str (sgS sg), ref s o, .int k]
  | .sorted r => .tup [.str "sorted", ref r.s r.o, r.lo.av, r.hi.av]
  | .below r q => .tup [.str "below", ref r.s r.o, r.lo.av, r.hi.av, ref q.s q.o, q.lo.av, q.hi.av]
def Pr.Ok (nN lN : List Str) : Pr → Prop
  | .cmp c => c.Ok nN lN
  | .either c d => c.Ok nN lN ∧ d.Ok nN lN
  | .all r sg b => r.Ok nN lN ∧ sg < 6 ∧ b.Ok nN lN
  | .mtch r sg s _ _ => r.Ok nN lN ∧ sg < 6 ∧ s ∈ lN
  | .sorted r => r.Ok nN lN
  | .below r q => r.Ok nN lN ∧ q.Ok nN lN
def adj (l : List Int) : Bool := (l.zip (l.drop 1)).all fun p => decide (p.1 ≤ p.2)
def Pr.v (st : Stt) : Pr → Bool
  | .cmp c => c.v st
  | .either c d => c.v st || d.v st
  | .all r sg b => (r.part st).all fun x => cmpB sg x (b.v st)
  | .mtch r sg s o k => (List.range (min (r.e st) ((st.lis o s).length : Int) - r.a st).toNat).all fun (j : Nat) => cmpB sg (at_ (r.cs st) (r.a st + (j : Int))) (at_ (st.lis o s) (r.a st + (j : Int)) + k)
  | .sorted r => adj (r.part st)
  | .below r q => (r.part st).all fun x => (q.part st).all fun y => decide (x ≤ y)
/-- a condition: its form, and its truth in every state -/
inductive Cd (nN lN : List Str) : Nat → AV → (Stt → Bool) → Prop where
  | pr {k : Nat} (p : Pr) : p.Ok nN lN → Cd nN lN k p.av (fun st => p.v st)
  | not {k : Nat} {a : AV} {f : Stt → Bool} : Cd nN lN k a f → Cd nN lN (k + 1) (.tup [.str "not", a]) (fun st => !f st)
  | and {k : Nat} (xs : List (AV × (Stt → Bool))) : xs.length ≤ 10 → (∀ p ∈ xs, Cd nN lN k p.1 p.2) → Cd nN lN (k + 1) (.tup [.str "and", .tup (xs.map (·.1))]) (fun st => xs.all fun p => p.2 st)
  | or {k : Nat} (xs : List (AV × (Stt → Bool))) : xs.length ≤ 10 → (∀ p ∈ xs, Cd nN lN k p.1 p.2) → Cd nN lN (k + 1) (.tup [.str "or", .tup (xs.map (·.1))]) (fun st => xs.any fun p => p.2 st)
/-! ### the plain laws -/
theorem Rg.part_len (st : Stt) (r : Rg) : (r.part st).length = (r.e st - r.a st).toNat := by simp [Rg.part]
theorem Rg.part_at {st : Stt} {r : Rg} {k : Nat} (h : k < (r.e st - r.a st).toNat) : (r.part st)[k]? = some (at_ (r.cs st) (r.a st + (k : Int))) := by
  unfold Rg.part
  rw [List.getElem?_map, List.getElem?_range h]; rfl
theorem adj_iff (l : List Int) : adj l = true ↔ ∀ (i j : Nat) (x y : Int), i ≤ j → l[i]? = some x → l[j]? = some y → x ≤ y := by
  have key : adj l = true ↔ ∀ (i : Nat) (x y : Int), l[i]? = some x → l[i + 1]? = some y → x ≤ y := by
    unfold adj
    rw [List.all_eq_true]
    constructor
    · intro h i x y h1 h2
      have m : (x, y) ∈ l.zip (l.drop 1) := by
        refine List.mem_of_getElem? (i := i) ?_
        rw [List.getElem?_zip_eq_some]
        exact ⟨h1, by rw [List.getElem?_drop, Nat.add_comm]; exact h2⟩
      simpa using h _ m
    · intro h p m
      obtain ⟨i, hi⟩ := List.mem_iff_getElem?.mp m
      rw [List.getElem?_zip_eq_some] at hi
      obtain ⟨h1, h2⟩ := hi
      rw [List.getElem?_drop, Nat.add_comm] at h2
      exact decide_eq_true (h i _ _ h1 h2)
  rw [key]
  constructor
  · intro h i j x y hij
    induction j generalizing y with
    | zero =>
      intro h1 h2
      have : i = 0 := by omega
      subst this
      rw [h1] at h2
      cases h2
      exact Int.le_refl _
    | succ j ih =>
      intro h1 h2
      by_cases c : i = j + 1
      · subst c
        rw [h1] at h2
        cases h2
        exact Int.le_refl _
      · have hj : j < l.length := by have := (List.getElem?_eq_some_iff.mp h2).1; omega
        have := ih l[j] (by omega) h1 (List.getElem?_eq_getElem hj)
        have := h j _ _ (List.getElem?_eq_getElem hj) h2
        omega
  · intro h i x y h1 h2
    exact h i (i + 1) x y (by omega) h1 h2
end TvL

set_option maxRecDepth 100000
set_option maxHeartbeats 400000
/-! Statements and procedures, plain: what stands in a block, which calls, which lists. -/
namespace P8
open PySem L2 VL
inductive St where
  | oth (k : Str) (rw : AV) (rest : List AV)
  | chg (k : Str) (rw : AV) (x : Str) (rest : List AV)
  | call (rw : AV) (x f : Str) (as : List AV)
  | ite (rw c : AV) (a b : List St)
  | wh (rw c : AV) (ks : List AV) (f : AV) (b : List St)
mutual
def St.av : St → AV
  | .oth k r xs => .tup (.str k :: r :: xs)
  | .chg k r x xs => .tup (.str k :: r :: .str x :: xs)
  | .call r x f as => .tup [.str "call", r, .str x, .str f, .tup as]
  | .ite r c a b => .tup [.str "if", r, c, .tup (avs a), .tup (avs b)]
  | .wh r c ks f b => .tup [.str "while", r, c, .tup ks, f, .tup (avs b)]
def avs : List St → List AV
  | [] => []
  | s :: r => s.av :: avs r
end
theorem avs_map : ∀ b : List St, avs b = b.map St.av
  | [] => rfl
  | s :: r => by rw [avs, avs_map r, List.map_cons]
def bv (b : List St) : AV := .tup (avs b)
mutual
def flS : St → List St
  | .ite r c a b => .ite r c a b :: (flL a ++ flL b)
  | .wh r c ks f b => .wh r c ks f b :: flL b
  | .oth k r xs => [.oth k r xs]
  | .chg k r x xs => [.chg k r x xs]
  | .call r x f as => [.call r x f as]
def flL : List St → List St
  | [] => []
  | s :: r => flS s ++ flL r
end
theorem flL_append : ∀ a b : List St, flL (a ++ b) = flL a ++ flL b
  | [], b => rfl
  | s :: a, b => by rw [List.cons_append, flL, flL, flL_append a b, List.append_assoc]
theorem mem_flL {s : St} : ∀ {b : List St}, s ∈ flL b ↔ ∃ t ∈ b, s ∈ flS t
  | [] => by simp [flL]
  | t :: b => by
    rw [flL, List.mem_append, mem_flL (b := b)]
    simp
/-- a procedure: its name, its parameters -/
structure Kn where
  name : Str
  ps : List (Str × Bool)
def special : List Str := ["put", "swap", "call", "if", "while"]
def Args (ls : List Str) (ps : List (Str × Bool)) (as : List AV) : Prop :=
  as.length = ps.length ∧ ∀ (k : Nat) (p : Str × Bool) (a : AV), ps[k]? = some p → as[k]? = some a → p.2 = true → ∃ x ∈ ls, a = .tup [.str "list", .str x]
def GdS (ls : List Str) (kn : List Kn) (rec : List St → Prop) : St → Prop
  | .oth k _ xs => k ∉ special ∧ xs.length ≤ 5
  | .chg k _ x xs => (k = "put" ∨ k = "swap") ∧ x ∈ ls ∧ xs.length ≤ 5
  | .call _ _ f as => ∃ K ∈ kn, K.name = f ∧ Args ls K.ps as
  | .ite _ _ a b => rec a ∧ rec b
  | .wh _ _ _ _ b => rec b
def Gd (ls : List Str) (kn : List Kn) : Nat → List St → Prop
  | 0, b => b.length ≤ 6 ∧ ∀ s ∈ b, GdS ls kn (fun _ => False) s
  | d + 1, b => b.length ≤ 6 ∧ ∀ s ∈ b, GdS ls kn (Gd ls kn d) s
theorem GdS.mono {ls ls' : List Str} {kn kn' : List Kn} {r r' : List St → Prop} (hl : ∀ x ∈ ls, x ∈ ls') (hk : ∀ K ∈ kn, K ∈ kn') (hr : ∀ b, r b → r' b) {s : St} (h : GdS ls kn r s) : GdS ls' kn' r' s := by
  cases s with
  | oth k rw xs => exact h
  | chg k rw x xs => exact ⟨h.1, hl _ h.2.1, h.2.2⟩
  | call rw x f as =>
    obtain ⟨K, m, e, a1, a2⟩ := h
    exact ⟨K, hk _ m, e, a1, fun k p a h1 h2 h3 => by obtain ⟨x, hx, e⟩ := a2 k p a h1 h2 h3; exact ⟨x, hl _ hx, e⟩⟩
  | ite rw c a b => exact ⟨hr _ h.1, hr _ h.2⟩
  | wh rw c ks f b => exact hr _ h
theorem Gd.mono {ls : List Str} {kn kn' : List Kn} (hk : ∀ K ∈ kn, K ∈ kn') : ∀ {d : Nat} {b : List St}, Gd ls kn d b → Gd ls kn' d b
  | 0, b, h => ⟨h.1, fun s m => (h.2 s m).mono (fun _ q => q) hk fun _ q => q⟩
  | d + 1, b, h => ⟨h.1, fun s m => (h.2 s m).mono (fun _ q => q) hk fun _ q => Gd.mono hk q⟩
theorem Gd.succ {ls : List Str} {kn : List Kn} : ∀ {d : Nat} {b : List St}, Gd ls kn d b → Gd ls kn (d + 1) b
  | 0, b, h => ⟨h.1, fun s m => (h.2 s m).mono (fun _ q => q) (fun _ q => q) fun _ q => q.elim⟩
  | d + 1, b, h => ⟨h.1, fun s m => (h.2 s m).mono (fun _ q => q) (fun _ q => q) fun _ q => Gd.succ q⟩
theorem Gd.up {ls : List Str} {kn : List Kn} {d e : Nat} {b : List St} (h : Gd ls kn d b) (hd : d ≤ e) : Gd ls kn e b := by
  induction hd with
  | refl => exact h
  | step _ ih => exact ih.succ
theorem Gd.len {ls : List Str} {kn : List Kn} : ∀ {d : Nat} {b : List St}, Gd ls kn d b → b.length ≤ 6
  | 0, _, h => h.1
  | _ + 1, _, h => h.1
/-- statements in blocks of this depth, at most -/
def szB : Nat → Nat
  | 0 => 6
  | d + 1 => 6 * (1 + 2 * szB d)
theorem flL_le {m : Nat} : ∀ {b : List St}, (∀ s ∈ b, (flS s).length ≤ m) → (flL b).length ≤ b.length * m
  | [], _ => by simp [flL]
  | s :: b, h => by
    have h1 := h s List.mem_cons_self
    have h2 := flL_le (b := b) fun t ht => h t (List.mem_cons_of_mem _ ht)
    rw [flL, List.length_append, List.length_cons, Nat.succ_mul]
    omega
theorem Gd.size {ls : List Str} {kn : List Kn} : ∀ {d : Nat} {b : List St}, Gd ls kn d b → (flL b).length ≤ szB d
  | 0, b, h => by
    have := flL_le (m := 1) (b := b) fun s m => by
      have := h.2 s m
      cases s <;> first | exact this.elim | exact this.1.elim | simp [flS]
    have := h.1
    simp only [szB]; omega
  | d + 1, b, h => by
    have := flL_le (m := 1 + 2 * szB d) (b := b) fun s m => by
      have := h.2 s m
      cases s with
      | ite r c x y =>
        have h1 := Gd.size this.1
        have h2 := Gd.size this.2
        simp only [flS, List.length_cons, List.length_append]; omega
      | wh r c ks f y =>
        have h1 := Gd.size (show Gd ls kn d y from this)
        simp only [flS, List.length_cons]; omega
      | _ => simp [flS]
    have h1 := h.1
    simp only [szB]
    exact Nat.le_trans this (Nat.mul_le_mul_right _ h1)
/-- all statements in it are of the right form -/
theorem Gd.all {ls : List Str} {kn : List Kn} : ∀ {d : Nat} {b : List St}, Gd ls kn d b → ∀ s ∈ flL b, GdS ls kn (fun _ => True) s
  | 0, b, h, s, m => by
    obtain ⟨t, ht, m⟩ := mem_flL.mp m
    have := h.2 t ht
    cases t with
    | ite r c x y => exact this.1.elim
    | wh r c ks f y => exact this.elim
    | _ =>
      simp only [flS, List.mem_singleton] at m
      subst m
      exact this
  | d + 1, b, h, s, m => by
    obtain ⟨t, ht, m⟩ := mem_flL.mp m
    have := h.2 t ht
    cases t with
    | ite r c x y =>
      rw [flS, List.mem_cons, List.mem_append] at m
      rcases m with rfl | m | m
      · exact ⟨trivial, trivial⟩
      · exact Gd.all this.1 s m
      · exact Gd.all this.2 s m
    | wh r c ks f y =>
      rw [flS, List.mem_cons] at m
      rcases m with rfl | m
      · exact trivial
      · exact Gd.all (show Gd ls kn d y from this) s m
    | _ =>
      simp only [flS, List.mem_singleton] at m
      subst m
      exact this
/-! ### what a block changes, whom it hands lists to -/
def chgN : St → Option Str
  | .chg _ _ x _ => some x
  | _ => none
def argN : AV → Str
  | .tup [_, .str x] => x
  | _ => ""
structure Prc where
  k : Kn
  row : AV
  needs : List AV
  gives : List AV
  moves : List AV
  falls : AV
  lets : List AV
  body : List St
def Prc.lists (p : Prc) : List Str := (p.k.ps.filter (·.2)).map (·.1)
structure Hnd where
  x : Str
  j : Nat
  p : Str
def zipH (j : Nat) (ps : List (Str × Bool)) (as : List AV) : List Hnd := (ps.zip as).filterMap fun q => if q.1.2 then some ⟨argN q.2, j, q.1.1⟩ else none
def hd1 (L : List Prc) : St → List Hnd
  | .call _ _ f as => match L.findIdx? fun p => decide (p.k.name = f) with
    | some j => match L[j]? with
      | some p => zipH j p.k.ps as
      | none => []
    | none => []
  | _ => []
def hds (L : List Prc) (b : List St) : List Hnd := (flL b).flatMap (hd1 L)
def base (b : List St) : List Str := (flL b).filterMap chgN
/-- a good list of procedures -/
structure Ok (L : List Prc) : Prop where
  few : L.length ≤ 3
  nm : ∀ (i j : Nat) (p q : Prc), L[i]? = some p → L[j]? = some q → p.k.name = q.k.name → i = j
  ps : ∀ p ∈ L, p.k.ps.length ≤ 5 ∧ (p.k.ps.map (·.1)).Nodup
  gd : ∀ (i : Nat) (p : Prc), L[i]? = some p → Gd p.lists ((L.take (i + 1)).map (·.k)) 5 p.body
theorem Ok.find {L : List Prc} (o : Ok L) {j : Nat} {p : Prc} (h : L[j]? = some p) : L.findIdx? (fun q => decide (q.k.name = p.k.name)) = some j := by
  obtain ⟨hj, e⟩ := List.getElem?_eq_some_iff.mp h
  rw [List.findIdx?_eq_some_iff_getElem]
  refine ⟨hj, by simp [e], fun i hi => ?_⟩
  have hi' : i < L.length := by omega
  intro c
  have := o.nm i j L[i] p (List.getElem?_eq_getElem hi') h (by simpa using c)
  omega
/-- whom a good statement hands to -/
theorem Ok.hd1 {L : List Prc} (o : Ok L) {i : Nat} (ls : List Str) {rw_ : AV} {x f : Str} {as : List AV} (g : GdS ls ((L.take (i + 1)).map (·.k)) (fun _ => True) (.call rw_ x f as)) :
    ∃ (j : Nat) (p : Prc), j ≤ i ∧ L[j]? = some p ∧ p.k.name = f ∧ Args ls p.k.ps as ∧ P8.hd1 L (.call rw_ x f as) = zipH j p.k.ps as := by
  obtain ⟨K, m, e, a⟩ := g
  obtain ⟨p, m2, rfl⟩ := List.mem_map.mp m
  obtain ⟨j, hj⟩ := List.mem_iff_getElem?.mp m2
  have hjl := (List.getElem?_eq_some_iff.mp hj).1
  rw [List.length_take] at hjl
  rw [List.getElem?_take_of_lt (by omega)] at hj
  refine ⟨j, p, by omega, hj, e, a, ?_⟩
  subst e
  simp only [P8.hd1, o.find hj, hj]
theorem mem_zipH {j : Nat} {ps : List (Str × Bool)} {as : List AV} {h : Hnd} : h ∈ zipH j ps as ↔ ∃ (k : Nat) (p : Str × Bool) (a : AV), ps[k]? = some p ∧ as[k]? = some a ∧ p.2 = true ∧ h = ⟨argN a, j, p.1⟩ := by
  unfold zipH
  rw [List.mem_filterMap]
  constructor
  · rintro ⟨⟨p, a⟩, m, e⟩
    obtain ⟨k, hk⟩ := List.mem_iff_getElem?.mp m
    rw [List.getElem?_zip_eq_some] at hk
    simp only at hk e
    split at e
    · rename_i c
      cases e
      exact ⟨k, p, a, hk.1, hk.2, c, rfl⟩
    · cases e
  · rintro ⟨k, p, a, h1, h2, h3, rfl⟩
    refine ⟨(p, a), List.mem_of_getElem? (i := k) (by rw [List.getElem?_zip_eq_some]; exact ⟨h1, h2⟩), ?_⟩
    simp [h3]
theorem mem_lists {p : Prc} {x : Str} : x ∈ p.lists ↔ (x, true) ∈ p.k.ps := by
  unfold Prc.lists
  rw [List.mem_map]
  constructor
  · rintro ⟨⟨y, b⟩, m, rfl⟩
    rw [List.mem_filter] at m
    have : b = true := m.2
    subst this
    exact m.1
  · intro m
    exact ⟨(x, true), List.mem_filter.mpr ⟨m, rfl⟩, rfl⟩
/-- what is handed: a list of the caller's to a list of the called one's -/
theorem Ok.mem_hds {L : List Prc} (o : Ok L) {i d : Nat} {ls : List Str} {b : List St} (g : Gd ls ((L.take (i + 1)).map (·.k)) d b) {h : Hnd} (m : h ∈ hds L b) : h.j ≤ i ∧ h.x ∈ ls ∧ ∃ p, L[h.j]? = some p ∧ h.p ∈ p.lists := by
  unfold hds at m
  obtain ⟨s, m1, m2⟩ := List.mem_flatMap.mp m
  have gs := g.all s m1
  cases s with
  | call rw_ x f as =>
    obtain ⟨j, p, h1, h2, h3, h4, h5⟩ := o.hd1 ls gs
    rw [h5] at m2
    obtain ⟨k, q, a, e1, e2, e3, rfl⟩ := mem_zipH.mp m2
    obtain ⟨y, hy, rfl⟩ := h4.2 k q a e1 e2 e3
    refine ⟨h1, hy, p, h2, mem_lists.mpr ?_⟩
    have := List.mem_of_getElem? e1
    rw [← e3]
    exact this
  | _ => cases m2
theorem base_in {ls : List Str} {kn : List Kn} {d : Nat} {b : List St} (g : Gd ls kn d b) : ∀ x ∈ base b, x ∈ ls := by
  intro x m
  obtain ⟨s, m1, m2⟩ := List.mem_filterMap.mp m
  have := g.all s m1
  cases s with
  | chg k r y xs => cases m2; exact this.2.1
  | _ => cases m2
end P8

set_option maxRecDepth 100000
set_option maxHeartbeats 400000
/-! The lists that are changed, plain: the least sets; the rounds of the law reach them. -/
namespace P8
open PySem L2 VL
/-- what procedure i changes: the least sets -/
inductive C (L : List Prc) : Nat → Str → Prop where
  | base {i : Nat} {p : Prc} {x : Str} : L[i]? = some p → x ∈ base p.body → C L i x
  | call {i : Nat} {p : Prc} {h : Hnd} : L[i]? = some p → h ∈ hds L p.body → C L h.j h.p → C L i h.x
theorem C.in {L : List Prc} (o : Ok L) {i : Nat} {x : Str} (c : C L i x) : ∃ p, L[i]? = some p ∧ x ∈ p.lists := by
  cases c with
  | base h m => exact ⟨_, h, base_in (o.gd _ _ h) _ m⟩
  | call h m _ => exact ⟨_, h, (o.mem_hds (o.gd _ _ h) m).2.1⟩
theorem C.inv {L : List Prc} {i : Nat} {x : Str} (c : C L i x) : ∃ p, L[i]? = some p ∧ (x ∈ P8.base p.body ∨ ∃ h ∈ hds L p.body, h.x = x ∧ C L h.j h.p) := by
  cases c with
  | base h m => exact ⟨_, h, .inl m⟩
  | call h m z => exact ⟨_, h, .inr ⟨_, m, rfl, z⟩⟩
/-! ### the law's rounds -/
def pos (L : List Prc) (c : Nat → Nat → Bool) (j : Nat) (p : Str) : Bool := match L[j]? with
  | some q => (List.range q.k.ps.length).any fun k => c j k && decide ((q.k.ps[k]?).map (·.1) = some p)
  | none => false
def tch (L : List Prc) (c : Nat → Nat → Bool) (b : List St) (x : Str) : Bool := decide (x ∈ base b) || (hds L b).any fun h => decide (h.x = x) && pos L c h.j h.p
def F (L : List Prc) (c : Nat → Nat → Bool) (i k : Nat) : Bool := match L[i]? with
  | some p => match p.k.ps[k]? with
    | some q => tch L c p.body q.1
    | none => false
  | none => false
def stp (L : List Prc) (c : Nat → Nat → Bool) (i : Nat) : Nat → Nat → Bool := fun j k => if j = i then F L c i k else c j k
def run (L : List Prc) (c : Nat → Nat → Bool) : Nat → (Nat → Nat → Bool)
  | 0 => c
  | i + 1 => stp L (run L c i) i
def rounds (L : List Prc) : Nat → (Nat → Nat → Bool)
  | 0 => fun _ _ => false
  | r + 1 => run L (rounds L r) L.length
def Le (c d : Nat → Nat → Bool) : Prop := ∀ j k, c j k = true → d j k = true
theorem Le.refl {c : Nat → Nat → Bool} : Le c c := fun _ _ h => h
theorem Le.trans {c d e : Nat → Nat → Bool} (x : Le c d) (y : Le d e) : Le c e := fun j k h => y j k (x j k h)
section
variable {L : List Prc}
theorem pos_iff {c : Nat → Nat → Bool} {j : Nat} {p : Str} : pos L c j p = true ↔ ∃ q k b, L[j]? = some q ∧ q.k.ps[k]? = some (p, b) ∧ c j k = true := by
  unfold pos
  constructor
  · intro h
    split at h
    · rename_i q hq
      rw [List.any_eq_true] at h
      obtain ⟨k, _, h⟩ := h
      simp only [Bool.and_eq_true, decide_eq_true_eq] at h
      obtain ⟨⟨y, b⟩, e1, e2⟩ := Option.map_eq_some_iff.mp h.2
      simp only at e2
      subst e2
      exact ⟨q, k, b, hq, e1, h.1⟩
    · cases h
  · rintro ⟨q, k, b, h1, h2, h3⟩
    rw [h1]
    simp only [List.any_eq_true]
    exact ⟨k, List.mem_range.mpr (List.getElem?_eq_some_iff.mp h2).1, by simp [h3, h2]⟩
theorem tch_iff {c : Nat → Nat → Bool} {b : List St} {x : Str} : tch L c b x = true ↔ x ∈ base b ∨ ∃ h ∈ hds L b, h.x = x ∧ pos L c h.j h.p = true := by
  unfold tch
  simp [List.any_eq_true]
theorem F_iff {c : Nat → Nat → Bool} {i k : Nat} : F L c i k = true ↔ ∃ p q, L[i]? = some p ∧ p.k.ps[k]? = some q ∧ tch L c p.body q.1 = true := by
  unfold F
  constructor
  · intro h
    split at h
    · rename_i p hp
      split at h
      · rename_i q hq
        exact ⟨p, q, hp, hq, h⟩
      · cases h
    · cases h
  · rintro ⟨p, q, h1, h2, h3⟩
    rw [h1]
    simp only [h2]
    exact h3
theorem pos_mono {c d : Nat → Nat → Bool} (h : Le c d) {j : Nat} {p : Str} (e : pos L c j p = true) : pos L d j p = true := by
  obtain ⟨q, k, b, h1, h2, h3⟩ := pos_iff.mp e
  exact pos_iff.mpr ⟨q, k, b, h1, h2, h _ _ h3⟩
theorem tch_mono {c d : Nat → Nat → Bool} (h : Le c d) {b : List St} {x : Str} (e : tch L c b x = true) : tch L d b x = true := by
  rcases tch_iff.mp e with m | ⟨y, m, e1, e2⟩
  · exact tch_iff.mpr (.inl m)
  · exact tch_iff.mpr (.inr ⟨y, m, e1, pos_mono h e2⟩)
theorem F_mono {c d : Nat → Nat → Bool} (h : Le c d) : Le (F L c) (F L d) := fun i k e => by
  obtain ⟨p, q, h1, h2, h3⟩ := F_iff.mp e
  exact F_iff.mpr ⟨p, q, h1, h2, tch_mono h h3⟩
theorem stp_le {c : Nat → Nat → Bool} (h : Le c (F L c)) (i : Nat) : Le c (stp L c i) := fun j k e => by
  unfold stp
  split
  · rename_i q; subst q; exact h _ _ e
  · exact e
theorem stp_pre {c : Nat → Nat → Bool} (h : Le c (F L c)) (i : Nat) : Le (stp L c i) (F L (stp L c i)) := fun j k e => by
  unfold stp at e
  split at e
  · rename_i q; subst q; exact F_mono (stp_le h j) _ _ e
  · exact F_mono (stp_le h i) _ _ (h _ _ e)
theorem run_pre {c : Nat → Nat → Bool} (h : Le c (F L c)) : ∀ i, Le c (run L c i) ∧ Le (run L c i) (F L (run L c i))
  | 0 => ⟨Le.refl, h⟩
  | i + 1 => by
    obtain ⟨h1, h2⟩ := run_pre h i
    exact ⟨h1.trans (stp_le h2 i), stp_pre h2 i⟩
theorem run_le {c : Nat → Nat → Bool} (h : Le c (F L c)) (i : Nat) : ∀ n, Le (run L c i) (run L c (i + n))
  | 0 => Le.refl
  | n + 1 => (run_le h i n).trans (stp_le (run_pre h (i + n)).2 (i + n))
theorem rounds_pre : ∀ r, Le (rounds L r) (F L (rounds L r))
  | 0 => fun _ _ h => by cases h
  | r + 1 => (run_pre (rounds_pre r) L.length).2
def np (L : List Prc) (j : Nat) : Nat := match L[j]? with
  | some p => p.k.ps.length
  | none => 0
/-- places of parameters -/
def prs (L : List Prc) : List (Nat × Nat) := (List.range L.length).flatMap fun j => (List.range (np L j)).map fun k => (j, k)
theorem prs_len (o : Ok L) : (prs L).length ≤ 15 := by
  unfold prs
  have key : ∀ l : List Nat, ((l.flatMap fun j => (List.range (np L j)).map fun k => (j, k)) : List (Nat × Nat)).length ≤ 5 * l.length := by
    intro l
    induction l with
    | nil => simp
    | cons a l ih =>
      rw [List.flatMap_cons, List.length_append, List.length_map, List.length_range, List.length_cons]
      have : np L a ≤ 5 := by
        unfold np
        cases e : L[a]? with
        | none => simp
        | some p => exact (o.ps p (List.mem_of_getElem? e)).1
      omega
  have := key (List.range L.length)
  rw [List.length_range] at this
  have := o.few
  omega
theorem mem_prs {j k : Nat} : (j, k) ∈ prs L ↔ ∃ p, L[j]? = some p ∧ k < p.k.ps.length := by
  unfold prs
  rw [List.mem_flatMap]
  constructor
  · rintro ⟨a, ha, h⟩
    obtain ⟨b, hb, e⟩ := List.mem_map.mp h
    cases e
    rw [List.mem_range] at ha hb
    unfold np at hb
    rw [List.getElem?_eq_getElem ha] at hb ⊢
    exact ⟨_, rfl, hb⟩
  · rintro ⟨p, h1, h2⟩
    exact ⟨j, List.mem_range.mpr (List.getElem?_eq_some_iff.mp h1).1, List.mem_map.mpr ⟨k, by rw [List.mem_range]; unfold np; rw [h1]; exact h2, rfl⟩⟩
theorem fl_le {α : Type} {a b : α → Bool} : ∀ {l : List α}, (∀ x ∈ l, a x = true → b x = true) → (l.filter a).length ≤ (l.filter b).length
  | [], _ => by simp
  | x :: l, h => by
    have ih := fl_le (a := a) (b := b) (l := l) fun y m => h y (List.mem_cons_of_mem _ m)
    have hx := h x List.mem_cons_self
    rw [List.filter_cons, List.filter_cons]
    split
    · rename_i c
      rw [hx c]
      simp; exact ih
    · split
      · simp; omega
      · exact ih
theorem fl_lt {α : Type} {a b : α → Bool} : ∀ {l : List α}, (∀ x ∈ l, a x = true → b x = true) → ∀ {y : α}, y ∈ l → a y = false → b y = true → (l.filter a).length < (l.filter b).length
  | x :: l, h, y, m, h1, h2 => by
    have h' : ∀ z ∈ l, a z = true → b z = true := fun z m => h z (List.mem_cons_of_mem _ m)
    rw [List.filter_cons, List.filter_cons]
    rcases List.mem_cons.mp m with rfl | m
    · rw [h1, h2]
      have := fl_le h'
      simp; omega
    · have ih := fl_lt h' m h1 h2
      have hx := h x List.mem_cons_self
      split
      · rename_i c
        rw [hx c]
        simp; exact ih
      · split
        · simp; omega
        · exact ih
def tot (L : List Prc) (c : Nat → Nat → Bool) : Nat := ((prs L).filter fun q => c q.1 q.2).length
def Out (L : List Prc) (c : Nat → Nat → Bool) : Prop := ∀ j k, c j k = true → (j, k) ∈ prs L
theorem F_out {c : Nat → Nat → Bool} : Out L (F L c) := fun j k h => by
  obtain ⟨p, q, h1, h2, _⟩ := F_iff.mp h
  exact mem_prs.mpr ⟨p, h1, (List.getElem?_eq_some_iff.mp h2).1⟩
theorem out_of {c : Nat → Nat → Bool} (h : Le c (F L c)) : Out L c := fun j k e => F_out j k (h j k e)
def Stable (L : List Prc) (c : Nat → Nat → Bool) : Prop := ∀ j k, F L c j k = c j k
theorem run_stable {c : Nat → Nat → Bool} (h : Stable L c) : ∀ i, run L c i = c
  | 0 => rfl
  | i + 1 => by
    show stp L (run L c i) i = c
    rw [run_stable h i]
    funext j k
    unfold stp
    split
    · rename_i e; subst e; exact h j k
    · rfl
theorem eq_of_le {c d : Nat → Nat → Bool} (x : Le c d) (y : Le d c) : c = d := by
  funext j k
  cases e : c j k with
  | true => rw [x j k e]
  | false => cases e' : d j k with
    | true => rw [y j k e'] at e; cases e
    | false => rfl
theorem round_more {c : Nat → Nat → Bool} (h : Le c (F L c)) : Stable L c ∨ tot L c < tot L (run L c L.length) := by
  cases Nat.lt_or_ge (tot L c) (tot L (run L c L.length)) with
  | inl q => exact .inr q
  | inr q =>
    left
    have le := run_le h 0 L.length
    rw [Nat.zero_add] at le
    have hd : Le (run L c L.length) c := fun j k e => by
      cases e' : c j k with
      | true => rfl
      | false =>
        have m := out_of (run_pre h L.length).2 j k e
        have := fl_lt (a := fun q : Nat × Nat => c q.1 q.2) (b := fun q : Nat × Nat => run L c L.length q.1 q.2) (fun x _ y => le _ _ y) m e' e
        unfold tot at q
        omega
    have all : ∀ i, i ≤ L.length → run L c i = c := fun i hi => by
      have a := run_le h i (L.length - i)
      rw [show i + (L.length - i) = L.length by omega] at a
      have b := run_le h 0 i
      rw [Nat.zero_add] at b
      exact (eq_of_le b (a.trans hd)).symm
    intro j k
    cases Nat.lt_or_ge j L.length with
    | inl hj =>
      have e1 := all (j + 1) hj
      have e2 := all j (by omega)
      have : stp L (run L c j) j = c := e1
      rw [e2] at this
      have := congrFun (congrFun this j) k
      unfold stp at this
      rw [if_pos rfl] at this
      exact this
    | inr hj =>
      have n : ¬ (j, k) ∈ prs L := fun m => by
        obtain ⟨p, hp, _⟩ := mem_prs.mp m
        rw [List.getElem?_eq_none hj] at hp
        cases hp
      have a : F L c j k = false := Bool.eq_false_iff.mpr fun e => n (F_out j k e)
      have b : c j k = false := Bool.eq_false_iff.mpr fun e => n (out_of h j k e)
      rw [a, b]
theorem rounds_far : ∀ r, Stable L (rounds L r) ∨ r ≤ tot L (rounds L r)
  | 0 => .inr (Nat.zero_le _)
  | r + 1 => by
    rcases rounds_far r with s | s
    · left
      show Stable L (run L (rounds L r) L.length)
      rw [run_stable s]; exact s
    · rcases round_more (rounds_pre (L := L) r) with z | z
      · left
        show Stable L (run L (rounds L r) L.length)
        rw [run_stable z]; exact z
      · right
        show r + 1 ≤ tot L (run L (rounds L r) L.length)
        omega
theorem rounds_stable (o : Ok L) : Stable L (rounds L 20) := by
  rcases rounds_far (L := L) 20 with s | s
  · exact s
  · have h1 : tot L (rounds L 20) ≤ (prs L).length := List.length_filter_le _ _
    have := prs_len o
    omega
/-! ### what they reach -/
def Sound (L : List Prc) (c : Nat → Nat → Bool) : Prop := ∀ j p, pos L c j p = true → C L j p
theorem tch_sound {c : Nat → Nat → Bool} (s : Sound L c) {i : Nat} {p : Prc} (hp : L[i]? = some p) {x : Str} (h : tch L c p.body x = true) : C L i x := by
  rcases tch_iff.mp h with m | ⟨y, m, rfl, e⟩
  · exact .base hp m
  · exact .call hp m (s _ _ e)
theorem stp_sound {c : Nat → Nat → Bool} (s : Sound L c) (i : Nat) : Sound L (stp L c i) := fun j p h => by
  obtain ⟨q, k, b, h1, h2, h3⟩ := pos_iff.mp h
  unfold stp at h3
  split at h3
  · rename_i e; subst e
    obtain ⟨p', q', e1, e2, e3⟩ := F_iff.mp h3
    rw [h1] at e1
    cases e1
    rw [h2] at e2
    cases e2
    exact tch_sound s h1 e3
  · exact s j p (pos_iff.mpr ⟨q, k, b, h1, h2, h3⟩)
theorem run_sound {c : Nat → Nat → Bool} (s : Sound L c) : ∀ i, Sound L (run L c i)
  | 0 => s
  | i + 1 => stp_sound (run_sound s i) i
theorem rounds_sound : ∀ r, Sound L (rounds L r)
  | 0 => fun j p h => by obtain ⟨_, _, _, _, _, h⟩ := pos_iff.mp h; cases h
  | r + 1 => run_sound (rounds_sound r) L.length
theorem stable_full (o : Ok L) {c : Nat → Nat → Bool} (s : Stable L c) {i : Nat} {x : Str} (h : C L i x) : pos L c i x = true := by
  induction h with
  | base hp m =>
    rename_i i p x
    obtain ⟨k, hk⟩ := List.mem_iff_getElem?.mp (mem_lists.mp (base_in (o.gd _ _ hp) _ m))
    refine pos_iff.mpr ⟨p, k, true, hp, hk, ?_⟩
    rw [← s]
    exact F_iff.mpr ⟨p, _, hp, hk, tch_iff.mpr (.inl m)⟩
  | call hp m _ ih =>
    rename_i i p y _
    obtain ⟨k, hk⟩ := List.mem_iff_getElem?.mp (mem_lists.mp (o.mem_hds (o.gd _ _ hp) m).2.1)
    refine pos_iff.mpr ⟨p, k, true, hp, hk, ?_⟩
    rw [← s]
    exact F_iff.mpr ⟨p, _, hp, hk, tch_iff.mpr (.inr ⟨y, m, rfl, ih⟩)⟩
/-- the law's sets are the least ones -/
theorem pos_C (o : Ok L) {j : Nat} {p : Str} : pos L (rounds L 20) j p = true ↔ C L j p := ⟨rounds_sound 20 j p, stable_full o (rounds_stable o)⟩
theorem at_C (o : Ok L) {j k : Nat} {p : Prc} {q : Str × Bool} (hp : L[j]? = some p) (hq : p.k.ps[k]? = some q) : rounds L 20 j k = true ↔ q.2 = true ∧ C L j q.1 := by
  constructor
  · intro h
    obtain ⟨x, b⟩ := q
    have c : C L j x := rounds_sound 20 j x (pos_iff.mpr ⟨p, k, b, hp, hq, h⟩)
    refine ⟨?_, c⟩
    obtain ⟨p', hp', m⟩ := c.in o
    rw [hp] at hp'
    cases hp'
    obtain ⟨k', hk'⟩ := List.mem_iff_getElem?.mp (mem_lists.mp m)
    have nd := (o.ps p (List.mem_of_getElem? hp)).2
    have e1 : (p.k.ps.map (·.1))[k]? = some x := by rw [List.getElem?_map, hq]; rfl
    have e2 : (p.k.ps.map (·.1))[k']? = some x := by rw [List.getElem?_map, hk']; rfl
    have l1 := (List.getElem?_eq_some_iff.mp e1).1
    have l2 := (List.getElem?_eq_some_iff.mp e2).1
    have : k = k' := by
      exact (List.getElem?_inj l1 nd).mp (by rw [e1, e2])
    subst this
    rw [hq] at hk'
    cases hk'
    rfl
  · rintro ⟨h1, h2⟩
    rw [← rounds_stable o]
    refine F_iff.mpr ⟨p, q, hp, hq, ?_⟩
    obtain ⟨p', hp', h2⟩ := h2.inv
    rw [hp] at hp'; cases hp'
    rcases h2 with m | ⟨y, m, e, c⟩
    · exact tch_iff.mpr (.inl m)
    · exact tch_iff.mpr (.inr ⟨_, m, e, (pos_C o).mpr c⟩)
end
theorem range_filter {α β : Type} (g : α → Bool) (f : α → β) (d : β) : ∀ l : List α, ((List.range l.length).filter fun k => (l[k]?).any g).map (fun k => ((l[k]?).map f).getD d) = (l.filter g).map f := by
  intro l
  induction l with
  | nil => rfl
  | cons a l ih =>
    rw [List.length_cons, List.range_succ_eq_map, List.filter_cons, List.filter_map, List.filter_cons]
    have e : (((List.range l.length).filter ((fun k => ((a :: l)[k]?).any g) ∘ Nat.succ)).map Nat.succ).map (fun k => (((a :: l)[k]?).map f).getD d) = (l.filter g).map f := by
      rw [List.map_map, ← ih]
      rfl
    have h0 : ((a :: l)[0]?).any g = g a := rfl
    rw [h0]
    split
    · rw [List.map_cons, List.map_cons, e]; rfl
    · exact e
end P8

set_option maxRecDepth 100000
set_option maxHeartbeats 400000
/-! What the program's changed_names finds: a dict of names, filled in passes. -/
namespace P8
open PySem L2 VL
def cB (L : List Prc) (j : Nat) (p : Str) : Bool := pos L (rounds L 20) j p
theorem cB_iff {L : List Prc} (o : Ok L) {j : Nat} {p : Str} : cB L j p = true ↔ C L j p := pos_C o
def addK (K : List Str) (x : Str) : List Str := if x ∈ K then K else K ++ [x]
theorem mem_addK {K : List Str} {x y : Str} : y ∈ addK K x ↔ y ∈ K ∨ y = x := by
  unfold addK
  split
  · rename_i h
    exact ⟨.inl, fun q => q.elim id fun e => e ▸ h⟩
  · simp
theorem addK_nd {K : List Str} {x : Str} (n : K.Nodup) : (addK K x).Nodup := by
  unfold addK
  split
  · exact n
  · rename_i h
    rw [List.nodup_append]
    refine ⟨n, by simp, fun a ha b hb => ?_⟩
    rw [List.mem_singleton.mp hb]
    intro e; subst e; exact h ha
theorem addK_len {K : List Str} {x : Str} : K.length ≤ (addK K x).length := by
  unfold addK
  split
  · exact Nat.le_refl _
  · simp
theorem addK_same {K : List Str} {x : Str} (h : x ∈ K) : addK K x = K := if_pos h
theorem addK_more {K : List Str} {x : Str} (h : ¬ x ∈ K) : (addK K x).length = K.length + 1 := by
  unfold addK
  rw [if_neg h]; simp
theorem nd_le : ∀ (l ns : List Str), l.Nodup → (∀ w ∈ l, w ∈ ns) → l.length ≤ ns.length
  | [], _, _, _ => Nat.zero_le _
  | w :: l, ns, hn, h => by
    rw [List.nodup_cons] at hn
    have e := nd_le l (ns.erase w) hn.2 fun v hv => (List.mem_erase_of_ne (fun z => by rw [z] at hv; exact hn.1 hv)).mpr (h v (List.mem_cons_of_mem _ hv))
    rw [List.length_erase_of_mem (h w List.mem_cons_self)] at e
    have := List.length_pos_of_mem (h w List.mem_cons_self)
    rw [List.length_cons]; omega
/-- a pass: what the test lets in is added -/
def pass {α : Type} (t : List Str → α → Bool) (f : α → Str) (K : List Str) (l : List α) : List Str := l.foldl (fun K a => if t K a = true then addK K (f a) else K) K
section
variable {α : Type} {t : List Str → α → Bool} {f : α → Str}
theorem pass_snoc {K : List Str} {l : List α} {a : α} : pass t f K (l ++ [a]) = if t (pass t f K l) a = true then addK (pass t f K l) (f a) else pass t f K l := by
  unfold pass
  rw [List.foldl_append]
  rfl
theorem pass_keep {l : List α} : ∀ {K : List Str}, ∀ x ∈ K, x ∈ pass t f K l := by
  induction l with
  | nil => intro K x h; exact h
  | cons a l ih =>
    intro K x h
    unfold pass at ih ⊢
    rw [List.foldl_cons]
    refine ih _ ?_
    split
    · exact mem_addK.mpr (.inl h)
    · exact h
theorem pass_nd {l : List α} : ∀ {K : List Str}, K.Nodup → (pass t f K l).Nodup := by
  induction l with
  | nil => intro K h; exact h
  | cons a l ih =>
    intro K h
    unfold pass at ih ⊢
    rw [List.foldl_cons]
    refine ih ?_
    split
    · exact addK_nd h
    · exact h
theorem pass_in {S : Str → Prop} {l : List α} : ∀ {K : List Str}, (∀ x ∈ K, S x) → (∀ K a, (∀ x ∈ K, S x) → a ∈ l → t K a = true → S (f a)) → ∀ x ∈ pass t f K l, S x := by
  induction l with
  | nil => intro K h _; exact h
  | cons a l ih =>
    intro K h hs
    unfold pass at ih ⊢
    rw [List.foldl_cons]
    refine ih ?_ fun K b hK m => hs K b hK (List.mem_cons_of_mem _ m)
    split
    · rename_i c
      intro x m
      rcases mem_addK.mp m with m | rfl
      · exact h x m
      · exact hs K a h List.mem_cons_self c
    · exact h
/-- a pass whose test looks at no names -/
theorem pass_flat {g : α → Bool} {l : List α} : ∀ {K : List Str} {x : Str}, x ∈ pass (fun _ => g) f K l ↔ x ∈ K ∨ ∃ a ∈ l, g a = true ∧ f a = x := by
  induction l with
  | nil => intro K x; simp [pass]
  | cons a l ih =>
    intro K x
    unfold pass at ih ⊢
    rw [List.foldl_cons, ih]
    by_cases c : g a = true
    · rw [if_pos c, mem_addK]
      constructor
      · rintro ((h | rfl) | ⟨b, m, h1, h2⟩)
        · exact .inl h
        · exact .inr ⟨a, List.mem_cons_self, c, rfl⟩
        · exact .inr ⟨b, List.mem_cons_of_mem _ m, h1, h2⟩
      · rintro (h | ⟨b, m, h1, h2⟩)
        · exact .inl (.inl h)
        · rcases List.mem_cons.mp m with rfl | m
          · exact .inl (.inr h2.symm)
          · exact .inr ⟨b, m, h1, h2⟩
    · rw [if_neg c]
      constructor
      · rintro (h | ⟨b, m, h1, h2⟩)
        · exact .inl h
        · exact .inr ⟨b, List.mem_cons_of_mem _ m, h1, h2⟩
      · rintro (h | ⟨b, m, h1, h2⟩)
        · exact .inl h
        · rcases List.mem_cons.mp m with rfl | m
          · exact absurd h1 c
          · exact .inr ⟨b, m, h1, h2⟩
/-- a pass that adds nothing found nothing to add -/
theorem pass_len {l : List α} : ∀ {K : List Str}, K.length ≤ (pass t f K l).length ∧ ((pass t f K l).length = K.length → pass t f K l = K ∧ ∀ a ∈ l, t K a = true → f a ∈ K) := by
  induction l with
  | nil => intro K; exact ⟨Nat.le_refl _, fun _ => ⟨rfl, nofun⟩⟩
  | cons a l ih =>
    intro K
    have e : pass t f K (a :: l) = pass t f (if t K a = true then addK K (f a) else K) l := rfl
    rw [e]
    by_cases c : t K a = true
    · rw [if_pos c]
      obtain ⟨h1, h2⟩ := ih (K := addK K (f a))
      refine ⟨Nat.le_trans addK_len h1, fun q => ?_⟩
      by_cases m : f a ∈ K
      · rw [addK_same m] at h1 h2 q ⊢
        obtain ⟨e1, e2⟩ := h2 q
        refine ⟨e1, fun b mb hb => ?_⟩
        rcases List.mem_cons.mp mb with rfl | mb
        · exact m
        · exact e2 b mb hb
      · have := addK_more m
        omega
    · rw [if_neg c]
      obtain ⟨h1, h2⟩ := ih (K := K)
      refine ⟨h1, fun q => ?_⟩
      obtain ⟨e1, e2⟩ := h2 q
      refine ⟨e1, fun b mb hb => ?_⟩
      rcases List.mem_cons.mp mb with rfl | mb
      · exact absurd hb c
      · exact e2 b mb hb
end
/-! ### changed_names -/
def tChg : List Str → St → Bool := fun _ s => (chgN s).isSome
def fChg : St → Str := fun s => (chgN s).getD ""
def tLow (L : List Prc) (i : Nat) : List Str → Hnd → Bool := fun _ h => decide (h.j ≠ i) && cB L h.j h.p
def tOwn (i : Nat) : List Str → Hnd → Bool := fun K h => decide (h.j = i) && decide (h.p ∈ K)
def nm1 (b : List St) : List Str := pass tChg fChg [] (flL b)
def nm2 (L : List Prc) (i : Nat) (b : List St) : List Str := pass (tLow L i) (·.x) (nm1 b) (hds L b)
def nmR (L : List Prc) (i : Nat) (b : List St) : Nat → List Str
  | 0 => nm2 L i b
  | r + 1 => pass (tOwn i) (·.x) (nmR L i b r) (hds L b)
theorem mem_nm1 {b : List St} {x : Str} : x ∈ nm1 b ↔ x ∈ base b := by
  unfold nm1
  rw [show (tChg : List Str → St → Bool) = fun _ => fun s => (chgN s).isSome from rfl, pass_flat]
  unfold base
  rw [List.mem_filterMap]
  constructor
  · rintro (h | ⟨a, m, h1, h2⟩)
    · cases h
    · refine ⟨a, m, ?_⟩
      obtain ⟨y, hy⟩ := Option.isSome_iff_exists.mp h1
      unfold fChg at h2
      rw [hy] at h2 ⊢
      rw [← h2]; rfl
  · rintro ⟨a, m, h⟩
    exact .inr ⟨a, m, by rw [h]; rfl, by unfold fChg; rw [h]; rfl⟩
theorem mem_nm2 {L : List Prc} {i : Nat} {b : List St} {x : Str} : x ∈ nm2 L i b ↔ x ∈ base b ∨ ∃ h ∈ hds L b, h.j ≠ i ∧ cB L h.j h.p = true ∧ h.x = x := by
  unfold nm2
  rw [show tLow L i = fun _ => fun h => decide (h.j ≠ i) && cB L h.j h.p from rfl, pass_flat, mem_nm1]
  simp only [Bool.and_eq_true, decide_eq_true_eq, and_assoc]
theorem nmR_nd {L : List Prc} {i : Nat} {b : List St} : ∀ r, (nmR L i b r).Nodup
  | 0 => pass_nd (pass_nd .nil)
  | r + 1 => pass_nd (nmR_nd r)
def ClO (L : List Prc) (i : Nat) (b : List St) (K : List Str) : Prop := ∀ h ∈ hds L b, h.j = i → h.p ∈ K → h.x ∈ K
theorem nmR_far {L : List Prc} {i : Nat} {b : List St} : ∀ r, ClO L i b (nmR L i b r) ∨ r + 1 ≤ (nmR L i b r).length
  | 0 => by
    by_cases e : (nmR L i b 0).length = 0
    · left
      intro h _ _ m
      rw [List.eq_nil_of_length_eq_zero e] at m
      cases m
    · right; omega
  | r + 1 => by
    obtain ⟨h1, h2⟩ := pass_len (t := tOwn i) (f := (·.x)) (K := nmR L i b r) (l := hds L b)
    show ClO L i b (pass (tOwn i) (·.x) (nmR L i b r) (hds L b)) ∨ r + 1 + 1 ≤ (pass (tOwn i) (·.x) (nmR L i b r) (hds L b)).length
    by_cases e : (pass (tOwn i) (·.x) (nmR L i b r) (hds L b)).length = (nmR L i b r).length
    · left
      obtain ⟨e1, e2⟩ := h2 e
      rw [e1]
      intro h m hj hp
      refine e2 h m ?_
      unfold tOwn
      simp [hj, hp]
    · rcases nmR_far (L := L) (i := i) (b := b) r with s | s
      · exfalso
        apply e
        have : ∀ l, (∀ h ∈ l, h ∈ hds L b) → pass (tOwn i) (·.x) (nmR L i b r) l = nmR L i b r := by
          intro l
          induction l with
          | nil => intro _; rfl
          | cons a l ih =>
            intro hl
            show pass (tOwn i) (·.x) (if tOwn i (nmR L i b r) a = true then addK (nmR L i b r) a.x else nmR L i b r) l = _
            have e : (if tOwn i (nmR L i b r) a = true then addK (nmR L i b r) a.x else nmR L i b r) = nmR L i b r := by
              split
              · rename_i c
                unfold tOwn at c
                simp only [Bool.and_eq_true, decide_eq_true_eq] at c
                exact addK_same (s a (hl a (by simp)) c.1 c.2)
              · rfl
            rw [e]
            exact ih fun h m => hl h (List.mem_cons_of_mem _ m)
        rw [this _ fun _ m => m]
      · right; omega
theorem nmR_low {L : List Prc} (o : Ok L) {i : Nat} {p : Prc} (hp : L[i]? = some p) : ∀ r, ∀ x ∈ nmR L i p.body r, C L i x
  | 0 => fun x m => by
    rcases mem_nm2.mp m with m1 | ⟨h, m1, _, e, rfl⟩
    · exact .base hp m1
    · exact .call hp m1 ((cB_iff o).mp e)
  | r + 1 => pass_in (nmR_low o hp r) fun K h hK m e => by
    unfold tOwn at e
    simp only [Bool.and_eq_true, decide_eq_true_eq] at e
    refine .call hp m ?_
    rw [e.1]
    exact hK _ e.2
theorem nmR_base {L : List Prc} {i : Nat} {b : List St} {x : Str} (h : x ∈ nm2 L i b) : ∀ r, x ∈ nmR L i b r
  | 0 => h
  | r + 1 => pass_keep _ (nmR_base h r)
theorem mem_nmR {L : List Prc} (o : Ok L) {i : Nat} {p : Prc} (hp : L[i]? = some p) {x : Str} : x ∈ nmR L i p.body p.lists.length ↔ C L i x := by
  constructor
  · exact nmR_low o hp _ x
  · have cl : ClO L i p.body (nmR L i p.body p.lists.length) := by
      rcases nmR_far (L := L) (i := i) (b := p.body) p.lists.length with s | s
      · exact s
      · exfalso
        have := nd_le _ p.lists (nmR_nd (L := L) (i := i) (b := p.body) p.lists.length) fun w m => by
          obtain ⟨p', hp', m⟩ := (nmR_low o hp _ w m).in o
          rw [hp] at hp'; cases hp'; exact m
        omega
    intro c
    have key : ∀ j y, C L j y → j = i → y ∈ nmR L i p.body p.lists.length := by
      intro j y c
      induction c with
      | base h m => intro e; subst e; rw [hp] at h; cases h; exact nmR_base (mem_nm2.mpr (.inl m)) _
      | call h m c' ih =>
        rename_i j q y
        intro e; subst e; rw [hp] at h; cases h
        by_cases e : y.j = j
        · exact cl y m e (ih e)
        · exact nmR_base (mem_nm2.mpr (.inr ⟨y, m, e, (cB_iff o).mpr c', rfl⟩)) _
    exact key i x c rfl
/-! ### the dict -/
def dk (K : List Str) : List (Key × AV) := K.map fun x => (.inr x, .bl true)
theorem dk_get {K : List Str} {x : Str} : (getD (dk K) (.inr x)).isSome = decide (x ∈ K) := by
  unfold getD dk
  induction K with
  | nil => rfl
  | cons a K ih =>
    rw [List.map_cons, List.find?_cons]
    by_cases e : a = x
    · subst e; simp
    · have : decide ((Sum.inr a : Key) = Sum.inr x) = false := by simp [e]
      simp only [this]
      rw [ih]
      simp [Ne.symm e]
theorem dk_put {K : List Str} {x : Str} : putD (dk K) (.inr x) (.bl true) = dk (addK K x) := by
  unfold putD addK
  have ha : ((dk K).any fun kv => decide (kv.1 = (Sum.inr x : Key))) = decide (x ∈ K) := by
    unfold dk
    rw [List.any_map]
    induction K with
    | nil => rfl
    | cons a K ih =>
      rw [List.any_cons, ih]
      by_cases e : a = x
      · subst e; simp
      · simp [e, Ne.symm e]
  rw [ha]
  by_cases m : x ∈ K
  · rw [if_pos (by simpa using m), if_pos m]
    unfold dk
    rw [List.map_map]
    refine List.map_congr_left fun a _ => ?_
    show (if (Sum.inr a : Key) = Sum.inr x then ((Sum.inr a : Key), AV.bl true) else (Sum.inr a, AV.bl true)) = _
    split <;> rfl
  · rw [if_neg (by simpa using m), if_neg m]
    unfold dk
    rw [List.map_append]; rfl
theorem dk_len {K : List Str} : (dk K).length = K.length := by unfold dk; rw [List.length_map]
/-! ### changed_in -/
def nmI (L : List Prc) (i : Nat) (b : List St) : List Str := pass (fun _ h => decide (h.j = i) && cB L h.j h.p) (·.x) (nm2 L i b) (hds L b)
theorem mem_nmI {L : List Prc} {i : Nat} {b : List St} {x : Str} : x ∈ nmI L i b ↔ tch L (rounds L 20) b x = true := by
  unfold nmI
  rw [show (fun (_ : List Str) (h : Hnd) => decide (h.j = i) && cB L h.j h.p) = fun _ => fun h => decide (h.j = i) && cB L h.j h.p from rfl, pass_flat, mem_nm2, tch_iff]
  simp only [Bool.and_eq_true, decide_eq_true_eq]
  constructor
  · rintro ((h | ⟨h, m, _, e, rfl⟩) | ⟨h, m, ⟨_, e⟩, rfl⟩)
    · exact .inl h
    · exact .inr ⟨h, m, rfl, e⟩
    · exact .inr ⟨h, m, rfl, e⟩
  · rintro (h | ⟨h, m, rfl, e⟩)
    · exact .inl (.inl h)
    · by_cases c : h.j = i
      · exact .inr ⟨h, m, ⟨c, e⟩, rfl⟩
      · exact .inl (.inr ⟨h, m, c, e, rfl⟩)
end P8

set_option maxRecDepth 100000
set_option maxHeartbeats 4000000
namespace Ga
open PySem L2 VL P8
local macro_rules
  | `(tactic| push_cast [$xs,*]) => `(tactic| try simp only [$xs,*, WpSs, WpS, WpE, WpEs, WpBs, WpO, WpN, WpI, WpC, WpT, getS, setS, tgK, setsS, wipeS, k_add, k_addT, k_sub, k_mul, k_fdiv, k_mod, k_neg, k_lt, k_le, k_gt, k_ge, k_eqI, k_neI, k_eqS, k_neS, k_eqB, k_neB, k_is, k_isn, k_isB, k_isnB, k_gIn, ctx_gdct, isNon_non, isNon_int, isNon_str, isNon_lst, isNon_tup, isNon_adr, k_lenS, k_lenL, k_lenR, k_lenT, k_int, k_str, k_abs, tru_bl, augK, ctx_call, ctx_glob, k_in, k_nin, k_inS, k_addS, k_intB, isi_non_int, isi_non_bool, isi_non_str, isi_non_list, isi_non_tuple, isi_bl_int, isi_bl_bool, isi_bl_str, isi_bl_list, isi_bl_tuple, isi_int_int, isi_int_bool, isi_int_str, isi_int_list, isi_int_tuple, isi_str_int, isi_str_bool, isi_str_str, isi_str_list, isi_str_tuple, isi_tup_int, isi_tup_bool, isi_tup_str, isi_tup_list, isi_tup_tuple, isi_lst_int, isi_lst_bool, isi_lst_str, isi_lst_list, isi_lst_tuple, isi_ro_int, isi_ro_bool, isi_ro_str, isi_ro_list, isi_ro_tuple, zs_lst, zs_tup, viewE_lst, viewE_tup])
open Hd (Hx view_adr cells_put cells_set cells_app cells_pos take_ok)
open TvL (Pl Cm Cd)
theorem sz100 : 100 ≤ sizeLine := by decide
theorem sz {n : Nat} (h : n ≤ 100) : n ≤ sizeLine := Nat.le_trans h sz100
theorem viewT_ns {h : AHeap} {x : AV} {xs : List AV} (hv : viewT h x = some xs) : ∀ z, x ≠ .str z := fun z e => by subst e; cases hv
theorem k_subV {h : AHeap} {x : AV} {xs : List AV} {d : AV} {j : Nat} {Q : KA} (hv : viewT h x = some xs) (e : xs[j]? = some d) (q : Q d) : subK h x (.int (j : Int)) Q := by
  have hj := (List.getElem?_eq_some_iff.mp e).1
  exact k_subL hv (viewT_ns hv) (by rw [atI_nat hj]; exact e) q
theorem k_lenV {h : AHeap} {x : AV} {xs : List AV} {Q : KA} (e : viewT h x = some xs) (q : Q (.int xs.length)) : bltK h .len [x] Q := by
  have hn := viewT_ns e
  unfold bltK
  split
  · rename_i b vs z heq
    cases heq
    exact absurd rfl (hn _)
  · rename_i heq
    cases heq
    rw [e]
    exact q
  all_goals (rename_i heq; first | (cases heq; done) | skip)
  all_goals simp_all
theorem pick {h : AHeap} {x : AV} {xs : List AV} {j : Nat} {Q : KA} (hv : viewT h x = some xs) (hj : j < xs.length) (q : ∀ d ∈ xs, Q d) : subK h x (.int (j : Int)) Q :=
  k_subV hv (List.getElem?_eq_getElem hj) (q _ (List.getElem_mem hj))
def sl (ls : List Str) : List AV := ls.map .str
theorem mem_sl {ls : List Str} {d : AV} (m : d ∈ sl ls) : ∃ x ∈ ls, d = .str x := by
  obtain ⟨x, hx, e⟩ := List.mem_map.mp m
  exact ⟨x, hx, e.symm⟩
def pv (p : Str × Bool) : AV := .tup [.str p.1, .bl p.2]
def knv (K : Kn × List Str) : AV := .tup [.str K.1.name, .tup (K.1.ps.map pv), .tup (sl K.2)]
/-- what the generator is in: lists, numbers, procedures above, lets, moved lists -/
structure G where
  Ls : List Str
  Ns : List Str
  kn : List (Kn × List Str)
  l2 : List Str
  mv : List Str
  b : Bool
/-- its cells -/
structure Cx (h : AHeap) (c k r : Nat) (g : G) : Prop where
  c : cells h c = .lst [.lst (sl g.Ls), .lst (sl g.Ns), .adr k, .lst (sl g.l2), .lst (sl g.mv), .adr r, .bl g.b]
  k : cells h k = .lst (g.kn.map knv)
  l2 : g.l2.length = 2
  wf : g.b = true → ∀ x ∈ g.l2, x ∈ g.Ns
theorem Cx.cl {h : AHeap} {c k r : Nat} {g : G} (x : Cx h c k r g) : c < h.length := cells_pos x.c (fun z => by cases z)
theorem Cx.kl {h : AHeap} {c k r : Nat} {g : G} (x : Cx h c k r g) : k < h.length := cells_pos x.k (fun z => by cases z)
theorem Cx.step {h h' : AHeap} {a c k r : Nat} {g : G} (x : Cx h c k r g) (hc : c ≠ a) (hk : k ≠ a) (y : Hx a h h') : Cx h' c k r g :=
  ⟨(y.keep _ x.cl hc).trans x.c, (y.keep _ x.kl hk).trans x.k, x.l2, x.wf⟩
section
variable {P : Prg} [Hd.U P] [U P] {n a c k r : Nat} {h : AHeap} {g : G} {Q : AV → AHeap → Prop}
theorem c0 {Q : KA} (x : Cx h c k r g) (q : Q (.lst (sl g.Ls))) : subK h (.adr c) (.int 0) Q := k_subL (view_adr x.c) (fun _ z => by cases z) rfl q
theorem c1 {Q : KA} (x : Cx h c k r g) (q : Q (.lst (sl g.Ns))) : subK h (.adr c) (.int 1) Q := k_subL (view_adr x.c) (fun _ z => by cases z) rfl q
theorem c2 {Q : KA} (x : Cx h c k r g) (q : Q (.adr k)) : subK h (.adr c) (.int 2) Q := k_subL (view_adr x.c) (fun _ z => by cases z) rfl q
theorem c3 {Q : KA} (x : Cx h c k r g) (q : Q (.lst (sl g.l2))) : subK h (.adr c) (.int 3) Q := k_subL (view_adr x.c) (fun _ z => by cases z) rfl q
theorem c4 {Q : KA} (x : Cx h c k r g) (q : Q (.lst (sl g.mv))) : subK h (.adr c) (.int 4) Q := k_subL (view_adr x.c) (fun _ z => by cases z) rfl q
theorem c5 {Q : KA} (x : Cx h c k r g) (q : Q (.adr r)) : subK h (.adr c) (.int 5) Q := k_subL (view_adr x.c) (fun _ z => by cases z) rfl q
theorem c6 {Q : KA} (x : Cx h c k r g) (q : Q (.bl g.b)) : subK h (.adr c) (.int 6) Q := k_subL (view_adr x.c) (fun _ z => by cases z) rfl q
/-- a number drawn, by its remainder's number -/
theorem div_nat (r m : Nat) : ((r : Int) / (m : Int)) = ((r / m : Nat) : Int) := by omega
theorem pickS {h : AHeap} {x : AV} {ls : List Str} {j : Nat} {Q : KA} (hv : viewT h x = some (sl ls)) (hj : j < ls.length) (q : ∀ d ∈ ls, Q (.str d)) : subK h x (.int (j : Int)) Q :=
  pick hv (by simpa [sl] using hj) fun d m => by obtain ⟨x, hx, rfl⟩ := mem_sl m; exact q x hx
theorem pickI {h : AHeap} {xs : List AV} {j : Nat} {Q : KA} (hj : j < xs.length) (hi : ∀ d ∈ xs, ∃ i, d = .int i) (q : ∀ i, Q (.int i)) : subK h (.lst xs) (.int (j : Int)) Q :=
  pick viewT_lst hj fun d m => by obtain ⟨i, rfl⟩ := hi d m; exact q i
theorem four : ∀ d ∈ [AV.int 0, .int 0, .int 1, .int (-1)], ∃ i, d = .int i := by
  intro d m
  simp only [List.mem_cons, List.not_mem_nil, or_false] at m
  rcases m with rfl | rfl | rfl | rfl <;> exact ⟨_, rfl⟩
theorem four' : ∀ d ∈ [AV.int 0, .int 0, .int 1, .int (-2)], ∃ i, d = .int i := by
  intro d m
  simp only [List.mem_cons, List.not_mem_nil, or_false] at m
  rcases m with rfl | rfl | rfl | rfl <;> exact ⟨_, rfl⟩
theorem plain_ok (hd : Hd.Hnd a h) (x : Cx h c k r g) (hc : c ≠ a) (hk : k ≠ a) (q : ∀ p : Pl, p.Ok g.Ns g.Ls → ∀ h', Hx a h h' → Q p.av h') : callN P (n+2) 268 [.adr a, .adr c] h Q := by
  refine call_of U.f__law_gen_plain rfl ?_
  show WpSs (ctxOf P (callN P (n+1))) b_law_gen_plain _ [.val (.adr a), .val (.adr c), .no, .no, .no] h
  push_cast [b_law_gen_plain]
  refine c0 x (c1 x ?_)
  push_cast [WpSs]
  refine take_ok hd (by decide) fun k1 h1 x1 l1 => ?_
  have len : ∀ ls : List Str, ((sl ls).length : Int) = (ls.length : Int) := fun ls => by simp [sl]
  have p2 : g.Ls.length ≠ 0 ∨ ¬ (k1 = 2) → WpSs (ctxOf P (callN P (n+1))) b_law_gen_plain_3 { nx := fun _ h => Q .non h, rt := Q } [.val (.adr a), .val (.adr c), .val (.lst (sl g.Ls)), .val (.lst (sl g.Ns)), .val (.int (k1 : Int))] h1 := by
    intro hz
    push_cast [b_law_gen_plain_3]
    refine ite_b (fun cc => ?_) (fun cc => ?_)
    · have e : k1 = 2 := by omega
      have hl : g.Ls.length ≠ 0 := by rcases hz with z | z; exact z; exact absurd e z
      rw [len]
      refine take_ok x1.hand (by omega) fun k2 h2 x2 l2 => ?_
      refine pickS viewT_lst (by omega) fun d hm => ?_
      push_cast [WpSs]
      refine take_ok x2.hand (by decide) fun k3 h3 x3 l3 => ?_
      exact ⟨sz (by simp), q (.len d _) hm _ ((x1.trans x2).trans x3)⟩
    · push_cast [b_law_gen_plain_2]
      rw [len]
      refine ite_b (fun cc => ?_) (fun cc => ?_)
      · exact ⟨sz (by simp), q (.num 0) trivial _ x1⟩
      · push_cast [b_law_gen_plain_1]
        rw [len]
        refine take_ok x1.hand (by omega) fun k2 h2 x2 l2 => ?_
        refine pickS viewT_lst (by omega) fun d hm => ?_
        push_cast [WpSs]
        refine ⟨sz (by simp), take_ok x2.hand (by decide) fun k3 h3 x3 l3 => ?_⟩
        refine pickI (by show k3 < 4; omega) four fun i => ?_
        exact ⟨sz (by simp), q (.var d i) hm _ ((x1.trans x2).trans x3)⟩
  have num : WpSs (ctxOf P (callN P (n+1))) (.cons (.ret (.tup (.cons (.cstr "num") (.cons (.sub (.fz (.lst (.cons (.bin .Sub (.call 20 (.cons (.var 0) (.cons (.cint 7) .nil))) (.cint 2)) (.cons (.bin .Sub (.call 20 (.cons (.var 0) (.cons (.cint 199) .nil))) (.cint 99)) .nil)))) (.bin .FloorDiv (.call 20 (.cons (.var 0) (.cons (.cint 5) .nil))) (.cint 4))) .nil)))) .nil) { nx := WpSs (ctxOf P (callN P (n+1))) b_law_gen_plain_3 { nx := fun _ h => Q .non h, rt := Q }, rt := Q } [.val (.adr a), .val (.adr c), .val (.lst (sl g.Ls)), .val (.lst (sl g.Ns)), .val (.int (k1 : Int))] h1 := by
    push_cast [WpSs]
    refine take_ok x1.hand (by decide) fun k2 h2 x2 l2 => ?_
    push_cast [WpSs]
    refine take_ok x2.hand (by decide) fun k3 h3 x3 l3 => ?_
    push_cast [WpSs]
    refine ⟨sz (by simp), ?_⟩
    refine take_ok x3.hand (by decide) fun k4 h4 x4 l4 => ?_
    push_cast [WpSs]
    refine ⟨divA (by decide) (by decide), ?_⟩
    have e : ((k4 : Int) / 4) = ((k4 / 4 : Nat) : Int) := by omega
    rw [e]
    refine pickI (by show k4 / 4 < 2; omega) (fun d m => by simp only [List.mem_cons, List.not_mem_nil, or_false] at m; rcases m with rfl | rfl <;> exact ⟨_, rfl⟩) fun i => ?_
    exact ⟨sz (by simp), q (.num i) trivial _ (((x1.trans x2).trans x3).trans x4)⟩
  push_cast [WpSs]
  refine ite_b (fun c1 => num) (fun c1 => ite_b (fun c2 => ?_) fun c2 => p2 (.inr (by omega)))
  rw [len]
  exact ite_b (fun c3 => num) fun c3 => p2 (.inl (by omega))
end
end Ga

set_option maxRecDepth 100000
set_option maxHeartbeats 4000000
namespace Ga
open PySem L2 VL P8
local macro_rules
  | `(tactic| push_cast [$xs,*]) => `(tactic| try simp only [$xs,*, WpSs, WpS, WpE, WpEs, WpBs, WpO, WpN, WpI, WpC, WpT, getS, setS, tgK, setsS, wipeS, k_add, k_addT, k_sub, k_mul, k_fdiv, k_mod, k_neg, k_lt, k_le, k_gt, k_ge, k_eqI, k_neI, k_eqS, k_neS, k_eqB, k_neB, k_is, k_isn, k_isB, k_isnB, k_gIn, ctx_gdct, isNon_non, isNon_int, isNon_str, isNon_lst, isNon_tup, isNon_adr, k_lenS, k_lenL, k_lenR, k_lenT, k_int, k_str, k_abs, tru_bl, augK, ctx_call, ctx_glob, k_in, k_nin, k_inS, k_addS, k_intB, isi_non_int, isi_non_bool, isi_non_str, isi_non_list, isi_non_tuple, isi_bl_int, isi_bl_bool, isi_bl_str, isi_bl_list, isi_bl_tuple, isi_int_int, isi_int_bool, isi_int_str, isi_int_list, isi_int_tuple, isi_str_int, isi_str_bool, isi_str_str, isi_str_list, isi_str_tuple, isi_tup_int, isi_tup_bool, isi_tup_str, isi_tup_list, isi_tup_tuple, isi_lst_int, isi_lst_bool, isi_lst_str, isi_lst_list, isi_lst_tuple, isi_ro_int, isi_ro_bool, isi_ro_str, isi_ro_list, isi_ro_tuple, zs_lst, zs_tup, viewE_lst, viewE_tup])
open Hd (Hx view_adr cells_put cells_set cells_app cells_pos take_ok)
open TvL (Pl Cm Cd)
theorem sl_len (ls : List Str) : (sl ls).length = ls.length := by simp [sl]
theorem any_sl (x : Str) : ∀ ls : List Str, ((sl ls).any fun y => eqF y (.str x)) = decide (x ∈ ls)
  | [] => rfl
  | y :: ls => by
    show (eqF (.str y) (.str x) || (sl ls).any fun y => eqF y (.str x)) = _
    rw [any_sl x ls]
    show ((y == x) || decide (x ∈ ls)) = _
    by_cases c : y = x
    · subst c; simp
    · have : x ≠ y := fun e => c e.symm
      simp [c, this]
theorem all_sl : ∀ ls : List Str, (sl ls).all flatA = true
  | [] => rfl
  | _ :: ls => all_sl ls
theorem k_inT {h : AHeap} {x : Str} {y : AV} {ls : List Str} {Q : KA} (hv : viewT h y = some (sl ls)) (q : Q (.bl (decide (x ∈ ls)))) : inK h false (.str x) y Q :=
  k_inF rfl hv (all_sl ls) (viewT_ns hv) (by rw [any_sl]; exact q)
theorem k_ninT {h : AHeap} {x : Str} {y : AV} {ls : List Str} {Q : KA} (hv : viewT h y = some (sl ls)) (q : Q (.bl (!decide (x ∈ ls)))) : inK h true (.str x) y Q :=
  k_inF rfl hv (all_sl ls) (viewT_ns hv) (by rw [any_sl]; exact q)
theorem erase_sl : ∀ (ls : List Str) (j : Nat), (sl ls).eraseIdx j = sl (ls.eraseIdx j)
  | [], j => by simp [sl]
  | a :: r, 0 => rfl
  | a :: r, j + 1 => by
    have ih := erase_sl r j
    unfold sl at ih ⊢
    rw [List.map_cons, List.eraseIdx_cons_succ, List.eraseIdx_cons_succ, List.map_cons, ih]
theorem erase_in {ls : List Str} {x : Str} (m : x ∈ ls) : ∃ j, (sl ls).findIdx? (fun z => eqF z (.str x)) = some j ∧ ∃ l, (sl ls).eraseIdx j = sl l ∧ ∀ y ∈ l, y ∈ ls := by
  cases e : (sl ls).findIdx? (fun z => eqF z (.str x)) with
  | none =>
    rw [List.findIdx?_eq_none_iff] at e
    have := e (.str x) (List.mem_map.mpr ⟨x, m, rfl⟩)
    simp [eqF] at this
  | some j =>
    refine ⟨j, rfl, ls.eraseIdx j, ?_, fun y hy => List.mem_of_mem_eraseIdx hy⟩
    exact erase_sl ls j
section
variable {P : Prg} [Hd.U P] [U P] {n a c k r : Nat} {h : AHeap} {g : G} {Q : AV → AHeap → Prop}
theorem index_ok {s : Str} (hs : s ∈ g.Ls) (hb : g.b = true) (hd : Hd.Hnd a h) (x : Cx h c k r g) (hc : c ≠ a) (hk : k ≠ a) (q : ∀ p : Pl, p.Ok g.Ns g.Ls → ∀ h', Hx a h h' → Q p.av h') : callN P (n+3) 269 [.adr a, .adr c, .str s] h Q := by
  refine call_of U.f__law_gen_index rfl ?_
  show WpSs (ctxOf P (callN P (n+2))) b_law_gen_index _ [.val (.adr a), .val (.adr c), .val (.str s), .no] h
  push_cast [b_law_gen_index]
  refine take_ok hd (by decide) fun k1 h1 x1 l1 => ?_
  push_cast [WpSs]
  refine ite_b (fun _ => ?_) (fun _ => ?_)
  · refine take_ok x1.hand (by decide) fun k2 h2 x2 l2 => ?_
    exact ⟨sz (by simp), q (.num k2) trivial _ (x1.trans x2)⟩
  · push_cast [b_law_gen_index_3]
    refine ite_b (fun _ => ?_) (fun _ => ?_)
    · refine take_ok x1.hand (by decide) fun k2 h2 x2 l2 => ?_
      exact ⟨sz (by simp), q (.len s _) hs _ (x1.trans x2)⟩
    · push_cast [b_law_gen_index_2]
      refine ite_b (fun _ => ?_) (fun _ => ?_)
      · have y := x.step hc hk x1
        refine c3 y ?_
        refine take_ok x1.hand (by decide) fun k2 h2 x2 l2 => ?_
        refine pickS viewT_lst (by rw [y.l2]; omega) fun d m => ?_
        exact ⟨sz (by simp), q (.var d 0) (y.wf hb d m) _ (x1.trans x2)⟩
      · push_cast [b_law_gen_index_1]
        exact plain_ok x1.hand (x.step hc hk x1) hc hk fun p hp h2 x2 => q p hp h2 (x1.trans x2)
theorem term_ok (hd : Hd.Hnd a h) (x : Cx h c k r g) (hc : c ≠ a) (hk : k ≠ a) (q : ∀ p : TvL.Tm, p.Ok g.Ns g.Ls → ∀ h', Hx a h h' → Q p.av h') : callN P (n+4) 270 [.adr a, .adr c] h Q := by
  refine call_of U.f__law_gen_term rfl ?_
  show WpSs (ctxOf P (callN P (n+3))) b_law_gen_term _ [.val (.adr a), .val (.adr c), .no, .no] h
  have pl : ∀ {h1 : AHeap}, Hx a h h1 → callN P (n+3) 268 [.adr a, .adr c] h1 Q := fun {h1} x1 =>
    plain_ok x1.hand (x.step hc hk x1) hc hk fun p hp h2 x2 => q (.pl p) hp h2 (x1.trans x2)
  push_cast [b_law_gen_term]
  refine c0 x ?_
  have len : ∀ ls : List Str, ((sl ls).length : Int) = (ls.length : Int) := fun ls => by simp [sl]
  push_cast [len]
  refine ite_b (fun _ => pl (.refl hd)) (fun c1 => ?_)
  refine take_ok hd (by decide) fun k1 h1 x1 l1 => ?_
  push_cast [WpSs]
  refine ite_b (fun _ => pl x1) (fun _ => ?_)
  push_cast [b_law_gen_term_2]
  have y1 := x.step hc hk x1
  refine c0 y1 (c0 y1 ?_)
  push_cast [len]
  refine take_ok x1.hand (by omega) fun k2 h2 x2 l2 => ?_
  refine pickS viewT_lst (by omega) fun s hs => ?_
  push_cast [WpSs]
  refine take_ok x2.hand (by decide) fun k3 h3 x3 l3 => ?_
  refine ⟨sz (by simp), ?_⟩
  have x13 := (x1.trans x2).trans x3
  have y3 := x.step hc hk x13
  have fin : ∀ {h4 : AHeap} {p : Pl}, p.Ok g.Ns g.Ls → Hx a h h4 → WpSs (ctxOf P (callN P (n+3))) b_law_gen_term_1 { nx := fun _ h => Q .non h, rt := Q } [.val (.adr a), .val (.adr c), .val (.str s), .val p.av] h4 := by
    intro h4 p hp x4
    push_cast [b_law_gen_term_1]
    refine ⟨sz (by simp), sz (by simp), ?_⟩
    refine take_ok x4.hand (by decide) fun k5 h5 x5 l5 => ?_
    refine pickI (by show k5 < 4; omega) four' fun i => ?_
    exact ⟨sz (by simp), q (.cell s false p i) ⟨hs, hp⟩ _ (x4.trans x5)⟩
  refine c6 y3 ?_
  push_cast [WpSs]
  refine ite_p (fun e => ?_) (fun _ => fin (p := .num k3) trivial x13)
  refine index_ok hs e x13.hand y3 hc hk fun p hp h4 x4 => ?_
  exact fin hp (x13.trans x4)
theorem sg_at : ∀ j : Nat, j < 6 → ([.str "<", .str "<=", .str ">", .str ">=", .str "==", .str "!="] : List AV)[j]? = some (.str (TvL.sgS j))
  | 0, _ => rfl
  | 1, _ => rfl
  | 2, _ => rfl
  | 3, _ => rfl
  | 4, _ => rfl
  | 5, _ => rfl
  | _ + 6, h => by omega
theorem cmp_ok (hd : Hd.Hnd a h) (x : Cx h c k r g) (hc : c ≠ a) (hk : k ≠ a) (q : ∀ p : Cm, p.Ok g.Ns g.Ls → ∀ h', Hx a h h' → Q p.av h') : callN P (n+5) 271 [.adr a, .adr c] h Q := by
  refine call_of U.f__law_gen_cmp rfl ?_
  show WpSs (ctxOf P (callN P (n+4))) b_law_gen_cmp _ [.val (.adr a), .val (.adr c), .no] h
  push_cast [b_law_gen_cmp]
  refine ⟨sz (by simp), take_ok hd (by decide) fun k1 h1 x1 l1 => ?_⟩
  have l1' : k1 < 6 := by omega
  refine k_subV viewT_lst (sg_at k1 l1') ?_
  push_cast [WpSs]
  refine term_ok x1.hand (x.step hc hk x1) hc hk fun p hp h2 x2 => ?_
  refine term_ok x2.hand (x.step hc hk (x1.trans x2)) hc hk fun p' hp' h3 x3 => ?_
  exact ⟨sz (by simp), q ⟨k1, p, p'⟩ ⟨l1', hp, hp'⟩ _ ((x1.trans x2).trans x3)⟩
/-- a condition that is made here -/
def CD (g : G) (C : AV) : Prop := ∃ f, Cd g.Ns g.Ls 3 C f
def cmpF (c : Cm) : AV × (TvL.Stt → Bool) := (c.av, fun st => c.v st)
theorem cd_cmp {nN lN : List Str} {c : Cm} (h : c.Ok nN lN) (k : Nat) : Cd nN lN k c.av (fun st => c.v st) := .pr (.cmp c) h
theorem cd_two {nN lN : List Str} {c1 c2 : Cm} (h1 : c1.Ok nN lN) (h2 : c2.Ok nN lN) (k : Nat) : ∀ p ∈ [cmpF c1, cmpF c2], Cd nN lN k p.1 p.2 := by
  intro p m
  simp only [List.mem_cons, List.not_mem_nil, or_false] at m
  rcases m with rfl | rfl
  · exact cd_cmp h1 k
  · exact cd_cmp h2 k
def andor (j : Nat) : Str := if j = 0 then "and" else "or"
theorem ao_at : ∀ j : Nat, j < 2 → ([.str "and", .str "or"] : List AV)[j]? = some (.str (andor j))
  | 0, _ => rfl
  | 1, _ => rfl
  | _ + 2, h => by omega
theorem cd_ao {nN lN : List Str} {k : Nat} (j : Nat) (xs : List (AV × (TvL.Stt → Bool))) (hl : xs.length ≤ 10) (h : ∀ p ∈ xs, Cd nN lN k p.1 p.2) : ∃ f, Cd nN lN (k + 1) (.tup [.str (andor j), .tup (xs.map (·.1))]) f := by
  unfold andor
  split
  · exact ⟨_, .and xs hl h⟩
  · exact ⟨_, .or xs hl h⟩
theorem two_cd {nN lN : List Str} {k : Nat} {a b : AV} {f f' : TvL.Stt → Bool} (h1 : Cd nN lN k a f) (h2 : Cd nN lN k b f') : ∀ p ∈ [(a, f), (b, f')], Cd nN lN k p.1 p.2 := by
  intro p m
  simp only [List.mem_cons, List.not_mem_nil, or_false] at m
  rcases m with rfl | rfl
  · exact h1
  · exact h2
theorem cdA {nN lN : List Str} {k : Nat} {a b : AV} {f f' : TvL.Stt → Bool} (h1 : Cd nN lN k a f) (h2 : Cd nN lN k b f') : ∃ e, Cd nN lN (k + 1) (.tup [.str "and", .tup [a, b]]) e := ⟨_, .and [(a, f), (b, f')] (by simp) (two_cd h1 h2)⟩
theorem cdO {nN lN : List Str} {k : Nat} {a b : AV} {f f' : TvL.Stt → Bool} (h1 : Cd nN lN k a f) (h2 : Cd nN lN k b f') : ∃ e, Cd nN lN (k + 1) (.tup [.str "or", .tup [a, b]]) e := ⟨_, .or [(a, f), (b, f')] (by simp) (two_cd h1 h2)⟩
theorem condition_ok (hd : Hd.Hnd a h) (x : Cx h c k r g) (hc : c ≠ a) (hk : k ≠ a) (q : ∀ (m : Nat) (C : AV), 1 ≤ m → m ≤ 3 → CD g C → ∀ h', Hx a h h' → Q (.lst [.int m, C]) h') : callN P (n+6) 272 [.adr a, .adr c] h Q := by
  refine call_of U.f__law_gen_condition rfl ?_
  show WpSs (ctxOf P (callN P (n+5))) b_law_gen_condition _ [.val (.adr a), .val (.adr c), .no, .no, .no, .no, .no] h
  push_cast [b_law_gen_condition]
  refine take_ok hd (by decide) fun k1 h1 x1 l1 => ?_
  push_cast [WpSs]
  refine cmp_ok x1.hand (x.step hc hk x1) hc hk fun p1 hp1 h2 x2 => ?_
  have x12 := x1.trans x2
  push_cast [WpSs]
  refine ite_b (fun _ => ⟨sz (by simp), q 1 _ (by decide) (by decide) ⟨_, cd_cmp hp1 3⟩ _ x12⟩) (fun c1 => ?_)
  push_cast [b_law_gen_condition_4]
  refine ite_b (fun _ => ⟨sz (by simp), sz (by simp), q 1 _ (by decide) (by decide) ⟨_, .not (cd_cmp hp1 2)⟩ _ x12⟩) (fun c2 => ?_)
  push_cast [b_law_gen_condition_3]
  refine cmp_ok x12.hand (x.step hc hk x12) hc hk fun p2 hp2 h3 x3 => ?_
  have x13 := x12.trans x3
  push_cast [WpSs]
  refine ite_b (fun _ => ?_) (fun c3 => ?_)
  · refine ⟨sz (by simp), ?_⟩
    have e : (k1 : Int) - 5 = ((k1 - 5 : Nat) : Int) := by omega
    rw [e]
    refine k_subV viewT_lst (ao_at (k1 - 5) (by omega)) ?_
    refine ⟨sz (by simp), sz (by simp), sz (by simp), ?_⟩
    exact q 2 _ (by decide) (by decide) (cd_ao _ [cmpF p1, cmpF p2] (by simp) (cd_two hp1 hp2 2)) _ x13
  · push_cast [b_law_gen_condition_2]
    refine ite_b (fun _ => ?_) (fun c4 => ?_)
    · refine ⟨sz (by simp), take_ok x13.hand (by decide) fun k4 h4 x4 l4 => ?_⟩
      refine k_subV viewT_lst (ao_at k4 (by omega)) ?_
      refine ⟨sz (by simp), sz (by simp), sz (by simp), sz (by simp), ?_⟩
      obtain ⟨f, hf⟩ := cd_ao (k := 1) k4 [cmpF p1, cmpF p2] (by simp) (cd_two hp1 hp2 1)
      exact q 2 _ (by decide) (by decide) ⟨_, .not hf⟩ _ (x13.trans x4)
    · push_cast [b_law_gen_condition_1]
      refine cmp_ok x13.hand (x.step hc hk x13) hc hk fun p3 hp3 h4 x4 => ?_
      have x14 := x13.trans x4
      push_cast [WpSs]
      refine ⟨sz (by simp), sz (by simp), sz (by simp), sz (by simp), sz (by simp), sz (by simp), sz (by simp), sz (by simp), sz (by simp), sz (by simp), ?_⟩
      refine ⟨sz (by simp), take_ok x14.hand (by decide) fun k5 h5 x5 l5 => ?_⟩
      refine k_subV viewT_lst (ao_at k5 (by omega)) ?_
      refine ⟨sz (by simp), sz (by simp), sz (by simp), sz (by simp), sz (by simp), sz (by simp), sz (by simp), ?_⟩
      simp only [viewW_lst]
      refine ⟨sz (by simp), take_ok (x14.trans x5).hand (by decide) fun k6 h6 x6 l6 => ?_⟩
      refine pick viewT_lst (by show k6 < 4; omega) fun d m => ?_
      have hd : CD g d := by
        have c1 := fun k => cd_cmp hp1 k
        have c2 := fun k => cd_cmp hp2 k
        have c3 := fun k => cd_cmp hp3 k
        simp only [List.cons_append, List.nil_append, List.mem_cons, List.not_mem_nil, or_false] at m
        rcases m with rfl | rfl | rfl | rfl
        · obtain ⟨f, e⟩ := cdA (c1 1) (.not (c2 0))
          exact cdO e (c3 2)
        · obtain ⟨f, e⟩ := cdO (c1 1) (c2 1)
          exact cdA e (c3 2)
        · refine cd_ao k5 [cmpF p1, cmpF p2, cmpF p3] (by simp) ?_
          intro p m
          simp only [List.mem_cons, List.not_mem_nil, or_false] at m
          rcases m with rfl | rfl | rfl
          · exact c1 2
          · exact c2 2
          · exact c3 2
        · obtain ⟨f, e⟩ := cdO (c2 1) (c3 1)
          exact cdA (c1 2) e
      exact ⟨sz (by simp), q 3 _ (by decide) (by decide) hd _ ((x14.trans x5).trans x6)⟩
/-- what a call reads of what is above -/
theorem k_kn {x : Cx h c k r g} {j : Nat} {Q : KA} (hj : j < g.kn.length) (q : ∀ K ∈ g.kn, Q (knv K)) : subK h (.adr k) (.int (j : Int)) Q :=
  pick (view_adr x.k) (by simpa using hj) fun d m => by
    obtain ⟨K, hK, rfl⟩ := List.mem_map.mp m
    exact q K hK
theorem call_ok (hd : Hd.Hnd a h) (x : Cx h c k r g) (hc : c ≠ a) (hk : k ≠ a) (hn : 0 < g.kn.length) (hl : g.Ls.length ≤ 100) (hp : ∀ K ∈ g.kn, K.1.ps.length ≤ 10) (q : ∀ s : P8.St, GdS g.Ls (g.kn.map (·.1)) (fun _ => False) s → ∀ h', Hx a h h' → Q s.av h') : callN P (n+3) 273 [.adr a, .adr c] h Q := by
  refine call_of U.f__law_gen_call rfl ?_
  show WpSs (ctxOf P (callN P (n+2))) b_law_gen_call _ [.val (.adr a), .val (.adr c), .no, .no, .no, .no, .no, .no, .no, .no, .no, .no] h
  push_cast [b_law_gen_call]
  refine c2 x (c2 x ?_)
  refine k_lenV (view_adr x.k) ?_
  push_cast [List.length_map]
  refine take_ok hd (by omega) fun k1 h1 x1 l1 => ?_
  have y1 := x.step hc hk x1
  refine k_kn (x := y1) (by omega) fun K hK => ?_
  push_cast [knv]
  refine c0 y1 ?_
  push_cast [WpSs]
  refine ⟨sz (by simp), ?_⟩
  refine for_inv (fun i ρ h' => Hx a h h' ∧ ∃ (fr : List Str) (as : List AV) (s7 s8 s9 s10 s11 : Slot), (∀ y ∈ fr, y ∈ g.Ls) ∧ fr.length ≤ 100 ∧ as.length = i ∧ (∀ (j : Nat) (p : Str × Bool) (d : AV), K.1.ps[j]? = some p → as[j]? = some d → p.2 = true → ∃ x ∈ g.Ls, d = .tup [.str "list", .str x]) ∧
    ρ = [.val (.adr a), .val (.adr c), .val (.str K.1.name), .val (.tup (K.1.ps.map pv)), .val (.tup (sl K.2)), .own (.lst (sl fr)), .own (.lst as), s7, s8, s9, s10, s11]) ⟨x1, g.Ls, [], _, _, _, _, _, fun y h => h, hl, rfl, fun j p d _ e => by (cases j <;> cases e), rfl⟩ (fun _ _ _ _ _ => rfl) ?_ ?_
  · rintro i y _ h2 D' hx ⟨x2, fr, as, s7, s8, s9, s10, s11, hf, hfl, hi, ha, rfl⟩ kn kc kr kb
    obtain ⟨⟨one, isl⟩, hone, rfl⟩ := items_map hx
    have hi2 := (List.getElem?_eq_some_iff.mp hone).1
    have hlen := hp K hK
    have y2 := x.step hc hk x2
    have add : ∀ d : AV, (isl = true → ∃ x ∈ g.Ls, d = .tup [.str "list", .str x]) → ∀ (j : Nat) (p : Str × Bool) (d' : AV), K.1.ps[j]? = some p → (as ++ [d])[j]? = some d' → p.2 = true → ∃ x ∈ g.Ls, d' = .tup [.str "list", .str x] := by
      intro d hd j p d' e1 e2 e3
      cases Nat.lt_or_ge j as.length with
      | inl c => exact ha j p d' e1 (by rw [List.getElem?_append_left c] at e2; exact e2) e3
      | inr c =>
        rw [List.getElem?_append_right c] at e2
        have : j - as.length = 0 := by
          cases e : j - as.length with
          | zero => rfl
          | succ m => rw [e] at e2; cases e2
        rw [this] at e2
        cases e2
        have : j = i := by omega
        subst this
        rw [hone] at e1
        cases e1
        exact hd e3
    push_cast [pv, b_law_gen_call_3]
    cases isl with
    | false =>
      push_cast [Bool.not_false, if_true]
      refine plain_ok x2.hand y2 hc hk fun p hp h3 x3 => ?_
      refine ⟨Nat.lt_of_lt_of_le (by omega) sz100, ?_⟩
      exact kc _ _ ⟨x2.trans x3, fr, as ++ [p.av], _, _, _, _, _, hf, hfl, by simp [hi], add _ (fun z => by cases z), rfl⟩
    | true =>
      push_cast [Bool.not_true, Bool.false_eq_true, if_false, b_law_gen_call_2]
      refine ⟨Nat.le_trans (by rw [sl_len]; exact hfl) sz100, ?_⟩
      refine comp_inv (fun j acc h' => h' = h2 ∧ ∃ l : List Str, acc = sl l ∧ l.length ≤ j ∧ ∀ y ∈ l, y ∈ fr) ⟨rfl, [], rfl, Nat.le_refl _, nofun⟩ (fun _ _ _ _ _ => by trivial) ?_ ?_
      · rintro j z acc h2 R hz ⟨rfl, l, rfl, hj, hl'⟩ kS kN
        obtain ⟨s, hs, rfl⟩ := items_map hz
        have ms := List.mem_of_getElem? hs
        have yes : R (some (.str s)) h2 := kS _ _ ⟨rfl, l ++ [s], by simp [sl], by simp; omega, fun y m => by
          rcases List.mem_append.mp m with m | m
          · exact hl' y m
          · rw [List.mem_singleton.mp m]; exact ms⟩
        have no : R none h2 := kN _ ⟨rfl, l, rfl, by omega, hl'⟩
        push_cast [WpSs]
        refine k_inT (h := h2) viewT_tup ?_
        refine ite_b (fun _ => by rw [if_pos trivial]; exact yes) (fun _ => ?_)
        refine c4 y2 (k_ninT viewT_lst ?_)
        show if (!decide (s ∈ g.mv)) = true then R (some (.str s)) h2 else R none h2
        split
        · exact yes
        · exact no
      · rintro acc h2 ⟨rfl, l, rfl, hj, hl'⟩
        rw [sl_len] at hj
        push_cast [sl_len]
        refine ite_b (fun _ => ⟨sz (by simp), kr _ _ (q (.oth "skip" (.int 0) []) (show ("skip" : Str) ∉ special ∧ _ from ⟨by decide, by simp⟩) _ x2)⟩) (fun c1 => ?_)
        push_cast [b_law_gen_call_1, sl_len]
        refine take_ok x2.hand (by omega) fun k3 h3 x3 l3 => ?_
        refine pickS viewT_lst (by omega) fun s ms => ?_
        push_cast [WpSs]
        refine ⟨rfl, all_sl fr, ?_⟩
        obtain ⟨j, e1, l', e2, hl2⟩ := erase_in (hl' s ms)
        push_cast [e1, e2]
        refine ⟨sz (by simp), Nat.lt_of_lt_of_le (by omega) sz100, ?_⟩
        refine kn _ _ ⟨x2.trans x3, l', as ++ [.tup [.str "list", .str s]], _, _, _, _, _, fun y m => hf y (hl2 y m), ?_, by simp [hi], add _ (fun _ => ⟨s, hf s (hl' s ms), rfl⟩), rfl⟩
        have := congrArg List.length e2
        have h5 : ((sl fr).eraseIdx j).length ≤ (sl fr).length := List.length_eraseIdx_le _ _
        rw [sl_len] at this h5
        omega
  · rintro _ h2 ⟨x2, fr, as, s7, s8, s9, s10, s11, hf, hfl, hi, ha, rfl⟩
    push_cast [b_law_gen_call_4]
    refine c3 (x.step hc hk x2) (take_ok x2.hand (by decide) fun k3 h3 x3 l3 => ?_)
    refine pickS viewT_lst (by rw [x.l2]; omega) fun d m => ?_
    push_cast [bltK, view_lst]
    refine ⟨sz (by simp), ?_⟩
    rw [List.length_map] at hi
    exact q (.call (.int 0) d K.1.name as) ⟨K.1, List.mem_map.mpr ⟨K, hK, rfl⟩, rfl, hi, ha⟩ _ (x2.trans x3)
theorem simple_ok (hb : g.b = true) (hd : Hd.Hnd a h) (x : Cx h c k r g) (hc : c ≠ a) (hk : k ≠ a) (hl : g.Ls.length ≤ 100) (hp : ∀ K ∈ g.kn, K.1.ps.length ≤ 10) (q : ∀ s : P8.St, GdS g.Ls (g.kn.map (·.1)) (fun _ => False) s → ∀ h', Hx a h h' → Q s.av h') : callN P (n+5) 274 [.adr a, .adr c] h Q := by
  refine call_of U.f__law_gen_simple rfl ?_
  show WpSs (ctxOf P (callN P (n+4))) b_law_gen_simple _ [.val (.adr a), .val (.adr c), .no, .no, .no, .no] h
  push_cast [b_law_gen_simple]
  refine take_ok hd (by decide) fun k1 h1 x1 l1 => ?_
  have y1 := x.step hc hk x1
  have b2 : WpSs (ctxOf P (callN P (n+4))) b_law_gen_simple_4 { nx := fun _ h => Q .non h, rt := Q } [.val (.adr a), .val (.adr c), .val (.int (k1 : Int)), .no, .no, .no] h1 := by
    push_cast [b_law_gen_simple_4]
    refine ite_b (fun _ => ?_) (fun _ => ?_)
    · refine take_ok x1.hand (by decide) fun k2 h2 x2 l2 => ?_
      push_cast [WpSs]
      refine ⟨sz (by simp), ?_⟩
      have x12 := x1.trans x2
      refine plain_ok x12.hand (x.step hc hk x12) hc hk fun p hp h3 x3 => ?_
      refine ⟨sz (by simp), ?_⟩
      have x13 := x12.trans x3
      refine take_ok x13.hand (by decide) fun k4 h4 x4 l4 => ?_
      push_cast [WpSs]
      refine ⟨divA (by decide) (by decide), ?_⟩
      have e : ((k4 : Int) / 3) = ((k4 / 3 : Nat) : Int) := by omega
      rw [e]
      have x14 := x13.trans x4
      refine pick viewT_lst (by show k4 / 3 < 2; omega) fun lo mlo => ?_
      refine take_ok x14.hand (by decide) fun k5 h5 x5 l5 => ?_
      push_cast [WpSs]
      refine ⟨sz (by simp), ?_⟩
      have x15 := x14.trans x5
      refine plain_ok x15.hand (x.step hc hk x15) hc hk fun p' hp' h6 x6 => ?_
      refine ⟨sz (by simp), ?_⟩
      have x16 := x15.trans x6
      refine take_ok x16.hand (by decide) fun k7 h7 x7 l7 => ?_
      push_cast [WpSs]
      refine ⟨divA (by decide) (by decide), ?_⟩
      have e : ((k7 : Int) / 3) = ((k7 / 3 : Nat) : Int) := by omega
      rw [e]
      have x17 := x16.trans x7
      refine pick viewT_lst (by show k7 / 3 < 2; omega) fun hi mhi => ?_
      refine c3 (x.step hc hk x17) ?_
      refine take_ok x17.hand (by decide) fun k8 h8 x8 l8 => ?_
      refine pickS viewT_lst (by rw [x.l2]; omega) fun v mv => ?_
      exact ⟨sz (by simp), q (.oth "choose" (.int 0) [.str v, lo, hi]) (show ("choose" : Str) ∉ special ∧ _ from ⟨by decide, by simp⟩) _ (x17.trans x8)⟩
    · push_cast [b_law_gen_simple_3]
      refine ite_b (fun _ => ⟨sz (by simp), q (.oth "skip" (.int 0) []) (show ("skip" : Str) ∉ special ∧ _ from ⟨by decide, by simp⟩) _ x1⟩) (fun _ => ?_)
      push_cast [b_law_gen_simple_2]
      refine c3 y1 (take_ok x1.hand (by decide) fun k2 h2 x2 l2 => ?_)
      refine pickS viewT_lst (by rw [x.l2]; omega) fun v mv => ?_
      have x12 := x1.trans x2
      refine term_ok x12.hand (x.step hc hk x12) hc hk fun p hp h3 x3 => ?_
      exact ⟨sz (by simp), q (.oth "set" (.int 0) [.str v, p.av]) (show ("set" : Str) ∉ special ∧ _ from ⟨by decide, by simp⟩) _ (x12.trans x3)⟩
  have b1 : WpSs (ctxOf P (callN P (n+4))) b_law_gen_simple_5 { nx := fun _ h => Q .non h, rt := Q } [.val (.adr a), .val (.adr c), .val (.int (k1 : Int)), .no, .no, .no] h1 := by
    push_cast [b_law_gen_simple_5]
    refine ite_b (fun c5 => ?_) (fun _ => b2)
    refine c0 y1 ?_
    push_cast [sl_len]
    refine ite_b (fun c6 => ?_) (fun _ => b2)
    refine c0 y1 (c0 y1 ?_)
    push_cast [sl_len]
    refine take_ok x1.hand (by omega) fun k2 h2 x2 l2 => ?_
    refine pickS viewT_lst (by omega) fun s hs => ?_
    have x12 := x1.trans x2
    have y2 := x.step hc hk x12
    have sw : WpSs (ctxOf P (callN P (n+4))) (.cons (.ret (.tup (.cons (.cstr "swap") (.cons (.cint 0) (.cons (.var 3) (.cons (.call 269 (.cons (.var 0) (.cons (.var 1) (.cons (.var 3) .nil)))) (.cons (.call 269 (.cons (.var 0) (.cons (.var 1) (.cons (.var 3) .nil)))) .nil))))))) .nil) { nx := WpSs (ctxOf P (callN P (n+4))) b_law_gen_simple_1 { nx := WpSs (ctxOf P (callN P (n+4))) b_law_gen_simple_4 { nx := fun _ h => Q .non h, rt := Q }, rt := Q }, rt := Q } [.val (.adr a), .val (.adr c), .val (.int (k1 : Int)), .val (.str s), .no, .no] h2 := by
      push_cast [WpSs]
      refine index_ok hs hb x12.hand y2 hc hk fun p hp h3 x3 => ?_
      have x13 := x12.trans x3
      refine index_ok hs hb x13.hand (x.step hc hk x13) hc hk fun p' hp' h4 x4 => ?_
      exact ⟨sz (by simp), q (.chg "swap" (.int 0) s [p.av, p'.av]) ⟨.inr rfl, hs, by simp⟩ _ (x13.trans x4)⟩
    push_cast [WpSs]
    refine ite_b (fun _ => sw) (fun _ => ?_)
    refine c4 y2 (k_inT viewT_lst ?_)
    refine ite_b (fun _ => sw) (fun _ => ?_)
    push_cast [b_law_gen_simple_1]
    refine index_ok hs hb x12.hand y2 hc hk fun p hp h3 x3 => ?_
    have x13 := x12.trans x3
    refine term_ok x13.hand (x.step hc hk x13) hc hk fun p' hp' h4 x4 => ?_
    exact ⟨sz (by simp), q (.chg "put" (.int 0) s [p.av, p'.av]) ⟨.inl rfl, hs, by simp⟩ _ (x13.trans x4)⟩
  push_cast [WpSs]
  refine ite_b (fun _ => ?_) (fun _ => b1)
  refine c2 y1 (k_lenV (view_adr y1.k) ?_)
  push_cast [List.length_map]
  refine ite_b (fun c6 => ?_) (fun _ => b1)
  exact call_ok x1.hand y1 hc hk (by omega) hl hp fun s hs h2 x2 => q s hs h2 (x1.trans x2)
end
end Ga

set_option maxRecDepth 100000
set_option maxHeartbeats 4000000
namespace Ga
open PySem L2 VL P8
local macro_rules
  | `(tactic| push_cast [$xs,*]) => `(tactic| try simp only [$xs,*, WpSs, WpS, WpE, WpEs, WpBs, WpO, WpN, WpI, WpC, WpT, getS, setS, tgK, setsS, wipeS, k_add, k_addT, k_sub, k_mul, k_fdiv, k_mod, k_neg, k_lt, k_le, k_gt, k_ge, k_eqI, k_neI, k_eqS, k_neS, k_eqB, k_neB, k_is, k_isn, k_isB, k_isnB, k_gIn, ctx_gdct, isNon_non, isNon_int, isNon_str, isNon_lst, isNon_tup, isNon_adr, k_lenS, k_lenL, k_lenR, k_lenT, k_int, k_str, k_abs, tru_bl, augK, ctx_call, ctx_glob, k_in, k_nin, k_inS, k_addS, k_intB, isi_non_int, isi_non_bool, isi_non_str, isi_non_list, isi_non_tuple, isi_bl_int, isi_bl_bool, isi_bl_str, isi_bl_list, isi_bl_tuple, isi_int_int, isi_int_bool, isi_int_str, isi_int_list, isi_int_tuple, isi_str_int, isi_str_bool, isi_str_str, isi_str_list, isi_str_tuple, isi_tup_int, isi_tup_bool, isi_tup_str, isi_tup_list, isi_tup_tuple, isi_lst_int, isi_lst_bool, isi_lst_str, isi_lst_list, isi_lst_tuple, isi_ro_int, isi_ro_bool, isi_ro_str, isi_ro_list, isi_ro_tuple, zs_lst, zs_tup, viewE_lst, viewE_tup, k_mulT])
open Hd (Hx view_adr cells_put cells_set cells_app cells_pos take_ok)
open TvL (Pl Cm Cd)
/-- from one heap to a later one: the hand and the rows that are left may be others -/
structure Hy (a r : Nat) (h h' : AHeap) : Prop where
  hand : Hd.Hnd a h'
  rows : ∃ i, cells h' r = .lst [.int i]
  len : h.length ≤ h'.length
  keep : ∀ b, b < h.length → b ≠ a → b ≠ r → cells h' b = cells h b
theorem Hy.trans {a r : Nat} {h h' h'' : AHeap} (x : Hy a r h h') (y : Hy a r h' h'') : Hy a r h h'' :=
  ⟨y.hand, y.rows, Nat.le_trans x.len y.len, fun b h1 h2 h3 => (y.keep b (Nat.lt_of_lt_of_le h1 x.len) h2 h3).trans (x.keep b h1 h2 h3)⟩
theorem Hy.refl {a r : Nat} {h : AHeap} (x : Hd.Hnd a h) (y : ∃ i, cells h r = .lst [.int i]) : Hy a r h h := ⟨x, y, Nat.le_refl _, fun _ _ _ _ => rfl⟩
theorem Hy.ofx {a r : Nat} {h h' h'' : AHeap} (ra : r ≠ a) (x : Hy a r h h') (y : Hx a h' h'') : Hy a r h h'' := by
  obtain ⟨i, e⟩ := x.rows
  have l := cells_pos e (fun z => by cases z)
  exact ⟨y.hand, ⟨i, (y.keep r l ra).trans e⟩, Nat.le_trans x.len y.len, fun b h1 h2 h3 => (y.keep b (Nat.lt_of_lt_of_le h1 x.len) h2).trans (x.keep b h1 h2 h3)⟩
theorem Hy.put {a r : Nat} {h h' : AHeap} (ra : r ≠ a) (x : Hy a r h h') (j : Int) : Hy a r h (h'.set r (.lst [.int j])) := by
  obtain ⟨i, e⟩ := x.rows
  have l := cells_pos e (fun z => by cases z)
  obtain ⟨ds, k, e2⟩ := x.hand
  exact ⟨⟨ds, k, by rw [cells_put ra]; exact e2⟩, ⟨j, cells_set l⟩, by rw [List.length_set]; exact x.len, fun b h1 h2 h3 => by rw [cells_put (Ne.symm h3)]; exact x.keep b h1 h2 h3⟩
theorem Cx.stepY {h h' : AHeap} {a c k r : Nat} {g : G} (x : Cx h c k r g) (hc : c ≠ a) (hk : k ≠ a) (rc : c ≠ r) (rk : k ≠ r) (y : Hy a r h h') : Cx h' c k r g :=
  ⟨(y.keep _ x.cl hc rc).trans x.c, (y.keep _ x.kl hk rk).trans x.k, x.l2, x.wf⟩
def Rec (ls : List Str) (kn : List Kn) : Nat → List P8.St → Prop
  | 0 => fun _ => False
  | d + 1 => Gd ls kn d
theorem gd_iff {ls : List Str} {kn : List Kn} : ∀ {d : Nat} {b : List P8.St}, Gd ls kn d b ↔ b.length ≤ 6 ∧ ∀ s ∈ b, GdS ls kn (Rec ls kn d) s
  | 0, _ => Iff.rfl
  | _ + 1, _ => Iff.rfl
theorem bud_step {done bud br B : Int} (h1 : 1 ≤ done) (h2 : 1 ≤ bud) (h3 : done * bud ≤ B) (h4 : 1 ≤ br) (h5 : br ≤ bud) : 1 ≤ done * br ∧ 1 ≤ bud / br ∧ done * br * (bud / br) ≤ B := by
  have e1 : br * (bud / br) ≤ bud := Int.mul_ediv_self_le (by omega)
  refine ⟨?_, ?_, ?_⟩
  · have := Int.mul_le_mul h1 h4 (by decide) (by omega)
    omega
  · exact (Int.le_ediv_iff_mul_le (by omega)).mpr (by omega)
  · rw [Int.mul_assoc]
    exact Int.le_trans (Int.mul_le_mul_of_nonneg_left e1 (by omega)) h3
theorem done_le {done bud B : Int} (h1 : 1 ≤ done) (h2 : 1 ≤ bud) (h3 : done * bud ≤ B) : done ≤ B := by
  have := Int.mul_le_mul_of_nonneg_left h2 (show 0 ≤ done by omega)
  omega
theorem br_if {m : Nat} {bud t o : Int} (m1 : 1 ≤ m) (m3 : m ≤ 3) (hb : 2 * (m : Int) ≤ bud) (t1 : 1 ≤ t) (t2 : t ≤ bud / (2 * (m : Int))) (o1 : 1 ≤ o) (o2 : o ≤ bud / (2 * (m : Int))) : 1 ≤ (m : Int) * (t + o) ∧ (m : Int) * (t + o) ≤ bud := by
  have : m = 1 ∨ m = 2 ∨ m = 3 := by omega
  rcases this with rfl | rfl | rfl
  · have e : (2 * ((1 : Nat) : Int)) = 2 := by decide
    rw [e] at t2 o2; omega
  · have e : (2 * ((2 : Nat) : Int)) = 4 := by decide
    rw [e] at t2 o2; omega
  · have e : (2 * ((3 : Nat) : Int)) = 6 := by decide
    rw [e] at t2 o2; omega
theorem bud_in {m : Nat} {bud B : Int} (m1 : 1 ≤ m) (m3 : m ≤ 3) (hb : 2 * (m : Int) ≤ bud) (hB : bud ≤ B) : 1 ≤ bud / (2 * (m : Int)) ∧ bud / (2 * (m : Int)) ≤ B := by
  have : m = 1 ∨ m = 2 ∨ m = 3 := by omega
  rcases this with rfl | rfl | rfl
  · have e : (2 * ((1 : Nat) : Int)) = 2 := by decide
    rw [e]; omega
  · have e : (2 * ((2 : Nat) : Int)) = 4 := by decide
    rw [e]; omega
  · have e : (2 * ((3 : Nat) : Int)) = 6 := by decide
    rw [e]; omega
theorem put_r {h : AHeap} {r : Nat} {i j : Int} {R : Cell → Prop} (e : cells h r = .lst [.int i]) (q : R (.lst [.int j])) : putC (cells h r) (.int 0) (.int j) R := by
  rw [e]; exact q
theorem r0 {h : AHeap} {r : Nat} {i : Int} {Q : KA} (e : cells h r = .lst [.int i]) (q : Q (.int i)) : subK h (.adr r) (.int 0) Q := k_subL (view_adr e) (fun _ z => by cases z) rfl q
section
variable {P : Prg} [Hd.U P] [U P] {n a c k r : Nat} {g : G}
/-- where the block is made -/
structure Env8 (a c k r : Nat) (g : G) : Prop where
  hc : c ≠ a
  hk : k ≠ a
  rc : c ≠ r
  rk : k ≠ r
  ra : r ≠ a
  b : g.b = true
  l : g.Ls.length ≤ 100
  p : ∀ K ∈ g.kn, K.1.ps.length ≤ 10
def BlockSt (P : Prg) (a c k r : Nat) (g : G) (d : Nat) : Prop := ∀ (n m : Nat) (w B : Int) {h : AHeap} {Q : AV → AHeap → Prop}, m ≤ 5 → 1 ≤ B → B ≤ 32 → Hd.Hnd a h → (∃ i, cells h r = .lst [.int i]) → Cx h c k r g →
    (∀ (b : List P8.St) (done : Int), Gd g.Ls (g.kn.map (·.1)) d b → b.length ≤ m → 1 ≤ done → done ≤ B → ∀ h', Hy a r h h' → Q (.lst [.int done, bv b]) h') →
    callN P (n+d+7) 275 [.adr a, .adr c, .int (d : Int), .int w, .int (m : Int), .int B] h Q
theorem block_step (e : Env8 a c k r g) (d : Nat) (ih : ∀ d', d = d' + 1 → BlockSt P a c k r g d') : BlockSt P a c k r g d := by
  intro n m w B h Q hm hB hB2 hd0 hr0 x q
  refine call_of U.f__law_gen_block rfl ?_
  show WpSs (ctxOf P (callN P (n+d+6))) b_law_gen_block _ [.val (.adr a), .val (.adr c), .val (.int (d : Int)), .val (.int w), .val (.int (m : Int)), .val (.int B), .no, .no, .no, .no, .no, .no, .no, .no, .no, .no, .no, .no, .no, .no, .no, .no] h
  push_cast [b_law_gen_block]
  have hz : sizeLine = 16777216 := rfl
  have fin : ∀ (h' : AHeap) (b : List P8.St) (done bud : Int) (s8 s9 s10 s11 s12 s13 s14 s15 s16 s17 s18 s19 s20 s21 : Slot), Hy a r h h' → (∀ s ∈ b, GdS g.Ls (g.kn.map (·.1)) (Rec g.Ls (g.kn.map (·.1)) d) s) → b.length ≤ m → 1 ≤ done → 1 ≤ bud → done * bud ≤ B →
      WpSs (ctxOf P (callN P (n+d+6))) b_law_gen_block_7 { nx := fun _ h => Q .non h, rt := Q } [.val (.adr a), .val (.adr c), .val (.int (d : Int)), .val (.int w), .val (.int (m : Int)), .val (.int bud), .own (.lst (b.map P8.St.av)), .val (.int done), s8, s9, s10, s11, s12, s13, s14, s15, s16, s17, s18, s19, s20, s21] h' := by
    intro h' b done bud s8 s9 s10 s11 s12 s13 s14 s15 s16 s17 s18 s19 s20 s21 y hb hl h1 h2 h3
    push_cast [b_law_gen_block_7, bltK, view_lst]
    refine ⟨sz (by simp), ?_⟩
    rw [← avs_map]
    exact q b done (gd_iff.mpr ⟨by omega, hb⟩) hl h1 (done_le h1 h2 h3) _ y
  refine ⟨Nat.zero_le _, ⟨by omega, by omega⟩, ?_⟩
  refine for_inv (fun i ρ h' => Hy a r h h' ∧ ∃ (b : List P8.St) (done bud : Int) (s8 s9 s10 s11 s12 s13 s14 s15 s16 s17 s18 s19 s20 s21 : Slot), (∀ s ∈ b, GdS g.Ls (g.kn.map (·.1)) (Rec g.Ls (g.kn.map (·.1)) d) s) ∧ b.length = i ∧ 1 ≤ done ∧ 1 ≤ bud ∧ done * bud ≤ B ∧
    ρ = [.val (.adr a), .val (.adr c), .val (.int (d : Int)), .val (.int w), .val (.int (m : Int)), .val (.int bud), .own (.lst (b.map P8.St.av)), .val (.int done), s8, s9, s10, s11, s12, s13, s14, s15, s16, s17, s18, s19, s20, s21])
    ⟨.refl hd0 hr0, [], 1, B, _, _, _, _, _, _, _, _, _, _, _, _, _, _, nofun, rfl, by decide, hB, by omega, rfl⟩ (fun _ _ _ _ _ => by trivial) ?_ ?_
  · rintro i y _ h1 D' hx ⟨y1, b, done, bud, s8, s9, s10, s11, s12, s13, s14, s15, s16, s17, s18, s19, s20, s21, hb, hl, d1, d2, d3, rfl⟩ kn kc kr kb
    obtain ⟨hi, rfl⟩ := items_range hx
    rw [Int.toNat_natCast] at hi
    have bB : bud ≤ B := done_le (done := bud) (bud := done) d2 d1 (by rw [Int.mul_comm]; exact d3)
    -- the end of a turn
    have last : ∀ (h2 : AHeap) (s : P8.St) (br : Int) (s8 s9 s10 s11 s14 s15 s16 s17 s18 s19 s20 s21 : Slot), Hy a r h h2 → GdS g.Ls (g.kn.map (·.1)) (Rec g.Ls (g.kn.map (·.1)) d) s → 1 ≤ br → br ≤ bud →
        WpSs (ctxOf P (callN P (n+d+6))) b_law_gen_block_2 D' [.val (.adr a), .val (.adr c), .val (.int (d : Int)), .val (.int w), .val (.int (m : Int)), .val (.int bud), .own (.lst (b.map P8.St.av)), .val (.int done), s8, s9, s10, s11, .val s.av, .val (.int br), s14, s15, s16, s17, s18, s19, s20, s21] h2 := by
      intro h2 s br s8 s9 s10 s11 s14 s15 s16 s17 s18 s19 s20 s21 y2 hs b1 b2
      obtain ⟨t1, t2, t3⟩ := bud_step d1 d2 d3 b1 b2
      push_cast [b_law_gen_block_2]
      refine ⟨divA (by omega) (by omega), mulA_r (by omega) (by omega), ?_, ?_⟩
      · rw [List.length_map]; omega
      · have em : b.map P8.St.av ++ [s.av] = (b ++ [s]).map P8.St.av := by rw [List.map_append]; rfl
        rw [em]
        refine kn _ _ ⟨y2, b ++ [s], _, _, _, _, _, _, _, _, _, _, _, _, _, _, _, _, ?_, by simp [hl], t1, t2, t3, rfl⟩
        intro t mt
        rcases List.mem_append.mp mt with mt | mt
        · exact hb t mt
        · rw [List.mem_singleton.mp mt]; exact hs
    have s3 : ∀ (k1 ct : Nat) (C : AV) (f : Bool) (h5 : AHeap) (s : P8.St) (br : Int) (s8 s15 s16 s17 s18 s19 s20 s21 : Slot), 1 ≤ ct → ct ≤ 3 → Hy a r h h5 → GdS g.Ls (g.kn.map (·.1)) (Rec g.Ls (g.kn.map (·.1)) d) s → 1 ≤ br → br ≤ bud → (f = true → 0 < d ∧ 2 * (ct : Int) ≤ bud) →
        WpSs (ctxOf P (callN P (n+d+6))) b_law_gen_block_3 D' [.val (.adr a), .val (.adr c), .val (.int (d : Int)), .val (.int w), .val (.int (m : Int)), .val (.int bud), .own (.lst (b.map P8.St.av)), .val (.int done), s8, .val (.int (k1 : Int)), .val (.int (ct : Int)), .val C, .val s.av, .val (.int br), .val (.bl f), s15, s16, s17, s18, s19, s20, s21] h5 := by
      intro k1 ct C f h5 s br s8 s15 s16 s17 s18 s19 s20 s21 m1 m3 y5 hs b1 b2 hf
      push_cast [b_law_gen_block_3]
      refine ite_b (fun _ => ?_) (fun _ => last _ _ _ _ _ _ _ _ _ _ _ _ _ _ _ y5 hs b1 b2)
      cases f with
      | false =>
        simp only [Bool.false_eq_true, if_false]
        exact last _ _ _ _ _ _ _ _ _ _ _ _ _ _ _ y5 hs b1 b2
      | true =>
      simp only [if_true]
      obtain ⟨dp, hcb⟩ := hf rfl
      obtain ⟨d', rfl⟩ : ∃ d', d = d' + 1 := ⟨d - 1, by omega⟩
      refine ite_b (fun _ => ?_) (fun _ => last _ _ _ _ _ _ _ _ _ _ _ _ _ _ _ y5 hs b1 b2)
      have x5 := x.stepY e.hc e.hk e.rc e.rk y5
      obtain ⟨i5, e5⟩ := y5.rows
      refine c5 x5 (Ga.r0 e5 ?_)
      push_cast [WpSs]
      refine c5 x5 ?_
      refine put_r e5 ?_
      have y6 := y5.put e.ra (i5 - 2)
      have x6 := x.stepY e.hc e.hk e.rc e.rk y6
      refine take_ok y6.hand (by decide) fun k2 h7 z7 l7 => ?_
      have y7 := y6.ofx e.ra z7
      have x7 := x.stepY e.hc e.hk e.rc e.rk y7
      push_cast [WpSs]
      refine ⟨mulA_l (by decide) (by decide), divA (by omega) (by omega), ?_⟩
      have ed : ((d' + 1 : Nat) : Int) - 1 = (d' : Int) := by omega
      have ec : (1 : Int) + (k2 : Int) = ((1 + k2 : Nat) : Int) := by omega
      rw [ed, ec]
      obtain ⟨u1, u2⟩ := bud_in m1 m3 hcb bB
      refine ih d' rfl n (1 + k2) (w - 1) _ (by omega) u1 (by omega) y7.hand y7.rows x7 fun t1 v1 gt1 lt1 p1 p2 h8 z8 => ?_
      have y8 := y7.trans z8
      have x8 := x.stepY e.hc e.hk e.rc e.rk y8
      push_cast [WpSs]
      refine k_subL viewT_lst (fun _ z => by cases z) (d := .int v1) rfl ?_
      push_cast [WpSs]
      refine ⟨mulA_l (by omega) (by omega), ?_⟩
      refine plain_ok y8.hand x8 e.hc e.hk fun f1 hf1 h9 z9 => ?_
      have y9 := y8.ofx e.ra z9
      have x9 := x.stepY e.hc e.hk e.rc e.rk y9
      refine plain_ok y9.hand x9 e.hc e.hk fun f2 hf2 h10 z10 => ?_
      have y10 := y9.ofx e.ra z10
      refine ⟨sz (by simp), ?_⟩
      refine k_subL viewT_lst (fun _ z => by cases z) (d := bv t1) rfl ?_
      obtain ⟨w1, w2⟩ := br_if m1 m3 hcb p1 p2 (o := 1) (by decide) u1
      have w3 : 1 ≤ v1 + 1 ∧ v1 + 1 ≤ bud := by
        have : (ct : Int) * (v1 + 1) ≥ 1 * (v1 + 1) := Int.mul_le_mul_of_nonneg_right (by omega) (by omega)
        omega
      have tail : ∀ (C' : AV) (tb : List P8.St) (br' : Int) (h11 : AHeap) (s20 : Slot), Hy a r h h11 → Gd g.Ls (g.kn.map (·.1)) d' tb → 1 ≤ br' → br' ≤ bud →
          WpSs (ctxOf P (callN P (n+(d'+1)+6))) b_law_gen_block_1 { D' with nx := WpSs (ctxOf P (callN P (n+(d'+1)+6))) b_law_gen_block_2 D' } [.val (.adr a), .val (.adr c), .val (.int ((d' + 1 : Nat) : Int)), .val (.int w), .val (.int (m : Int)), .val (.int bud), .own (.lst (b.map P8.St.av)), .val (.int done), s8, .val (.int (k1 : Int)), .val (.int (ct : Int)), .val C', .val s.av, .val (.int br'), .val (.bl true), s15, s16, .val (.lst [.int v1, bv t1]), .val (.tup [f1.av, f2.av]), .val (bv tb), s20, s21] h11 := by
        intro C' tb br' h11 s20 y11 hg q1 q2
        have x11 := x.stepY e.hc e.hk e.rc e.rk y11
        push_cast [b_law_gen_block_1]
        refine ⟨sz (by simp), sz (by simp), sz (by simp), sz (by simp), ?_⟩
        refine take_ok y11.hand (by decide) fun k3 h12 z12 l12 => ?_
        have y12 := y11.ofx e.ra z12
        have x12 := x.stepY e.hc e.hk e.rc e.rk y12
        push_cast [WpSs]
        obtain ⟨i12, e12⟩ := y12.rows
        have y13 := fun j => y12.put e.ra j
        by_cases q3 : (k3 : Int) = 3
        · push_cast [q3, decide_true]
          refine c5 x12 (Ga.r0 e12 ?_)
          push_cast [WpSs]
          refine ⟨⟨by simp, by split <;> simp⟩, ?_⟩
          refine c5 x12 (Ga.r0 e12 ?_)
          push_cast [WpSs]
          refine c5 x12 ?_
          refine put_r e12 ?_
          exact ⟨sz (by simp), last _ (.wh (.int 0) C' _ _ tb) _ _ _ _ _ _ _ _ _ _ _ _ _ (y13 _) hg q1 q2⟩
        · push_cast [q3, decide_false]
          refine ⟨⟨by simp, by simp⟩, ?_⟩
          refine c5 x12 (Ga.r0 e12 ?_)
          push_cast [WpSs]
          refine c5 x12 ?_
          refine put_r e12 ?_
          exact ⟨sz (by simp), last _ (.wh (.int 0) C' _ _ tb) _ _ _ _ _ _ _ _ _ _ _ _ _ (y13 _) hg q1 q2⟩
      refine take_ok y10.hand (by decide) fun k3 h11 z11 l11 => ?_
      have y11 := y10.ofx e.ra z11
      have x11 := x.stepY e.hc e.hk e.rc e.rk y11
      push_cast [WpSs]
      refine ite_b (fun _ => ?_) (fun _ => tail _ _ _ _ _ y11 gt1 w1 w2)
      obtain ⟨i11, e11⟩ := y11.rows
      refine c5 x11 (Ga.r0 e11 ?_)
      push_cast [WpSs]
      refine ite_b (fun _ => ?_) (fun _ => tail _ _ _ _ _ y11 gt1 w1 w2)
      refine c5 x11 (Ga.r0 e11 ?_)
      push_cast [WpSs]
      refine c5 x11 ?_
      refine put_r e11 ?_
      have y12 := y11.put e.ra (i11 - 1)
      have x12 := x.stepY e.hc e.hk e.rc e.rk y12
      refine c3 x12 (take_ok y12.hand (by decide) fun k4 h13 z13 l13 => ?_)
      have y13 := y12.ofx e.ra z13
      refine pickS viewT_lst (by rw [x.l2]; omega) fun cn mcn => ?_
      push_cast [WpSs]
      refine k_subL viewT_lst (fun _ z => by cases z) (d := .int v1) rfl ?_
      push_cast [WpSs]
      refine ⟨sz (by simp), ?_⟩
      refine plain_ok y13.hand (x.stepY e.hc e.hk e.rc e.rk y13) e.hc e.hk fun f3 hf3 h14 z14 => ?_
      have y14 := y13.ofx e.ra z14
      refine ⟨sz (by simp), ?_⟩
      refine ⟨sz (by simp), sz (by simp), sz (by simp), ?_⟩
      push_cast [bv]
      have hl1 := gt1.len
      refine ⟨Nat.le_trans (by rw [avs_map, List.length_map, List.length_singleton]; omega) sz100, ?_⟩
      have em : avs t1 ++ [.tup [.str "set", .int 0, .str cn, .tup [.str "var", .str cn, .int 1]]] = avs (t1 ++ [.oth "set" (.int 0) [.str cn, .tup [.str "var", .str cn, .int 1]]]) := by
        rw [avs_map, avs_map, List.map_append]; rfl
      rw [em]
      refine tail _ _ _ _ _ y14 (gd_iff.mpr ⟨by rw [List.length_append, List.length_singleton]; omega, fun t mt => ?_⟩) w3.1 w3.2
      rcases List.mem_append.mp mt with mt | mt
      · exact (gd_iff.mp gt1).2 t mt
      · rw [List.mem_singleton.mp mt]; exact (show ("set" : Str) ∉ special ∧ _ from ⟨by decide, by simp⟩)
    have s4 : ∀ (k1 ct : Nat) (C : AV) (f : Bool) (h5 : AHeap) (s : P8.St) (br : Int) (s8 s15 s16 s17 s18 s19 s20 s21 : Slot), 1 ≤ ct → ct ≤ 3 → Hy a r h h5 → GdS g.Ls (g.kn.map (·.1)) (Rec g.Ls (g.kn.map (·.1)) d) s → 1 ≤ br → br ≤ bud → (f = true → 0 < d ∧ 2 * (ct : Int) ≤ bud) →
        WpSs (ctxOf P (callN P (n+d+6))) b_law_gen_block_4 D' [.val (.adr a), .val (.adr c), .val (.int (d : Int)), .val (.int w), .val (.int (m : Int)), .val (.int bud), .own (.lst (b.map P8.St.av)), .val (.int done), s8, .val (.int (k1 : Int)), .val (.int (ct : Int)), .val C, .val s.av, .val (.int br), .val (.bl f), s15, s16, s17, s18, s19, s20, s21] h5 := by
      intro k1 ct C f h5 s br s8 s15 s16 s17 s18 s19 s20 s21 m1 m3 y5 hs b1 b2 hf
      push_cast [b_law_gen_block_4]
      refine ⟨sz (by simp), k_inF rfl viewT_lst rfl (by nofun) ?_⟩
      simp only [if_false, Bool.false_eq_true]
      split
      · cases f with
        | false =>
          simp only [Bool.false_eq_true, if_false]
          exact s3 _ _ _ _ _ _ _ _ _ _ _ _ _ _ _ m1 m3 y5 hs b1 b2 hf
        | true =>
        simp only [if_true]
        obtain ⟨dp, hcb⟩ := hf rfl
        obtain ⟨d', rfl⟩ : ∃ d', d = d' + 1 := ⟨d - 1, by omega⟩
        have x5 := x.stepY e.hc e.hk e.rc e.rk y5
        obtain ⟨i5, e5⟩ := y5.rows
        refine c5 x5 (Ga.r0 e5 ?_)
        push_cast [WpSs]
        refine c5 x5 ?_
        refine put_r e5 ?_
        have y6 := y5.put e.ra (i5 - 2)
        have x6 := x.stepY e.hc e.hk e.rc e.rk y6
        refine take_ok y6.hand (by decide) fun k2 h7 z7 l7 => ?_
        have y7 := y6.ofx e.ra z7
        have x7 := x.stepY e.hc e.hk e.rc e.rk y7
        push_cast [WpSs]
        refine ⟨mulA_l (by decide) (by decide), divA (by omega) (by omega), ?_⟩
        have ed : ((d' + 1 : Nat) : Int) - 1 = (d' : Int) := by omega
        rw [ed]
        obtain ⟨u1, u2⟩ := bud_in m1 m3 hcb bB
        refine ih d' rfl n k2 w _ (by omega) u1 (by omega) y7.hand y7.rows x7 fun t1 v1 gt1 lt1 p1 p2 h8 z8 => ?_
        have y8 := y7.trans z8
        have x8 := x.stepY e.hc e.hk e.rc e.rk y8
        push_cast [WpSs]
        refine take_ok y8.hand (by decide) fun k3 h9 z9 l9 => ?_
        have y9 := y8.ofx e.ra z9
        have x9 := x.stepY e.hc e.hk e.rc e.rk y9
        push_cast [WpSs]
        refine ⟨mulA_l (by decide) (by decide), divA (by omega) (by omega), ?_⟩
        refine ih d' rfl n k3 w _ (by omega) u1 (by omega) y9.hand y9.rows x9 fun t2 v2 gt2 lt2 p3 p4 h10 z10 => ?_
        have y10 := y9.trans z10
        push_cast [WpSs]
        refine k_subL viewT_lst (fun _ z => by cases z) (d := .int v1) rfl ?_
        refine k_subL viewT_lst (fun _ z => by cases z) (d := .int v2) rfl ?_
        push_cast [WpSs]
        obtain ⟨w1, w2⟩ := br_if m1 m3 hcb p1 p2 p3 p4
        refine ⟨mulA_l (by omega) (by omega), ?_⟩
        refine k_subL viewT_lst (fun _ z => by cases z) (d := bv t1) rfl ?_
        refine k_subL viewT_lst (fun _ z => by cases z) (d := bv t2) rfl ?_
        refine ⟨sz (by simp), ?_⟩
        exact s3 _ _ _ _ _ (.ite (.int 0) C t1 t2) _ _ _ _ _ _ _ _ _ m1 m3 y10 ⟨gt1, gt2⟩ w1 w2 hf
      · exact s3 _ _ _ _ _ _ _ _ _ _ _ _ _ _ _ m1 m3 y5 hs b1 b2 hf
    push_cast [b_law_gen_block_6]
    have x1 := x.stepY e.hc e.hk e.rc e.rk y1
    obtain ⟨i1, e1⟩ := y1.rows
    refine c5 x1 (Ga.r0 e1 ?_)
    push_cast [WpSs]
    refine ite_b (fun _ => kb _ _ (fin h1 b done bud (.val (.int (i : Int))) s9 s10 s11 s12 s13 s14 s15 s16 s17 s18 s19 s20 s21 y1 hb (by omega) d1 d2 d3)) (fun _ => ?_)
    push_cast [b_law_gen_block_5]
    refine take_ok y1.hand (by decide) fun k1 h2 z2 l2 => ?_
    have y2 := y1.ofx e.ra z2
    push_cast [WpSs]
    refine condition_ok y2.hand (x.stepY e.hc e.hk e.rc e.rk y2) e.hc e.hk fun ct C m1 m3 hC h3 z3 => ?_
    have y3 := y2.ofx e.ra z3
    push_cast [WpSs]
    refine simple_ok e.b y3.hand (x.stepY e.hc e.hk e.rc e.rk y3) e.hc e.hk e.l e.p fun s hs h4 z4 => ?_
    have y4 := y3.ofx e.ra z4
    have hs' : GdS g.Ls (g.kn.map (·.1)) (Rec g.Ls (g.kn.map (·.1)) d) s := hs.mono (fun _ q => q) (fun _ q => q) fun _ q => q.elim
    push_cast [WpSs]
    have x4 := x.stepY e.hc e.hk e.rc e.rk y4
    obtain ⟨i4, e4⟩ := y4.rows
    refine c5 x4 (Ga.r0 e4 ?_)
    push_cast [WpSs]
    refine c5 x4 ?_
    refine put_r e4 ?_
    have y5 := y4.put e.ra (i4 - 1)
    have x5 := x.stepY e.hc e.hk e.rc e.rk y5
    have mm : CMulA 2 (ct : Int) := mulA_l (by decide) (by decide)
    by_cases q1 : 0 < (d : Int)
    · push_cast [q1, decide_true]
      refine ⟨mm, ?_⟩
      by_cases q2 : 2 * (ct : Int) ≤ bud
      · push_cast [q2, decide_true]
        refine c5 x5 (Ga.r0 (cells_set (cells_pos e4 (fun z => by cases z))) ?_)
        push_cast [WpSs]
        have hf : ∀ f : Bool, (f = true → 0 < d ∧ 2 * (ct : Int) ≤ bud) := fun f _ => ⟨by omega, q2⟩
        refine ite_b (fun _ => ite_b (fun q3 => ⟨sz (by simp), s4 _ _ _ _ _ (.oth "check" (.int 0) [C]) _ _ _ _ _ _ _ _ _ m1 m3 y5 (show ("check" : Str) ∉ special ∧ _ from ⟨by decide, by simp⟩) (by omega) q3 (hf _)⟩) (fun _ => s4 _ _ _ _ _ _ _ _ _ _ _ _ _ _ _ m1 m3 y5 hs' (by decide) d2 (hf _))) (fun _ => ?_)
        simp only [Bool.false_eq_true, if_false]
        exact s4 _ _ _ _ _ _ _ _ _ _ _ _ _ _ _ m1 m3 y5 hs' (by decide) d2 (hf _)
      · push_cast [q2, decide_false]
        refine ite_b (fun _ => ite_b (fun q3 => ⟨sz (by simp), s4 _ _ _ _ _ (.oth "check" (.int 0) [C]) _ _ _ _ _ _ _ _ _ m1 m3 y5 (show ("check" : Str) ∉ special ∧ _ from ⟨by decide, by simp⟩) (by omega) q3 nofun⟩) (fun _ => s4 _ _ _ _ _ _ _ _ _ _ _ _ _ _ _ m1 m3 y5 hs' (by decide) d2 nofun)) (fun _ => ?_)
        simp only [Bool.false_eq_true, if_false]
        exact s4 _ _ _ _ _ _ _ _ _ _ _ _ _ _ _ m1 m3 y5 hs' (by decide) d2 nofun
    · push_cast [q1, decide_false]
      refine ite_b (fun _ => ite_b (fun q3 => ⟨sz (by simp), s4 _ _ _ _ _ (.oth "check" (.int 0) [C]) _ _ _ _ _ _ _ _ _ m1 m3 y5 (show ("check" : Str) ∉ special ∧ _ from ⟨by decide, by simp⟩) (by omega) q3 nofun⟩) (fun _ => s4 _ _ _ _ _ _ _ _ _ _ _ _ _ _ _ m1 m3 y5 hs' (by decide) d2 nofun)) (fun _ => ?_)
      simp only [Bool.false_eq_true, if_false]
      exact s4 _ _ _ _ _ _ _ _ _ _ _ _ _ _ _ m1 m3 y5 hs' (by decide) d2 nofun
  · rintro _ h1 ⟨y1, b, done, bud, s8, s9, s10, s11, s12, s13, s14, s15, s16, s17, s18, s19, s20, s21, hb, hl, d1, d2, d3, rfl⟩
    rw [List.length_map, List.length_range, Int.toNat_natCast] at hl
    exact fin h1 b done bud s8 s9 s10 s11 s12 s13 s14 s15 s16 s17 s18 s19 s20 s21 y1 hb (by omega) d1 d2 d3
theorem block_ok (e : Env8 a c k r g) : ∀ d : Nat, BlockSt P a c k r g d
  | 0 => block_step e 0 fun _ h => by cases h
  | d + 1 => block_step e (d + 1) fun d' h => by cases h; exact block_ok e d
end
end Ga

set_option maxRecDepth 100000
set_option maxHeartbeats 4000000
namespace Ga
open PySem L2 VL P8
local macro_rules
  | `(tactic| push_cast [$xs,*]) => `(tactic| try simp only [$xs,*, WpSs, WpS, WpE, WpEs, WpBs, WpO, WpN, WpI, WpC, WpT, getS, setS, tgK, setsS, wipeS, k_add, k_addT, k_sub, k_mul, k_fdiv, k_mod, k_neg, k_lt, k_le, k_gt, k_ge, k_eqI, k_neI, k_eqS, k_neS, k_eqB, k_neB, k_is, k_isn, k_isB, k_isnB, k_gIn, ctx_gdct, isNon_non, isNon_int, isNon_str, isNon_lst, isNon_tup, isNon_adr, k_lenS, k_lenL, k_lenR, k_lenT, k_int, k_str, k_abs, tru_bl, augK, ctx_call, ctx_glob, k_in, k_nin, k_inS, k_addS, k_intB, isi_non_int, isi_non_bool, isi_non_str, isi_non_list, isi_non_tuple, isi_bl_int, isi_bl_bool, isi_bl_str, isi_bl_list, isi_bl_tuple, isi_int_int, isi_int_bool, isi_int_str, isi_int_list, isi_int_tuple, isi_str_int, isi_str_bool, isi_str_str, isi_str_list, isi_str_tuple, isi_tup_int, isi_tup_bool, isi_tup_str, isi_tup_list, isi_tup_tuple, isi_lst_int, isi_lst_bool, isi_lst_str, isi_lst_list, isi_lst_tuple, isi_ro_int, isi_ro_bool, isi_ro_str, isi_ro_list, isi_ro_tuple, zs_lst, zs_tup, viewE_lst, viewE_tup, k_mulT])
open Hd (Hx view_adr cells_put cells_set cells_pos take_ok)
open TvL (Pl Cm Cd)
theorem Cx.put1 {h : AHeap} {c k r : Nat} {g : G} (x : Cx h c k r g) (ck : c ≠ k) (Ns' : List Str) (wf : g.b = true → ∀ x ∈ g.l2, x ∈ Ns') : Cx (h.set c (.lst [.lst (sl g.Ls), .lst (sl Ns'), .adr k, .lst (sl g.l2), .lst (sl g.mv), .adr r, .bl g.b])) c k r { g with Ns := Ns' } :=
  ⟨cells_set x.cl, by rw [cells_put ck]; exact x.k, x.l2, wf⟩
theorem Cx.put6 {h : AHeap} {c k r : Nat} {g : G} (x : Cx h c k r g) (ck : c ≠ k) (wf : ∀ x ∈ g.l2, x ∈ g.Ns) : Cx (h.set c (.lst [.lst (sl g.Ls), .lst (sl g.Ns), .adr k, .lst (sl g.l2), .lst (sl g.mv), .adr r, .bl true])) c k r { g with b := true } :=
  ⟨cells_set x.cl, by rw [cells_put ck]; exact x.k, x.l2, fun _ => wf⟩
theorem Cx.addK {h : AHeap} {c k r : Nat} {g : G} (x : Cx h c k r g) (ck : c ≠ k) (K : Kn × List Str) : Cx (h.set k (.lst (g.kn.map knv ++ [knv K]))) c k r { g with kn := g.kn ++ [K] } :=
  ⟨by rw [cells_put (Ne.symm ck)]; exact x.c, by rw [cells_set x.kl, List.map_append]; rfl, x.l2, x.wf⟩
theorem put_c1 {h : AHeap} {c k r : Nat} {g : G} {Ns' : List Str} {R : Cell → Prop} (x : Cx h c k r g) (q : R (.lst [.lst (sl g.Ls), .lst (sl Ns'), .adr k, .lst (sl g.l2), .lst (sl g.mv), .adr r, .bl g.b])) : putC (cells h c) (.int 1) (.lst (sl Ns')) R := by
  rw [x.c]; exact q
theorem put_c6 {h : AHeap} {c k r : Nat} {g : G} {R : Cell → Prop} (x : Cx h c k r g) (q : R (.lst [.lst (sl g.Ls), .lst (sl g.Ns), .adr k, .lst (sl g.l2), .lst (sl g.mv), .adr r, .bl true])) : putC (cells h c) (.int 6) (.bl true) R := by
  rw [x.c]; exact q
theorem Hy.putN {a r c : Nat} {h h' : AHeap} (x : Hy a r h h') (hc : h.length ≤ c) (ca : c ≠ a) (cr : c ≠ r) (v : Cell) : Hy a r h (h'.set c v) := by
  obtain ⟨ds, k, e2⟩ := x.hand
  obtain ⟨i, e⟩ := x.rows
  exact ⟨⟨ds, k, by rw [cells_put ca]; exact e2⟩, ⟨i, by rw [cells_put cr]; exact e⟩, by rw [List.length_set]; exact x.len, fun b h1 h2 h3 => by rw [cells_put (by omega)]; exact x.keep b h1 h2 h3⟩
theorem Hy.push {a r : Nat} {h h' : AHeap} (x : Hy a r h h') (v : List Cell) : Hy a r h (h' ++ v) := by
  obtain ⟨ds, k, e2⟩ := x.hand
  obtain ⟨i, e⟩ := x.rows
  have := x.len
  exact ⟨⟨ds, k, by rw [cells_app (cells_pos e2 (fun z => by cases z))]; exact e2⟩, ⟨i, by rw [cells_app (cells_pos e (fun z => by cases z))]; exact e⟩, by rw [List.length_append]; omega, fun b h1 h2 h3 => by rw [cells_app (by omega)]; exact x.keep b h1 h2 h3⟩
theorem comp_mapL {α : Type} {B : AV → AHeap → (Option AV → AHeap → Prop) → Prop} {chk : AHeap → Prop} {l : List α} {f g : α → AV} {h : AHeap} {Q : List AV → AHeap → Prop} (hc : chk h) (hs : ∀ a R, a ∈ l → R (some (g a)) h → B (f a) h R) (hd : Q (l.map g) h) : compL B chk (l.map f) [] h Q := by
  refine comp_inv (fun i acc h' => acc = (l.take i).map g ∧ h' = h) ⟨rfl, rfl⟩ (fun _ _ _ _ e => by rw [e.2]; exact hc) ?_ ?_
  · rintro i x acc h' R hx ⟨rfl, rfl⟩ k1 k2
    obtain ⟨a, ha, rfl⟩ := items_map hx
    refine hs a R (List.mem_of_getElem? ha) (k1 _ _ ⟨?_, rfl⟩)
    rw [List.take_add_one, ha, List.map_append]
    rfl
  · rintro acc h' ⟨rfl, rfl⟩
    rw [List.length_map, List.take_length]
    exact hd
/-- a procedure as the generator tells it -/
def prv (p : Prc) : AV := .tup [.str p.k.name, .tup (p.k.ps.map pv), .tup p.needs, .tup p.gives, .tup p.moves, p.falls, .tup p.lets, bv p.body]
def nmA (ns : List Str) (j : Nat) : Str := (ns[j]?).getD ""
def Lt3 (xs : List AV) : Prop := xs.length ≤ 10 ∧ ∀ l ∈ xs, ∃ x y z, l = .tup [x, y, z]
/-- procedures so far -/
structure Sofar (ns : List Str) (L : List Prc) (K : List (Kn × List Str)) : Prop where
  k : K.map (·.1) = L.map (·.k)
  nm : ∀ (i : Nat) (p : Prc), L[i]? = some p → p.k.name = nmA ns (15 - i)
  mem : ∀ p ∈ L, ∀ q ∈ p.k.ps, q.1 ∈ ns
  ps : ∀ p ∈ L, p.k.ps.length ≤ 5 ∧ (p.k.ps.map (·.1)).Nodup
  gd : ∀ (i : Nat) (p : Prc), L[i]? = some p → Gd p.lists ((L.take (i + 1)).map (·.k)) 5 p.body ∧ p.needs.length ≤ 10 ∧ p.gives.length ≤ 10 ∧ p.moves.length ≤ 10 ∧ Lt3 p.lets
theorem Sofar.ok {ns : List Str} {L : List Prc} {K : List (Kn × List Str)} (s : Sofar ns L K) (hl : ns.length = 16) (nd : ns.Nodup) (few : L.length ≤ 3) : Ok L := by
  refine ⟨few, fun i j p q hi hj e => ?_, s.ps, fun i p hp => (s.gd i p hp).1⟩
  rw [s.nm i p hi, s.nm j q hj] at e
  have li := (List.getElem?_eq_some_iff.mp hi).1
  have lj := (List.getElem?_eq_some_iff.mp hj).1
  unfold nmA at e
  rw [List.getElem?_eq_getElem (by omega), List.getElem?_eq_getElem (by omega)] at e
  have := (List.getElem_inj nd).mp (show ns[15 - i] = ns[15 - j] from e)
  omega
theorem Gd.monoL {ls ls' : List Str} {kn : List Kn} (hl : ∀ x ∈ ls, x ∈ ls') : ∀ {d : Nat} {b : List P8.St}, Gd ls kn d b → Gd ls' kn d b
  | 0, b, h => ⟨h.1, fun s m => (h.2 s m).mono hl (fun _ q => q) fun _ q => q⟩
  | d + 1, b, h => ⟨h.1, fun s m => (h.2 s m).mono hl (fun _ q => q) fun _ q => Gd.monoL hl q⟩
/-- parameters: lists and numbers, in one order or the other -/
structure Pms (ns Ls : List Str) (ps : List (Str × Bool)) : Prop where
  mem : ∀ q ∈ ps, q.1 ∈ ns
  len : ps.length ≤ 5
  nd : (ps.map (·.1)).Nodup
  ls : ∀ x ∈ Ls, (x, true) ∈ ps
theorem pms_of {ns : List Str} (nd : ns.Nodup) {t u : Nat} (ht : t ≤ 3) (hu : u ≤ 2) : Pms ns (ns.take t) ((ns.take t).map (fun x => (x, true)) ++ ((ns.drop 3).take u).map fun x => (x, false)) := by
  refine ⟨?_, ?_, ?_, fun x m => List.mem_append_left _ (List.mem_map.mpr ⟨x, m, rfl⟩)⟩
  · intro q m
    rcases List.mem_append.mp m with m | m
    · obtain ⟨x, hx, rfl⟩ := List.mem_map.mp m
      exact List.mem_of_mem_take hx
    · obtain ⟨x, hx, rfl⟩ := List.mem_map.mp m
      exact List.mem_of_mem_drop (List.mem_of_mem_take hx)
  · rw [List.length_append, List.length_map, List.length_map, List.length_take, List.length_take]; omega
  · rw [List.map_append, List.map_map, List.map_map]
    have e1 : ((ns.take t).map ((fun q : Str × Bool => q.1) ∘ fun x => (x, true))) = ns.take t := by
      rw [show ((fun q : Str × Bool => q.1) ∘ fun x : Str => (x, true)) = id from rfl, List.map_id]
    have e2 : (((ns.drop 3).take u).map ((fun q : Str × Bool => q.1) ∘ fun x => (x, false))) = (ns.drop 3).take u := by
      rw [show ((fun q : Str × Bool => q.1) ∘ fun x : Str => (x, false)) = id from rfl, List.map_id]
    rw [e1, e2]
    have : (ns.take t ++ (ns.drop 3).take u).Sublist (ns.take 3 ++ ns.drop 3) := by
      refine List.Sublist.append ?_ (List.take_sublist _ _)
      have := List.take_sublist t (ns.take 3)
      rw [List.take_take, Nat.min_eq_left ht] at this
      exact this
    rw [List.take_append_drop] at this
    exact nd.sublist this
theorem Pms.rev {ns Ls : List Str} {ps : List (Str × Bool)} (p : Pms ns Ls ps) : Pms ns Ls ps.reverse :=
  ⟨fun q m => p.mem q (List.mem_reverse.mp m), by rw [List.length_reverse]; exact p.len, by rw [List.map_reverse]; exact List.pairwise_reverse.mpr (p.nd.imp Ne.symm), fun x m => List.mem_reverse.mpr (p.ls x m)⟩
section
variable {P : Prg} [Hd.U P] [U P] {n a : Nat} {h : AHeap} {Q : AV → AHeap → Prop}
theorem subNs {h : AHeap} {ns : List Str} {j : Nat} {Q : KA} (hj : j < ns.length) (q : Q (.str (nmA ns j))) : subK h (.lst (sl ns)) (.int (j : Int)) Q :=
  k_subV viewT_lst (d := .str (nmA ns j)) (by unfold sl nmA; rw [List.getElem?_map, List.getElem?_eq_getElem hj]; rfl) q
/-- where a procedure is made -/
structure Pl8 (a r c k h0 : Nat) : Prop where
  ra : r ≠ a
  ca : c ≠ a
  ka : k ≠ a
  rc : c ≠ r
  rk : k ≠ r
  ck : c ≠ k
  c0 : h0 ≤ c
  k0 : h0 ≤ k
theorem gen2_ok {n a r c kk : Nat} {h0 h' : AHeap} {D' : Kt} {ns Ls Ns Mv : List Str} {mv i : Nat} {ps : List (Str × Bool)} {ls ls2 : List AV} {fl : AV} {K' : List (Kn × List Str)} {s13 s14 s15 s16 s17 s18 s19 : Slot} (hl : ns.length = 16) (pl : Pl8 a r c kk h0.length) (hi : i < 3)
    (lN : Ns.length ≤ 2) (lL : Ls.length ≤ 3) (lp : ps.length ≤ 5) (hp : ∀ X ∈ K', X.1.ps.length ≤ 10) (y7 : Hy a r h0 h') (x7 : Cx h' c kk r ⟨Ls, Ns, K', [nmA ns 5, nmA ns 6], Mv, false⟩) (l1 : ls.length ≤ 10) (l2 : ls2.length ≤ 10)
    (q : ∀ (p : Prc) (h2 : AHeap) (s13 s14 s15 s16 s17 s18 s19 : Slot), p.k = ⟨nmA ns (15 - i), ps⟩ → Gd Ls (K'.map (·.1)) 5 p.body → (p.needs.length ≤ 10 ∧ p.gives.length ≤ 10 ∧ p.moves = sl Mv ∧ Lt3 p.lets) → Hy a r h0 h2 →
      D'.nx [.val (.adr a), .val (.lst (sl ns)), .val (.int (mv : Int)), .own (.lst (ls ++ [prv p])), .own (.lst (ls2 ++ [knv (p.k, Mv)])), .val (.adr r), .val (.int (i : Int)), .val (.lst (sl Ls)), .val (.lst (sl Ns)), .val (.lst (ps.map pv)), .val (.tup (sl Mv)), .val (.adr c), .val fl, s13, s14, s15, s16, s17, s18, s19] h2) :
    WpSs (ctxOf P (callN P (n+11))) b_law_gen_2 D' [.val (.adr a), .val (.lst (sl ns)), .val (.int (mv : Int)), .own (.lst ls), .own (.lst ls2), .val (.adr r), .val (.int (i : Int)), .val (.lst (sl Ls)), .val (.lst (sl Ns)), .val (.lst (ps.map pv)), .val (.tup (sl Mv)), .val (.adr c), .val fl, s13, s14, s15, s16, s17, s18, s19] h' := by
  obtain ⟨ra, hc, hk, rc, rk, ck, cge, kge⟩ := pl
  generalize hn5 : nmA ns 5 = n5 at x7
  generalize hn6 : nmA ns 6 = n6 at x7
  push_cast [b_law_gen_2]
  refine subNs (j := 5) (by omega) ?_
  rw [hn5]
  refine term_ok y7.hand x7 hc hk fun t1 ht1 h8 z8 => ?_
  have y8 := y7.ofx ra z8
  have x8 := x7.step hc hk z8
  refine ⟨sz (by simp), sz (by simp), ?_⟩
  refine subNs (j := 5) (by omega) (subNs (j := 5) (by omega) ⟨sz (by simp), ?_⟩)
  rw [hn5]
  simp only [viewW_lst]
  refine ⟨Nat.le_trans (by rw [sl_len]; simp; omega) sz100, ?_⟩
  have e55 : sl Ns ++ [.str n5, .str n5] = sl (Ns ++ [n5, n5]) := by unfold sl; rw [List.map_append]; rfl
  rw [e55]
  refine put_c1 x8 ?_
  have y9 := y8.putN (v := .lst [.lst (sl Ls), .lst (sl (Ns ++ [n5, n5])), .adr kk, .lst (sl [n5, n6]), .lst (sl Mv), .adr r, .bl false]) cge hc rc
  have x9 := x8.put1 ck (Ns ++ [n5, n5]) (fun z => by cases z)
  refine subNs (j := 6) (by omega) ?_
  rw [hn6]
  refine term_ok y9.hand x9 hc hk fun t2 ht2 h10 z10 => ?_
  have y10 := y9.ofx ra z10
  have x10 := x9.step hc hk z10
  refine subNs (j := 5) (by omega) ⟨sz (by simp), sz (by simp), ?_⟩
  refine take_ok y10.hand (by decide) fun k6 h11 z11 l11 => ?_
  have y11 := y10.ofx ra z11
  have x11 := x10.step hc hk z11
  push_cast [WpSs]
  refine ⟨divA (by decide) (by decide), ?_⟩
  have e6 : ((k6 : Int) / 2) = ((k6 / 2 : Nat) : Int) := by omega
  rw [e6]
  refine pick viewT_lst (by show k6 / 2 < 2; omega) fun lt2 mlt => ?_
  refine ⟨sz (by simp), sz (by simp), sz (by simp), ?_⟩
  refine subNs (j := 5) (by omega) (subNs (j := 6) (by omega) ⟨sz (by simp), ?_⟩)
  rw [hn5, hn6]
  refine ⟨Nat.le_trans (by rw [sl_len]; simp; omega) sz100, ?_⟩
  have e56 : sl Ns ++ [.str n5, .str n6] = sl (Ns ++ [n5, n6]) := by unfold sl; rw [List.map_append]; rfl
  rw [e56]
  refine put_c1 x11 ?_
  have y12 := y11.putN (v := .lst [.lst (sl Ls), .lst (sl (Ns ++ [n5, n6])), .adr kk, .lst (sl [n5, n6]), .lst (sl Mv), .adr r, .bl false]) cge hc rc
  have x12 := x11.put1 ck (Ns ++ [n5, n6]) (fun z => by cases z)
  refine put_c6 x12 ?_
  have y13 := y12.putN (v := .lst [.lst (sl Ls), .lst (sl (Ns ++ [n5, n6])), .adr kk, .lst (sl [n5, n6]), .lst (sl Mv), .adr r, .bl true]) cge hc rc
  have x13 := x12.put6 ck (fun y m => by
    simp only [List.mem_cons, List.not_mem_nil, or_false] at m
    rcases m with rfl | rfl <;> simp)
  refine ⟨sz (by simp), sz (by simp), sz (by simp), sz (by simp), ?_⟩
  refine take_ok y13.hand (by decide) fun k14 h14 z14 l14 => ?_
  have y14 := y13.ofx ra z14
  have x14 := x13.step hc hk z14
  push_cast [WpSs]
  refine ⟨divA (by decide) (by decide), ⟨by simp, by omega⟩, ?_⟩
  refine ⟨sz (by simp), ?_⟩
  refine take_ok y14.hand (by decide) fun k15 h15 z15 l15 => ?_
  have y15 := y14.ofx ra z15
  have x15 := x14.step hc hk z15
  push_cast [WpSs]
  refine ⟨divA (by decide) (by decide), ⟨by simp, by omega⟩, ?_⟩
  refine take_ok y15.hand (by decide) fun k16 h16 z16 l16 => ?_
  have y16 := y15.ofx ra z16
  have x16 := x15.step hc hk z16
  push_cast [WpSs]
  have e17 : (1 : Int) + (k16 : Int) = ((1 + k16 : Nat) : Int) := by omega
  rw [e17]
  refine block_ok (g := ⟨Ls, Ns ++ [n5, n6], K', [n5, n6], Mv, true⟩) (c := c) (k := kk) (r := r) ⟨hc, hk, rc, rk, ra, rfl, by show Ls.length ≤ 100; omega, fun X hX => hp X hX⟩ 4 n (1 + k16) 2 32 (by omega) (by decide) (by decide) y16.hand y16.rows x16 fun b done gb lb d1 d2 h17 z17 => ?_
  have y17 := y16.trans z17
  have x17 := x16.stepY hc hk rc rk z17
  refine k_subL viewT_lst (fun _ z => by cases z) (d := bv b) rfl ?_
  refine term_ok y17.hand x17 hc hk fun t3 ht3 h18 z18 => ?_
  have y18 := y17.ofx ra z18
  have x18 := x17.step hc hk z18
  refine ⟨sz (by simp), ?_⟩
  refine take_ok y18.hand (by decide) fun k19 h19 z19 l19 => ?_
  have y19 := y18.ofx ra z19
  have x19 := x18.step hc hk z19
  have fin : ∀ (la : P8.St) (nd gv lt : List AV) (fa : AV) (h20 : AHeap) (s19 : Slot), nd.length ≤ 10 → gv.length ≤ 10 → Lt3 lt → Hy a r h0 h20 → GdS Ls (K'.map (·.1)) (Gd Ls (K'.map (·.1)) 4) la →
      WpSs (ctxOf P (callN P (n+11))) b_law_gen_1 D' [.val (.adr a), .val (.lst (sl ns)), .val (.int (mv : Int)), .own (.lst ls), .own (.lst ls2), .val (.adr r), .val (.int (i : Int)), .val (.lst (sl Ls)), .val (.lst (sl Ns)), .val (.lst (ps.map pv)), .val (.tup (sl Mv)), .val (.adr c), .val fl, .val (.tup lt), .val fa, .val (.tup nd), .val (.tup gv), .val (bv b), .val la.av, s19] h20 := by
    intro la nd gv lt fa h20 s19 n1 n2 n3 y20 hla
    have e15 : (15 : Int) - (i : Int) = ((15 - i : Nat) : Int) := by omega
    push_cast [b_law_gen_1, bltK, view_lst, bv]
    rw [e15]
    refine subNs (by omega) ?_
    refine ⟨sz (by simp), ⟨Nat.le_trans (by rw [avs_map, List.length_map, List.length_singleton]; have := gb.len; omega) sz100, ?_⟩⟩
    refine ⟨sz (by simp), ?_⟩
    refine ⟨Nat.lt_of_lt_of_le (by omega) sz100, ?_⟩
    refine subNs (by omega) ?_
    refine ⟨sz (by simp), Nat.lt_of_lt_of_le (by omega) sz100, ?_⟩
    have em : avs b ++ [la.av] = avs (b ++ [la]) := by rw [avs_map, avs_map, List.map_append]; rfl
    rw [em]
    exact q ⟨⟨nmA ns (15 - i), ps⟩, .int 0, nd, gv, sl Mv, fl, lt, b ++ [la]⟩ h20 _ _ _ _ _ _ _ rfl (gd_iff.mpr ⟨by rw [List.length_append, List.length_singleton]; omega, fun t mt => by
      rcases List.mem_append.mp mt with mt | mt
      · exact (gd_iff.mp gb.succ).2 t mt
      · rw [List.mem_singleton.mp mt]; exact hla⟩) ⟨n1, n2, rfl, n3⟩ y20
  push_cast [WpSs]
  have li : ∀ (p : Prop) [Decidable p] (x : AV), (if p then [x] else []).length ≤ 10 := fun p _ x => by split <;> simp
  have lt3 : Lt3 ([.tup [.int 0, .str n5, t1.av]] ++ [.tup [.int 0, .str n6, lt2]]) := ⟨by simp, fun l m => by
    simp only [List.mem_append, List.mem_cons, List.not_mem_nil, or_false] at m
    rcases m with rfl | rfl <;> exact ⟨_, _, _, rfl⟩⟩
  refine ite_b (fun _ => ?_) (fun _ => ?_)
  · refine cmp_ok y19.hand x19 hc hk fun c3 hc3 h20 z20 => ?_
    have y20 := y19.ofx ra z20
    have x20 := x19.step hc hk z20
    refine ⟨sz (by simp), sz (by simp), ?_⟩
    refine term_ok y20.hand x20 hc hk fun t4 ht4 h21 z21 => ?_
    have y21 := y20.ofx ra z21
    refine ⟨sz (by simp), sz (by simp), sz (by simp), ?_⟩
    have no : ∀ k : Str, k ∉ special → ∀ rw_ (xs : List AV), xs.length ≤ 5 → GdS Ls (K'.map (·.1)) (Rec Ls (K'.map (·.1)) 4) (.oth k rw_ xs) := fun k h _ _ z => ⟨h, z⟩
    refine fin (.ite (.int 0) c3.av [.oth "return" (.int 0) [t3.av]] [.oth "skip" (.int 0) [], .oth "return" (.int 0) [t4.av]]) _ _ _ _ _ _ (li _ _) (li _ _) lt3 y21 ⟨gd_iff.mpr ⟨by simp, fun t m => ?_⟩, gd_iff.mpr ⟨by simp, fun t m => ?_⟩⟩
    · rw [List.mem_singleton.mp m]; exact no _ (by decide) _ _ (by simp)
    · simp only [List.mem_cons, List.not_mem_nil, or_false] at m
      rcases m with rfl | rfl
      · exact no _ (by decide) _ _ (by simp)
      · exact no _ (by decide) _ _ (by simp)
  · exact fin (.oth "return" (.int 0) [t3.av]) _ _ _ _ _ _ (li _ _) (li _ _) lt3 y19 (show ("return" : Str) ∉ special ∧ _ from ⟨by decide, by simp⟩)
theorem gen4_ok {n a r : Nat} {h0 h3 : AHeap} {D' : Kt} {ns : List Str} {MV X5 X6 : AV} {c3 c4 : Cell} {s7 s8 s9 s10 s11 s12 s13 s14 s15 s16 s17 s18 s19 : Slot} (hl : ns.length = 16) (nd : ns.Nodup) (ra : r ≠ a) (y3 : Hy a r h0 h3)
    (q : ∀ (t u : Nat) (ps : List (Str × Bool)) (h' : AHeap), t ≤ 3 → u ≤ 2 → Pms ns (ns.take t) ps → Hy a r h0 h' → WpSs (ctxOf P (callN P (n+11))) b_law_gen_3 D' [.val (.adr a), .val (.lst (sl ns)), .val MV, .own c3, .own c4, .val X5, .val X6, .val (.lst (sl (ns.take t))), .val (.lst (sl ((ns.drop 3).take u))), .val (.lst (ps.map pv)), s10, s11, s12, s13, s14, s15, s16, s17, s18, s19] h') :
    WpSs (ctxOf P (callN P (n+11))) b_law_gen_4 D' [.val (.adr a), .val (.lst (sl ns)), .val MV, .own c3, .own c4, .val X5, .val X6, s7, s8, s9, s10, s11, s12, s13, s14, s15, s16, s17, s18, s19] h3 := by
    push_cast [b_law_gen_4, view_lst, viewT_lst, viewW_lst, if_true]
    refine take_ok y3.hand (by decide) fun k2 h4 z4 l4 => ?_
    have y4 := y3.ofx ra z4
    have e4 : cut (sl ns) none (some (k2 : Int)) = sl (ns.take k2) := by rw [cut_ns]; unfold sl; rw [List.map_take]
    push_cast [view_lst, viewT_lst, viewW_lst, if_true]
    refine take_ok y4.hand (by decide) fun k3 h5 z5 l5 => ?_
    have y5 := y4.ofx ra z5
    have e5 : (3 : Int) + (k3 : Int) = ((3 + k3 : Nat) : Int) := by omega
    have e6 : cut (sl ns) (some 3) (some ((3 + k3 : Nat) : Int)) = sl ((ns.drop 3).take k3) := by
      rw [show (3 : Int) = ((3 : Nat) : Int) from rfl, cut_ss]; unfold sl; rw [List.map_take, List.map_drop, show 3 + k3 - 3 = k3 by omega]
    push_cast [view_lst, viewT_lst, viewW_lst, if_true, e4, e5, e6]
    have l1 : (ns.take k2).length ≤ 3 := by rw [List.length_take]; omega
    have l2 : ((ns.drop 3).take k3).length ≤ 2 := by rw [List.length_take]; omega
    refine ⟨sz (by rw [sl_len]; omega), ?_⟩
    refine comp_mapL (l := ns.take k2) (f := AV.str) (g := fun x => pv (x, true)) trivial (fun x R m r => ⟨sz (by simp), r⟩) ?_
    refine ⟨sz (by rw [sl_len]; omega), ?_⟩
    refine comp_mapL (l := (ns.drop 3).take k3) (f := AV.str) (g := fun x => pv (x, false)) trivial (fun x R m r => ⟨sz (by simp), r⟩) ?_
    refine ⟨sz (by rw [List.length_map, List.length_map]; omega), ?_⟩
    refine take_ok y5.hand (by decide) fun k6 h6 z6 l6 => ?_
    have y6 := y5.ofx ra z6
    have pm := pms_of nd (t := k2) (u := k3) (by omega) (by omega)
    have em : (ns.take k2).map (fun x => pv (x, true)) ++ ((ns.drop 3).take k3).map (fun x => pv (x, false)) = ((ns.take k2).map (fun x => (x, true)) ++ ((ns.drop 3).take k3).map fun x => (x, false)).map pv := by
      rw [List.map_append, List.map_map, List.map_map]; rfl
    rw [em, ← List.map_reverse]
    push_cast [WpSs]
    exact ite_b (fun _ => q _ _ _ _ (by omega) (by omega) pm.rev y6) (fun _ => q _ _ _ _ (by omega) (by omega) pm y6)
/-- what stands above, with this one if it falls -/
def KnP (K K' : List (Kn × List Str)) (k : Kn × List Str) : Prop := K' = K ∨ K' = K ++ [k]
theorem gen3_ok {n a r i mv : Nat} {h0 h3 : AHeap} {D' : Kt} {ns Ls Ns : List Str} {ps : List (Str × Bool)} {ls : List AV} {K : List (Kn × List Str)} {s10 s11 s12 s13 s14 s15 s16 s17 s18 s19 : Slot} (hl : ns.length = 16) (ra : r ≠ a) (hi : i < 3) (lL : Ls.length ≤ 3) (lN : Ns.length ≤ 2) (lp : ps.length ≤ 5) (hp : ∀ X ∈ K, X.1.ps.length ≤ 10) (hK : K.length ≤ 10) (l1 : ls.length ≤ 10) (hr : r < h0.length) (ha : a < h0.length) (y3 : Hy a r h0 h3)
    (q : ∀ (p : Prc) (K' : List (Kn × List Str)) (h2 : AHeap) (s10 s11 s12 s13 s14 s15 s16 s17 s18 s19 : Slot), KnP K K' (⟨nmA ns (15 - i), ps⟩, Ls.take mv) → p.k = ⟨nmA ns (15 - i), ps⟩ → Gd Ls (K'.map (·.1)) 5 p.body → (p.needs.length ≤ 10 ∧ p.gives.length ≤ 10 ∧ p.moves = sl (Ls.take mv) ∧ Lt3 p.lets) → Hy a r h0 h2 →
      D'.nx [.val (.adr a), .val (.lst (sl ns)), .val (.int (mv : Int)), .own (.lst (ls ++ [prv p])), .own (.lst (K.map knv ++ [knv (p.k, Ls.take mv)])), .val (.adr r), .val (.int (i : Int)), .val (.lst (sl Ls)), .val (.lst (sl Ns)), .val (.lst (ps.map pv)), s10, s11, s12, s13, s14, s15, s16, s17, s18, s19] h2) :
    WpSs (ctxOf P (callN P (n+11))) b_law_gen_3 D' [.val (.adr a), .val (.lst (sl ns)), .val (.int (mv : Int)), .own (.lst ls), .own (.lst (K.map knv)), .val (.adr r), .val (.int (i : Int)), .val (.lst (sl Ls)), .val (.lst (sl Ns)), .val (.lst (ps.map pv)), s10, s11, s12, s13, s14, s15, s16, s17, s18, s19] h3 := by
  have e4 : cut (sl Ls) none (some (mv : Int)) = sl (Ls.take mv) := by rw [cut_ns]; unfold sl; rw [List.map_take]
  push_cast [b_law_gen_3, view_lst, viewT_lst, viewW_lst, if_true, e4]
  have tupL : ∀ {xs : List AV} {hh : AHeap} {R : KA}, R (.tup xs) → bltK hh .tuple [.lst xs] R := fun q => q
  refine tupL ?_
  refine subNs (j := 5) (by omega) (subNs (j := 6) (by omega) ⟨sz (by simp), sz (by simp), ?_⟩)
  generalize hh4 : h3 ++ [Cell.lst (K.map knv)] = h4
  have len4 : h4.length = h3.length + 1 := by rw [← hh4]; simp
  have y4 : Hy a r h0 h4 := by rw [← hh4]; exact y3.push _
  have k4 : cells h4 h3.length = .lst (K.map knv) := by rw [← hh4]; exact Hd.cells_last _ _
  have en : [AV.str (nmA ns 5), AV.str (nmA ns 6)] = sl [nmA ns 5, nmA ns 6] := rfl
  rw [en]
  generalize hh5 : h4 ++ [Cell.lst [AV.lst (sl Ls), AV.lst (sl Ns), AV.adr h3.length, AV.lst (sl [nmA ns 5, nmA ns 6]), AV.lst (sl (Ls.take mv)), AV.adr r, AV.bl false]] = h5
  have y5 : Hy a r h0 h5 := by rw [← hh5]; exact y4.push _
  have x5 : Cx h5 h4.length h3.length r ⟨Ls, Ns, K, [nmA ns 5, nmA ns 6], Ls.take mv, false⟩ := by
    refine ⟨?_, ?_, rfl, fun z => by cases z⟩
    · rw [← hh5]; exact Hd.cells_last _ _
    · rw [← hh5, cells_app (by omega)]; exact k4
  have l3 := y3.len
  have pl : Pl8 a r h4.length h3.length h0.length := ⟨by omega, by omega, by omega, by omega, by omega, by omega, by omega, by omega⟩
  refine take_ok y5.hand (by decide) fun k6 h6 z6 l6 => ?_
  have y6 := y5.ofx ra z6
  have x6 := x5.step pl.ca pl.ka z6
  push_cast [WpSs]
  refine ite_b (fun _ => ?_) (fun _ => ?_)
  · refine plain_ok y6.hand x6 pl.ca pl.ka fun f1 hf1 h7 z7 => ?_
    have y7 := y6.ofx ra z7
    have x7 := x6.step pl.ca pl.ka z7
    refine plain_ok y7.hand x7 pl.ca pl.ka fun f2 hf2 h8 z8 => ?_
    have y8 := y7.ofx ra z8
    have x8 := x7.step pl.ca pl.ka z8
    refine ⟨sz (by simp), ?_⟩
    refine c2 x8 ?_
    have e15 : (15 : Int) - (i : Int) = ((15 - i : Nat) : Int) := by omega
    push_cast [x8.k, appC, e15]
    refine subNs (by omega) (tupL ⟨sz (by simp), Nat.lt_of_lt_of_le (by rw [List.length_map]; omega) sz100, ?_⟩)
    have x9 := x8.addK pl.ck (⟨nmA ns (15 - i), ps⟩, Ls.take mv)
    have y9 := y8.putN (v := .lst (K.map knv ++ [knv (⟨nmA ns (15 - i), ps⟩, Ls.take mv)])) pl.k0 pl.ka pl.rk
    refine gen2_ok hl pl hi lN lL lp (fun X hX => ?_) y9 x9 l1 (by rw [List.length_map]; exact hK) fun p h2 s13 s14 s15 s16 s17 s18 s19 e1 e2 e3 y => q p _ h2 _ _ _ _ _ _ _ _ _ _ (.inr rfl) e1 e2 e3 y
    rcases List.mem_append.mp hX with hX | hX
    · exact hp X hX
    · rw [List.mem_singleton.mp hX]; show ps.length ≤ 10; omega
  · exact gen2_ok hl pl hi lN lL lp hp y6 x6 l1 (by rw [List.length_map]; exact hK) fun p h2 s13 s14 s15 s16 s17 s18 s19 e1 e2 e3 y => q p _ h2 _ _ _ _ _ _ _ _ _ _ (.inl rfl) e1 e2 e3 y
theorem gen_ok {n mv : Nat} {ns : List Str} (hl : ns.length = 16) (nd : ns.Nodup) (hd : Hd.Hnd a h) (q : ∀ (L : List Prc) (K : List (Kn × List Str)), Sofar ns L K → L.length ≤ 3 → ∀ h', Hx a h h' → Q (.lst (L.map prv)) h') : callN P (n+12) 276 [.adr a, .lst (sl ns), .int (mv : Int)] h Q := by
  refine call_of U.f__law_gen rfl ?_
  show WpSs (ctxOf P (callN P (n+11))) b_law_gen _ [.val (.adr a), .val (.lst (sl ns)), .val (.int (mv : Int)), .no, .no, .no, .no, .no, .no, .no, .no, .no, .no, .no, .no, .no, .no, .no, .no, .no] h
  push_cast [b_law_gen]
  have hz : sizeLine = 16777216 := rfl
  refine ⟨Nat.zero_le _, Nat.zero_le _, mulA_l (by decide) (by decide), sz (by simp), ?_⟩
  generalize hrows : (13 - 2 * if decide (0 < (mv : Int)) = true then (1 : Int) else 0) = rows
  have hr : cells (h ++ [Cell.lst [AV.int rows]]) h.length = .lst [.int rows] := Hd.cells_last _ _
  have hlt := hd.lt
  have hd1 := (Hx.app hd [Cell.lst [AV.int rows]]).hand
  refine take_ok hd1 (by decide) fun k1 h2 x2 l2 => ?_
  have e1 : (1 : Int) + (k1 : Int) = ((1 + k1 : Nat) : Int) := by omega
  push_cast [WpSs]
  rw [e1]
  refine ⟨⟨by omega, by omega⟩, ?_⟩
  rw [Int.toNat_natCast]
  have ra : h.length ≠ a := by omega
  have lr : h.length < (h ++ [Cell.lst [AV.int rows]]).length := by simp
  generalize hh1 : h ++ [Cell.lst [AV.int rows]] = h1 at hr hd1 x2 lr
  have len1 : h1.length = h.length + 1 := by rw [← hh1]; simp
  have y2 : Hy a h.length h1 h2 := (Hy.refl hd1 ⟨_, hr⟩).ofx ra x2
  refine for_inv (fun i ρ h' => Hy a h.length h1 h' ∧ ∃ (L : List Prc) (K : List (Kn × List Str)) (s6 s7 s8 s9 s10 s11 s12 s13 s14 s15 s16 s17 s18 s19 : Slot), Sofar ns L K ∧ L.length = i ∧
      ρ = [.val (.adr a), .val (.lst (sl ns)), .val (.int (mv : Int)), .own (.lst (L.map prv)), .own (.lst (K.map knv)), .val (.adr h.length), s6, s7, s8, s9, s10, s11, s12, s13, s14, s15, s16, s17, s18, s19])
    ⟨y2, [], [], _, _, _, _, _, _, _, _, _, _, _, _, _, _, ⟨rfl, nofun, nofun, nofun, nofun⟩, rfl, rfl⟩ (fun _ _ _ _ _ => by trivial) ?_ ?_
  · rintro i x _ h3 D' hx ⟨y3, L, K, s6, s7, s8, s9, s10, s11, s12, s13, s14, s15, s16, s17, s18, s19, hs, hL, rfl⟩ kn kc kr kb
    obtain ⟨hi, rfl⟩ := items_range hx
    have al := cells_pos (show cells h1 a = _ from hd1.choose_spec.choose_spec) (fun z => by cases z)
    refine gen4_ok (MV := .int (mv : Int)) (X5 := .adr h.length) (X6 := .int (i : Int)) hl nd ra y3 fun t u ps h4 ht hu pm y4 => ?_
    have few := hs.k
    have lK : K.length = i := by have := congrArg List.length hs.k; rw [List.length_map, List.length_map] at this; omega
    refine gen3_ok hl ra (by omega) (by rw [List.length_take]; omega) (by rw [List.length_take]; omega) pm.len (fun X hX => ?_) (by omega) (by rw [List.length_map]; omega) lr al y4 fun p K' h5 s10 s11 s12 s13 s14 s15 s16 s17 s18 s19 hK' pk gd ⟨n1, n2, n3, n4⟩ y5 => ?_
    · have : X.1 ∈ L.map (·.k) := by rw [← hs.k]; exact List.mem_map.mpr ⟨X, hX, rfl⟩
      obtain ⟨p, hp, e⟩ := List.mem_map.mp this
      have := (hs.ps p hp).1
      rw [← e]; omega
    · have em1 : L.map prv ++ [prv p] = (L ++ [p]).map prv := by rw [List.map_append]; rfl
      have em2 : K.map knv ++ [knv (p.k, (ns.take t).take mv)] = (K ++ [(p.k, (ns.take t).take mv)]).map knv := by rw [List.map_append]; rfl
      rw [em1, em2]
      refine kn _ _ ⟨y5, L ++ [p], K ++ [(p.k, (ns.take t).take mv)], _, _, _, _, _, _, _, _, _, _, _, _, _, _, ⟨?_, ?_, ?_, ?_, ?_⟩, by rw [List.length_append, hL]; rfl, rfl⟩
      · rw [List.map_append, List.map_append, hs.k]; rfl
      · intro j p' hj
        rcases Nat.lt_or_ge j L.length with c | c
        · rw [List.getElem?_append_left c] at hj; exact hs.nm j p' hj
        · rw [List.getElem?_append_right c] at hj
          have : j = i := by
            have := (List.getElem?_eq_some_iff.mp hj).1
            simp at this; omega
          subst this
          rw [show j - L.length = 0 by omega] at hj
          cases hj
          rw [pk]
      · intro p' hp'
        rcases List.mem_append.mp hp' with m | m
        · exact hs.mem p' m
        · rw [List.mem_singleton.mp m, pk]; exact pm.mem
      · intro p' hp'
        rcases List.mem_append.mp hp' with m | m
        · exact hs.ps p' m
        · rw [List.mem_singleton.mp m, pk]; exact ⟨pm.len, pm.nd⟩
      · intro j p' hj
        rcases Nat.lt_or_ge j L.length with c | c
        · rw [List.getElem?_append_left c] at hj
          obtain ⟨g1, g2⟩ := hs.gd j p' hj
          rw [List.take_append_of_le_length (by omega)]
          exact ⟨g1, g2⟩
        · rw [List.getElem?_append_right c] at hj
          have : j = i := by
            have := (List.getElem?_eq_some_iff.mp hj).1
            simp at this; omega
          subst this
          rw [show j - L.length = 0 by omega] at hj
          cases hj
          rw [List.take_of_length_le (by simp; omega)]
          refine ⟨(Gd.monoL (fun x m => mem_lists.mpr ?_) gd).mono fun X hX => ?_, n1, n2, ?_, n4⟩
          · rw [pk]; exact pm.ls x m
          · rcases hK' with rfl | rfl
            · rw [List.map_append, ← hs.k]; exact List.mem_append_left _ hX
            · rw [List.map_append, hs.k] at hX
              rw [List.map_append]
              rcases List.mem_append.mp hX with m | m
              · exact List.mem_append_left _ m
              · refine List.mem_append_right _ ?_
                rw [List.map_cons, List.map_nil, pk]; exact m
          · rw [n3, sl_len, List.length_take, List.length_take]; omega
  · rintro _ h3 ⟨y3, L, K, s6, s7, s8, s9, s10, s11, s12, s13, s14, s15, s16, s17, s18, s19, hs, hL, rfl⟩
    rw [List.length_map, List.length_range] at hL
    push_cast [b_law_gen_5]
    refine q L K hs (by omega) _ ⟨y3.hand, by have := y3.len; omega, fun b b1 b2 => ?_⟩
    rw [y3.keep b (by omega) b2 (by omega), ← hh1, Hd.cells_app b1]
end
end Ga

set_option maxRecDepth 100000
set_option maxHeartbeats 4000000
namespace Gb
open PySem L2 VL P8
local macro_rules
  | `(tactic| push_cast [$xs,*]) => `(tactic| try simp only [$xs,*, WpSs, WpS, WpE, WpEs, WpBs, WpO, WpN, WpI, WpC, WpT, getS, setS, tgK, setsS, wipeS, k_add, k_addT, k_sub, k_mul, k_fdiv, k_mod, k_neg, k_lt, k_le, k_gt, k_ge, k_eqI, k_neI, k_eqS, k_neS, k_eqB, k_neB, k_is, k_isn, k_isB, k_isnB, k_gIn, ctx_gdct, isNon_non, isNon_int, isNon_str, isNon_lst, isNon_tup, isNon_adr, k_lenS, k_lenL, k_lenR, k_lenT, k_int, k_str, k_abs, tru_bl, augK, ctx_call, ctx_glob, k_in, k_nin, k_inS, k_addS, k_intB, isi_non_int, isi_non_bool, isi_non_str, isi_non_list, isi_non_tuple, isi_bl_int, isi_bl_bool, isi_bl_str, isi_bl_list, isi_bl_tuple, isi_int_int, isi_int_bool, isi_int_str, isi_int_list, isi_int_tuple, isi_str_int, isi_str_bool, isi_str_str, isi_str_list, isi_str_tuple, isi_tup_int, isi_tup_bool, isi_tup_str, isi_tup_list, isi_tup_tuple, isi_lst_int, isi_lst_bool, isi_lst_str, isi_lst_list, isi_lst_tuple, isi_ro_int, isi_ro_bool, isi_ro_str, isi_ro_list, isi_ro_tuple, zs_lst, zs_tup, viewE_lst, viewE_tup])
open Ga (sz sz100 Rec gd_iff Lt3 sl prv pv)
theorem st0 {k : AV} {xs : List AV} {h : AHeap} {Q : KA} (q : Q k) : subK h (.tup (k :: xs)) (.int 0) Q :=
  k_subL viewT_tup (fun _ z => by cases z) (by show atI (k :: xs) ((0 : Nat) : Int) = _; rw [atI_nat (Nat.zero_lt_succ _)]; rfl) q
theorem cut2 {a b : AV} {xs : List AV} : cut (a :: b :: xs) (some 2) none = xs := by
  show cut (a :: b :: xs) (some ((2 : Nat) : Int)) none = _
  rw [cut_sn]; rfl
/-- the head of a statement -/
def hdS : P8.St → Str
  | .oth k _ _ => k
  | .chg k _ _ _ => k
  | .call _ _ _ _ => "call"
  | .ite _ _ _ _ => "if"
  | .wh _ _ _ _ _ => "while"
theorem st_av (s : P8.St) : ∃ xs, s.av = .tup (.str (hdS s) :: xs) := by
  cases s <;> exact ⟨_, by simp only [P8.St.av]; rfl⟩
theorem sub0 {s : P8.St} {h : AHeap} {Q : KA} (q : Q (.str (hdS s))) : subK h s.av (.int 0) Q := by
  obtain ⟨xs, e⟩ := st_av s
  rw [e]; exact st0 q
section
variable {P : Prg} [U P] {n : Nat} {h : AHeap} {ls : List Str} {kn : List Kn}
theorem rows_step {d : Nat} (ih : ∀ d', d = d' + 1 → ∀ {n : Nat} {b : List P8.St} {row : Int} {h : AHeap} {Q : AV → AHeap → Prop}, Gd ls kn d' b → (∀ (b' : List P8.St) (row' : Int), Gd ls kn d' b' → b'.length = b.length → Q (.tup [bv b', .int row']) h) → callN P (n + d' + 1) 277 [bv b, .int row] h Q)
    {n : Nat} {b : List P8.St} {row : Int} {h : AHeap} {Q : AV → AHeap → Prop} (g : Gd ls kn d b) (q : ∀ (b' : List P8.St) (row' : Int), Gd ls kn d b' → b'.length = b.length → Q (.tup [bv b', .int row']) h) : callN P (n + d + 1) 277 [bv b, .int row] h Q := by
  refine call_of U.f__law_rows rfl ?_
  show WpSs (ctxOf P (callN P (n + d))) b_law_rows _ [.val (bv b), .val (.int row), .no, .no, .no, .no, .no, .no] h
  have hz : sizeLine = 16777216 := rfl
  push_cast [b_law_rows, bv, viewT_tup]
  refine ⟨Nat.zero_le _, ?_⟩
  rw [avs_map]
  have g2 := gd_iff.mp g
  refine for_inv (fun i ρ h' => h' = h ∧ ∃ (b' : List P8.St) (row' : Int) (s3 s4 s5 s6 s7 : Slot), (∀ s ∈ b', GdS ls kn (Rec ls kn d) s) ∧ b'.length = i ∧ ρ = [.val (bv b), .val (.int row'), .own (.lst (b'.map P8.St.av)), s3, s4, s5, s6, s7])
    ⟨rfl, [], row, _, _, _, _, _, nofun, rfl, by simp only [bv, avs_map]; rfl⟩ (fun _ _ _ _ _ => by trivial) ?_ ?_
  · rintro i x _ h D' hx ⟨rfl, b', row', s3, s4, s5, s6, s7, hb, hl, rfl⟩ kn' kc kr kb
    obtain ⟨s, hs, rfl⟩ := items_map hx
    have gs := g2.2 s (List.mem_of_getElem? hs)
    have li := (List.getElem?_eq_some_iff.mp hs).1
    have fin : ∀ (t : P8.St) (first row2 : Int) (s5 s6 s7 : Slot) (A : AV) (B : List AV), A = .str (hdS s) → GdS ls kn (Rec ls kn d) t → B.length ≤ 6 → t.av = .tup (A :: .int first :: B) → ∀ (r : AV) (s' : AV), s' = .tup (A :: r :: B) →
        WpSs (ctxOf P (callN P (n + d))) b_law_rows_1 D' [.val (bv b), .val (.int row2), .own (.lst (b'.map P8.St.av)), .val s', .val (.int first), s5, s6, s7] h := by
      rintro t first row2 s5 s6 s7 A B rfl gt hB e r _ rfl
      push_cast [b_law_rows_1]
      refine st0 ?_
      refine ⟨sz (by simp), ?_⟩
      rw [k_sliceT, cut2]
      refine ⟨Nat.le_trans (by simp; omega) sz100, Nat.lt_of_lt_of_le (by rw [List.length_map]; have := g2.1; omega) sz100, ?_⟩
      rw [show [AV.str (hdS s), AV.int first] ++ B = (AV.str (hdS s) :: AV.int first :: B) from rfl, ← e]
      have em : b'.map P8.St.av ++ [t.av] = (b' ++ [t]).map P8.St.av := by rw [List.map_append]; rfl
      rw [em]
      refine kn' _ _ ⟨rfl, b' ++ [t], _, _, _, _, _, _, fun z mz => ?_, by rw [List.length_append, hl]; rfl, rfl⟩
      rcases List.mem_append.mp mz with mz | mz
      · exact hb z mz
      · rw [List.mem_singleton.mp mz]; exact gt
    push_cast [b_law_rows_2]
    refine sub0 ?_
    push_cast [WpSs]
    cases s with
    | oth k r xs =>
      have gk : k ∉ special ∧ xs.length ≤ 5 := gs
      have n1 : k ≠ "if" := fun e => gk.1 (by rw [e]; decide)
      have n2 : k ≠ "while" := fun e => gk.1 (by rw [e]; decide)
      refine ite_b (fun c => absurd c n1) (fun _ => sub0 ?_)
      push_cast [WpSs]
      refine ite_b (fun c => absurd c n2) (fun _ => ?_)
      exact fin (.oth k (.int row') xs) row' _ _ _ _ _ xs rfl ⟨gk.1, gk.2⟩ (by omega) rfl r _ rfl
    | chg k r x xs =>
      have gk : (k = "put" ∨ k = "swap") ∧ x ∈ ls ∧ xs.length ≤ 5 := gs
      have n1 : k ≠ "if" := by rcases gk.1 with rfl | rfl <;> decide
      have n2 : k ≠ "while" := by rcases gk.1 with rfl | rfl <;> decide
      refine ite_b (fun c => absurd c n1) (fun _ => sub0 ?_)
      push_cast [WpSs]
      refine ite_b (fun c => absurd c n2) (fun _ => ?_)
      exact fin (.chg k (.int row') x xs) row' _ _ _ _ _ (.str x :: xs) rfl gk (by rw [List.length_cons]; omega) rfl r _ rfl
    | call r x f as =>
      refine ite_b (fun c => absurd c (show ¬ (_ : Str) = _ by simp only [hdS]; decide)) (fun _ => sub0 ?_)
      push_cast [WpSs]
      refine ite_b (fun c => absurd c (show ¬ (_ : Str) = _ by simp only [hdS]; decide)) (fun _ => ?_)
      exact fin (.call (.int row') x f as) row' _ _ _ _ _ [.str x, .str f, .tup as] rfl gs (by simp) rfl r _ rfl
    | ite r c x y =>
      refine ite_b (fun _ => ?_) (fun c => absurd rfl c)
      obtain ⟨d', rfl⟩ : ∃ d', d = d' + 1 := by cases d with
        | zero => exact gs.1.elim
        | succ d' => exact ⟨d', rfl⟩
      have g1 : Gd ls kn d' x := gs.1
      have g3 : Gd ls kn d' y := gs.2
      have tl : ∀ {hh : AHeap} {z : List P8.St} {R : KA}, R (.int (z.length : Int)) → bltK hh .len [bv z] R := fun {hh z R} q => by
        show R (.int ((avs z).length : Int))
        rw [avs_map, List.length_map]; exact q
      refine k_subL (d := bv x) viewT_tup (fun _ z => by cases z) rfl ?_
      refine ih d' rfl g1 fun x1 r1 gx1 lx1 => ?_
      push_cast [WpSs]
      refine k_subL (d := bv y) viewT_tup (fun _ z => by cases z) rfl ?_
      refine k_subL (d := bv y) viewT_tup (fun _ z => by cases z) rfl (tl ?_)
      push_cast [WpSs]
      refine ih d' rfl g3 fun y1 r2 gy1 ly1 => ?_
      push_cast [WpSs]
      rw [show (P8.St.ite r c x y).av = .tup [.str "if", r, c, bv x, bv y] from rfl, k_sliceT, show cut [AV.str "if", r, c, bv x, bv y] none (some 3) = [AV.str "if", r, c] from rfl]
      exact ⟨sz (by simp), sz (by simp), fin (.ite (.int row') c x1 y1) row' _ _ _ _ _ [c, bv x1, bv y1] rfl ⟨gx1, gy1⟩ (by simp) rfl r _ rfl⟩
    | wh r c ks f y =>
      refine ite_b (fun c => absurd c (show ¬ (_ : Str) = _ by simp only [hdS]; decide)) (fun _ => sub0 ?_)
      push_cast [WpSs]
      refine ite_b (fun _ => ?_) (fun c => absurd rfl c)
      obtain ⟨d', rfl⟩ : ∃ d', d = d' + 1 := by cases d with
        | zero => exact (show False from gs).elim
        | succ d' => exact ⟨d', rfl⟩
      have g3 : Gd ls kn d' y := gs
      refine k_subL (d := bv y) viewT_tup (fun _ z => by cases z) rfl ?_
      refine k_subL (d := .tup ks) viewT_tup (fun _ z => by cases z) rfl ?_
      push_cast [WpSs]
      refine ih d' rfl g3 fun y1 r2 gy1 ly1 => ?_
      push_cast [WpSs]
      rw [show (P8.St.wh r c ks f y).av = .tup [.str "while", r, c, .tup ks, f, bv y] from rfl, k_sliceT, show cut [AV.str "while", r, c, .tup ks, f, bv y] none (some 5) = [AV.str "while", r, c, .tup ks, f] from rfl]
      exact ⟨sz (by simp), sz (by simp), fin (.wh (.int row') c ks f y1) row' _ _ _ _ _ [c, .tup ks, f, bv y1] rfl gy1 (by simp) rfl r _ rfl⟩
  · rintro _ _ ⟨rfl, b', row', s3, s4, s5, s6, s7, hb, hl, rfl⟩
    rw [List.length_map] at hl
    push_cast [b_law_rows_3, bltK, view_lst]
    refine ⟨sz (by simp), ?_⟩
    have := q b' row' (gd_iff.mpr ⟨by rw [hl]; exact g2.1, hb⟩) hl
    simp only [bv, avs_map] at this
    exact this
theorem rows_ok : ∀ (d : Nat) {n : Nat} {b : List P8.St} {row : Int} {h : AHeap} {Q : AV → AHeap → Prop}, Gd ls kn d b → (∀ (b' : List P8.St) (row' : Int), Gd ls kn d b' → b'.length = b.length → Q (.tup [bv b', .int row']) h) → callN P (n + d + 1) 277 [bv b, .int row] h Q
  | 0, _, _, _, _, _, g, q => rows_step (fun _ e => by cases e) g q
  | d + 1, _, _, _, _, _, g, q => rows_step (fun d' e => by cases e; exact rows_ok d) g q
def ptv (p : Prc) : AV := .tup [p.row, .str p.k.name, .tup (p.k.ps.map pv), .tup p.needs, .tup p.gives, .tup p.moves, p.falls, .tup p.lets, bv p.body]
/-- what the generator promises of a procedure -/
structure PrcOk (kn : List Kn) (p : Prc) : Prop where
  gd : Gd p.lists kn 5 p.body
  nd : p.needs.length ≤ 10
  gv : p.gives.length ≤ 10
  mv : p.moves.length ≤ 10
  lt : Lt3 p.lets
theorem parts_ok {n : Nat} {L : List Prc} {h : AHeap} {Q : AV → AHeap → Prop} (hL : L.length ≤ 10) (g : ∀ (i : Nat) (p : Prc), L[i]? = some p → PrcOk ((L.take (i + 1)).map (·.k)) p) (q : ∀ L' : List Prc, L'.map (·.k) = L.map (·.k) → (∀ (i : Nat) (p : Prc), L'[i]? = some p → PrcOk ((L'.take (i + 1)).map (·.k)) p) → Q (.lst (L'.map ptv)) h) : callN P (n + 7) 278 [.lst (L.map prv)] h Q := by
  refine call_of U.f__law_parts rfl ?_
  show WpSs (ctxOf P (callN P (n + 6))) b_law_parts _ [.val (.lst (L.map prv)), .no, .no, .no, .no, .no, .no, .no, .no, .no, .no, .no, .no, .no, .no] h
  have hz : sizeLine = 16777216 := rfl
  push_cast [b_law_parts, viewT_lst]
  refine ⟨Nat.zero_le _, ?_⟩
  refine for_inv (fun i ρ h' => h' = h ∧ ∃ (L1 : List Prc) (row : Int) (s3 s4 s5 s6 s7 s8 s9 s10 s11 s12 s13 s14 : Slot), L1.length = i ∧ L1.map (·.k) = (L.take i).map (·.k) ∧ (∀ (j : Nat) (p : Prc), L1[j]? = some p → PrcOk ((L.take (j + 1)).map (·.k)) p) ∧
      ρ = [.val (.lst (L.map prv)), .own (.lst (L1.map ptv)), .val (.int row), s3, s4, s5, s6, s7, s8, s9, s10, s11, s12, s13, s14])
    ⟨rfl, [], 1, _, _, _, _, _, _, _, _, _, _, _, _, rfl, rfl, nofun, rfl⟩ (fun _ _ _ _ _ => by trivial) ?_ ?_
  · rintro i x _ h D' hx ⟨rfl, L1, row, s3, s4, s5, s6, s7, s8, s9, s10, s11, s12, s13, s14, hl, hk, hg, rfl⟩ kn kc kr kb
    obtain ⟨p, hp, rfl⟩ := items_map hx
    have gp := g i p hp
    have li := (List.getElem?_eq_some_iff.mp hp).1
    push_cast [prv, b_law_parts_3, viewT_tup, bv]
    refine ⟨Nat.zero_le _, ?_⟩
    generalize hrow : row + 1 + (p.needs.length : Int) + (p.gives.length : Int) + (p.moves.length : Int) + (if (!isNon p.falls) = true then 1 else 0) = row2
    have l2 := gp.lt
    refine for_inv (fun j ρ h' => h' = h ∧ ∃ (lt : List AV) (row3 : Int) (s13 : Slot), lt.length = j ∧ (∀ l ∈ lt, ∃ x y z, l = .tup [x, y, z]) ∧
      ρ = [.val (.lst (L.map prv)), .own (.lst (L1.map ptv)), .val (.int row3), .val (.str p.k.name), .val (.tup (p.k.ps.map pv)), .val (.tup p.needs), .val (.tup p.gives), .val (.tup p.moves), .val p.falls, .val (.tup p.lets), .val (bv p.body), .val (.int row), .own (.lst lt), s13, s14])
      ⟨rfl, [], row2, _, rfl, nofun, rfl⟩ (fun _ _ _ _ _ => by trivial) ?_ ?_
    · rintro j y _ h D'' hy ⟨rfl, lt, row3, s13, hj, hlt, rfl⟩ kn2 kc2 kr2 kb2
      obtain ⟨x, y, z, rfl⟩ := l2.2 _ (List.mem_of_getElem? hy)
      have lj := (List.getElem?_eq_some_iff.mp hy).1
      push_cast [b_law_parts_1]
      rw [k_sliceT, show cut [x, y, z] (some 1) none = [y, z] from rfl]
      refine ⟨sz (by simp), sz (by simp), Nat.lt_of_lt_of_le (by have := l2.1; omega) sz100, ?_⟩
      refine kn2 _ _ ⟨rfl, _, _, _, by rw [List.length_append, hj]; rfl, fun l ml => ?_, rfl⟩
      rcases List.mem_append.mp ml with ml | ml
      · exact hlt l ml
      · rw [List.mem_singleton.mp ml]; exact ⟨_, _, _, rfl⟩
    · rintro _ _ ⟨rfl, lt, row3, s13, hj, hlt, rfl⟩
      push_cast [b_law_parts_2]
      refine rows_ok 5 gp.gd fun b' row4 gb lb => ?_
      push_cast [bltK, view_lst]
      refine ⟨sz (by simp), Nat.lt_of_lt_of_le (by rw [List.length_map]; omega) sz100, ?_⟩
      have em : L1.map ptv ++ [AV.tup [.int row, .str p.k.name, .tup (p.k.ps.map pv), .tup p.needs, .tup p.gives, .tup p.moves, p.falls, .tup lt, bv b']] = (L1 ++ [(⟨p.k, .int row, p.needs, p.gives, p.moves, p.falls, lt, b'⟩ : Prc)]).map ptv := by rw [List.map_append]; rfl
      rw [em]
      refine kn _ _ ⟨rfl, L1 ++ [(⟨p.k, .int row, p.needs, p.gives, p.moves, p.falls, lt, b'⟩ : Prc)], _, _, _, _, _, _, _, _, _, _, _, _, _, by rw [List.length_append, hl]; rfl, ?_, ?_, rfl⟩
      · rw [List.map_append, hk, List.take_add_one, hp, List.map_append]; rfl
      · intro j' p' hj'
        rcases Nat.lt_or_ge j' L1.length with c | c
        · rw [List.getElem?_append_left c] at hj'; exact hg j' p' hj'
        · rw [List.getElem?_append_right c] at hj'
          have : j' = i := by
            have := (List.getElem?_eq_some_iff.mp hj').1
            simp at this; omega
          subst this
          rw [show j' - L1.length = 0 by omega] at hj'
          cases hj'
          exact ⟨gb, gp.nd, gp.gv, gp.mv, by show lt.length ≤ 10; rw [hj]; exact l2.1, hlt⟩
  · rintro _ _ ⟨rfl, L1, row, s3, s4, s5, s6, s7, s8, s9, s10, s11, s12, s13, s14, hl, hk, hg, rfl⟩
    rw [List.length_map] at hl
    rw [List.length_map, List.take_length] at hk
    push_cast [b_law_parts_4]
    refine q L1 hk fun i p hp => ?_
    have := hg i p hp
    rw [List.map_take] at this ⊢
    rw [hk]; exact this
end
theorem cells_at0 {h : AHeap} {c : Cell} : cells (h ++ [c]) h.length = c := by simp [cells]
theorem set_at0 {h : AHeap} {c d : Cell} : (h ++ [c]).set h.length d = h ++ [d] := by simp
/-- a procedure's cell -/
def prO (p : Prc) : Cell := .obj 11 [("row", p.row), ("name", .str p.k.name), ("parameters", .tup (p.k.ps.map pv)), ("needs", .tup p.needs), ("gives", .tup p.gives), ("moves", .tup p.moves), ("falls", p.falls), ("lets", .tup p.lets), ("body", bv p.body)]
section
variable {P : Prg} [Pc.U P] [U P]
theorem init_ok {n : Nat} {p : Prc} {h : AHeap} {Q} (q : Q .non (h ++ [prO p])) :
    callN P (n+1) 258 [.adr h.length, p.row, .str p.k.name, .tup (p.k.ps.map pv), .tup p.needs, .tup p.gives, .tup p.moves, p.falls, .tup p.lets, bv p.body] (h ++ [.obj 11 []]) Q := by
  refine call_of Pc.U.f_Procedure___init__ rfl ?_
  show WpSs (ctxOf P (callN P n)) Pc.b_Procedure___init__ _ [.val (.adr h.length), .val p.row, .val (.str p.k.name), .val (.tup (p.k.ps.map pv)), .val (.tup p.needs), .val (.tup p.gives), .val (.tup p.moves), .val p.falls, .val (.tup p.lets), .val (bv p.body)] _
  push_cast [Pc.b_Procedure___init__, cells_at0, set_at0, bltK, bv]
  refine ⟨Pc.U.d_11_row, by show 0 < 1000; decide, Pc.U.d_11_name, by show 1 < 1000; decide, Pc.U.d_11_parameters, by show 2 < 1000; decide, Pc.U.d_11_needs, by show 3 < 1000; decide, Pc.U.d_11_gives, by show 4 < 1000; decide, Pc.U.d_11_moves, by show 5 < 1000; decide,
    Pc.U.d_11_falls, by show 6 < 1000; decide, Pc.U.d_11_lets, by show 7 < 1000; decide, Pc.U.d_11_body, by show 8 < 1000; decide, ?_⟩
  exact q
theorem made_ok {n : Nat} {p : Prc} {h : AHeap} {Q : AV → AHeap → Prop} (q : Q (.adr h.length) (h ++ [prO p])) : callN P (n+2) 279 [ptv p] h Q := by
  refine call_of U.f__law_made rfl ?_
  show WpSs (ctxOf P (callN P (n+1))) b_law_made _ [.val (ptv p)] h
  have ini : (ctxOf P (callN P (n+1))).init 11 = some 258 := Pc.U.i_11
  push_cast [b_law_made, ptv, ini]
  have st : ∀ {xs : List AV} {i : Int} {d : AV} {h : AHeap} {Q : KA}, atI xs i = some d → Q d → subK h (.tup xs) (.int i) Q := fun e q => k_subL viewT_tup (fun _ z => by cases z) e q
  refine st rfl (st rfl (st rfl (st rfl (st rfl (st rfl (st rfl (st rfl (st rfl ?_))))))))
  exact init_ok q
/-- the cells of a program: its procedures from o on, itself behind them -/
structure Pg (h : AHeap) (o : Nat) (L : List Prc) : Prop where
  p : ∀ (i : Nat) (p : Prc), L[i]? = some p → cells h (o + i) = prO p
  g : cells h (o + L.length) = .obj 10 [("procedures", .tup ((List.range L.length).map fun i => .adr (o + i)))]
theorem program_ok {n : Nat} {L : List Prc} {h : AHeap} {Q : AV → AHeap → Prop} (hL : L.length ≤ 10) (q : ∀ h', h.length ≤ h'.length → (∀ b, b < h.length → cells h' b = cells h b) → Pg h' h.length L → Q (.adr (h.length + L.length)) h') : callN P (n+3) 280 [.lst (L.map ptv)] h Q := by
  refine call_of U.f__law_program rfl ?_
  show WpSs (ctxOf P (callN P (n+2))) b_law_program _ [.val (.lst (L.map ptv)), .no] h
  have ini : (ctxOf P (callN P (n+2))).init 10 = some 260 := Pc.U.i_10
  push_cast [b_law_program, viewT_lst, ini]
  refine ⟨Nat.le_trans (by rw [List.length_map]; omega) sz100, ?_⟩
  refine comp_inv (fun i acc h' => acc = (List.range i).map (fun i => .adr (h.length + i)) ∧ h' = h ++ (L.take i).map prO) ⟨rfl, by simp⟩ (fun _ _ _ _ _ => by trivial) ?_ ?_
  · rintro i x acc h' R hx ⟨rfl, rfl⟩ k1 k2
    obtain ⟨p, hp, rfl⟩ := items_map hx
    have li := (List.getElem?_eq_some_iff.mp hp).1
    simp only [if_true]
    refine made_ok ?_
    have e : (h ++ (L.take i).map prO).length = h.length + i := by rw [List.length_append, List.length_map, List.length_take]; omega
    rw [e]
    refine k1 _ _ ⟨by rw [List.range_succ, List.map_append]; rfl, ?_⟩
    rw [List.take_add_one, hp, List.map_append, List.append_assoc]; rfl
  · rintro acc h' ⟨rfl, rfl⟩
    rw [List.length_map, List.take_length]
    simp only [bltK, view_lst]
    refine call_of Pc.U.f_Program___init__ rfl ?_
    generalize hhd : h ++ L.map prO = h1
    have e : h1.length = h.length + L.length := by rw [← hhd, List.length_append, List.length_map]
    show WpSs (ctxOf P (callN P (n+1))) Pc.b_Program___init__ _ [.val (.adr h1.length), .val (.tup ((List.range L.length).map fun i => .adr (h.length + i)))] _
    push_cast [Pc.b_Program___init__, cells_at0, set_at0, bltK]
    refine ⟨Pc.U.d_10_procedures, by show 0 < 1000; decide, ?_⟩
    rw [e]
    refine q _ (by rw [List.length_append, e]; omega) (fun b hb => ?_) ⟨fun i p hp => ?_, ?_⟩
    · rw [Hd.cells_app (by omega), ← hhd, Hd.cells_app hb]
    · have li := (List.getElem?_eq_some_iff.mp hp).1
      rw [Hd.cells_app (by omega), ← hhd]
      unfold cells
      rw [List.getElem?_append_right (by omega), Nat.add_sub_cancel_left, List.getElem?_map, hp]
      rfl
    · rw [← e]
      exact cells_at0
end
end Gb

set_option maxRecDepth 100000
set_option maxHeartbeats 4000000
namespace Ch
open PySem L2 VL P8
local macro_rules
  | `(tactic| push_cast [$xs,*]) => `(tactic| try simp only [$xs,*, WpSs, WpS, WpE, WpEs, WpBs, WpO, WpN, WpI, WpC, WpT, getS, setS, tgK, setsS, wipeS, k_add, k_addT, k_sub, k_mul, k_fdiv, k_mod, k_neg, k_lt, k_le, k_gt, k_ge, k_eqI, k_neI, k_eqS, k_neS, k_eqB, k_neB, k_is, k_isn, k_isB, k_isnB, k_gIn, ctx_gdct, isNon_non, isNon_int, isNon_str, isNon_lst, isNon_tup, isNon_adr, k_lenS, k_lenL, k_lenR, k_lenT, k_int, k_str, k_abs, tru_bl, augK, ctx_call, ctx_glob, k_in, k_nin, k_inS, k_addS, k_intB, isi_non_int, isi_non_bool, isi_non_str, isi_non_list, isi_non_tuple, isi_bl_int, isi_bl_bool, isi_bl_str, isi_bl_list, isi_bl_tuple, isi_int_int, isi_int_bool, isi_int_str, isi_int_list, isi_int_tuple, isi_str_int, isi_str_bool, isi_str_str, isi_str_list, isi_str_tuple, isi_tup_int, isi_tup_bool, isi_tup_str, isi_tup_list, isi_tup_tuple, isi_lst_int, isi_lst_bool, isi_lst_str, isi_lst_list, isi_lst_tuple, isi_ro_int, isi_ro_bool, isi_ro_str, isi_ro_list, isi_ro_tuple, zs_lst, zs_tup, viewE_lst, viewE_tup])
open Ga (sz sz100 Rec gd_iff Lt3 sl prv pv)
open Gb (sub0 hdS Pg prO ptv)
/-- later heaps: cells were added -/
structure Up (h h' : AHeap) : Prop where
  len : h.length ≤ h'.length
  keep : ∀ b, b < h.length → cells h' b = cells h b
theorem Up.refl {h : AHeap} : Up h h := ⟨Nat.le_refl _, fun _ _ => rfl⟩
theorem Up.trans {h h' h'' : AHeap} (x : Up h h') (y : Up h' h'') : Up h h'' := ⟨Nat.le_trans x.len y.len, fun b hb => (y.keep b (Nat.lt_of_lt_of_le hb x.len)).trans (x.keep b hb)⟩
theorem Up.push {h : AHeap} {l : List Cell} : Up h (h ++ l) := ⟨by simp, fun b hb => Hd.cells_app hb⟩
theorem Pg.lt {h : AHeap} {o : Nat} {L : List Prc} (x : Pg h o L) : o + L.length < h.length := Hd.cells_pos x.g (fun z => by cases z)
theorem Pg.up {h h' : AHeap} {o : Nat} {L : List Prc} (x : Pg h o L) (u : Up h h') : Pg h' o L := by
  have := Pg.lt x
  exact ⟨fun i p hp => (u.keep _ (by have := (List.getElem?_eq_some_iff.mp hp).1; omega)).trans (x.p i p hp), (u.keep _ this).trans x.g⟩
theorem szB_le {d : Nat} (h : d ≤ 5) : szB d ≤ 1628718 := by
  have : d = 0 ∨ d = 1 ∨ d = 2 ∨ d = 3 ∨ d = 4 ∨ d = 5 := by omega
  rcases this with rfl | rfl | rfl | rfl | rfl | rfl <;> decide
theorem Gd.take {ls : List Str} {kn : List Kn} {d : Nat} {b : List P8.St} (g : Gd ls kn d b) (i : Nat) : Gd ls kn d (b.take i) :=
  gd_iff.mpr ⟨by rw [List.length_take]; have := g.len; omega, fun s m => (gd_iff.mp g).2 s (List.mem_of_mem_take m)⟩
theorem flL_take {b : List P8.St} {i : Nat} {s : P8.St} (h : b[i]? = some s) : flL (b.take (i + 1)) = flL (b.take i) ++ flS s := by
  rw [List.take_add_one, h, flL_append]
  show _ ++ (flS s ++ flL []) = _
  rw [show flL [] = [] from rfl, List.append_nil]
theorem leaf {ls : List Str} {kn : List Kn} {R : List P8.St → Prop} {s : P8.St} (g : GdS ls kn R s) : (hdS s ≠ "if" ∧ hdS s ≠ "while" ∧ flS s = [s]) ∨ (∃ r c a b, s = .ite r c a b) ∨ ∃ r c ks f b, s = .wh r c ks f b := by
  cases s with
  | oth k r xs =>
    have gk : k ∉ special ∧ xs.length ≤ 5 := g
    exact .inl ⟨fun e => gk.1 (by rw [show k = ("if" : Str) from e]; decide), fun e => gk.1 (by rw [show k = ("while" : Str) from e]; decide), rfl⟩
  | chg k r x xs =>
    have gk : (k = "put" ∨ k = "swap") ∧ x ∈ ls ∧ xs.length ≤ 5 := g
    refine .inl ⟨?_, ?_, rfl⟩ <;> (show ¬ k = _; rcases gk.1 with rfl | rfl <;> decide)
  | call r x f as => exact .inl ⟨show ¬ (_ : Str) = _ by simp only [hdS]; decide, show ¬ (_ : Str) = _ by simp only [hdS]; decide, rfl⟩
  | ite r c a b => exact .inr (.inl ⟨_, _, _, _, rfl⟩)
  | wh r c ks f b => exact .inr (.inr ⟨_, _, _, _, _, rfl⟩)
theorem nif {r c : AV} {ks : List AV} {f : AV} {b : List P8.St} : hdS (.wh r c ks f b) ≠ "if" := by show ¬ (_ : Str) = _; simp only [hdS]; decide
section
variable {P : Prg} [Pc.U P] [U P] {ls : List Str} {kn : List Kn}
theorem st_step {d : Nat} (hd5 : d ≤ 5) (ih : ∀ d', d = d' + 1 → ∀ {n : Nat} {b : List P8.St} {h : AHeap} {Q : AV → AHeap → Prop}, Gd ls kn d' b → Q (.lst ((flL b).map P8.St.av)) h → callN P (n + d' + 1) 262 [bv b] h Q)
    {n : Nat} {b : List P8.St} {h : AHeap} {Q : AV → AHeap → Prop} (g : Gd ls kn d b) (q : Q (.lst ((flL b).map P8.St.av)) h) : callN P (n + d + 1) 262 [bv b] h Q := by
  refine call_of U.f_statements_in rfl ?_
  show WpSs (ctxOf P (callN P (n + d))) b_statements_in _ [.val (bv b), .no, .no] h
  have hz : sizeLine = 16777216 := rfl
  push_cast [b_statements_in, bv, viewT_tup]
  refine ⟨Nat.zero_le _, ?_⟩
  rw [avs_map]
  refine for_inv (fun i ρ h' => h' = h ∧ ∃ (s2 : Slot), ρ = [.val (bv b), .own (.lst ((flL (b.take i)).map P8.St.av)), s2])
    ⟨rfl, _, by simp only [bv, avs_map]; rfl⟩ (fun _ _ _ _ _ => by trivial) ?_ ?_
  · rintro i x _ h D' hx ⟨rfl, s2, rfl⟩ kn' kc kr kb
    obtain ⟨s, hs, rfl⟩ := items_map hx
    have gs := (gd_iff.mp g).2 s (List.mem_of_getElem? hs)
    have z1 := (Gd.take g i).size
    have z2 := szB_le hd5
    push_cast [b_statements_in_1]
    refine ⟨by rw [List.length_map]; omega, sub0 ?_⟩
    push_cast [WpSs]
    have em : (flL (b.take i)).map P8.St.av ++ [s.av] = (flL (b.take i) ++ [s]).map P8.St.av := by rw [List.map_append]; rfl
    rw [em]
    have vE : ∀ {h : AHeap} {xs : List AV}, viewE h (.lst xs) = some xs := rfl
    have fin : ∀ (s2 : Slot) (xs : List P8.St), xs = flS s → D'.nx [.val (bv b), .own (.lst ((flL (b.take i) ++ xs).map P8.St.av)), s2] h := fun s2 xs e => kn' _ _ ⟨rfl, s2, by rw [e, flL_take hs]⟩
    rcases leaf gs with ⟨n1, n2, e⟩ | ⟨r, c, x, y, rfl⟩ | ⟨r, c, ks, f, y, rfl⟩
    · refine ite_b (fun c => absurd c n1) (fun _ => sub0 ?_)
      push_cast [WpSs]
      exact ite_b (fun c => absurd c n2) (fun _ => fin _ _ e.symm)
    · refine ite_b (fun _ => ?_) (fun c => absurd rfl c)
      obtain ⟨d', rfl⟩ : ∃ d', d = d' + 1 := by cases d with
        | zero => exact gs.1.elim
        | succ d' => exact ⟨d', rfl⟩
      have g1 : Gd ls kn d' x := gs.1
      have g3 : Gd ls kn d' y := gs.2
      have z3 := g1.size
      have z4 := g3.size
      have z5 := szB_le (d := d') (by omega)
      refine k_subL (d := bv x) viewT_tup (fun _ z => by cases z) rfl ?_
      refine ih d' rfl g1 ?_
      simp only [vE]
      refine ⟨by rw [List.length_map, List.length_map, List.length_append, List.length_singleton]; omega, ?_⟩
      refine k_subL (d := bv y) viewT_tup (fun _ z => by cases z) rfl ?_
      refine ih d' rfl g3 ?_
      simp only [vE]
      rw [← List.map_append, ← List.map_append]
      refine ⟨by rw [List.length_map, List.length_map, List.length_append, List.length_append, List.length_singleton]; omega, ?_⟩
      rw [List.append_assoc, List.append_assoc]
      exact fin _ _ (by simp [flS])
    · refine ite_b (fun c => absurd c nif) (fun _ => sub0 ?_)
      push_cast [WpSs]
      refine ite_b (fun _ => ?_) (fun c => absurd rfl c)
      obtain ⟨d', rfl⟩ : ∃ d', d = d' + 1 := by cases d with
        | zero => exact (show False from gs).elim
        | succ d' => exact ⟨d', rfl⟩
      have g3 : Gd ls kn d' y := gs
      have z4 := g3.size
      have z5 := szB_le (d := d') (by omega)
      refine k_subL (d := bv y) viewT_tup (fun _ z => by cases z) rfl ?_
      refine ih d' rfl g3 ?_
      simp only [vE]
      rw [← List.map_append]
      refine ⟨by rw [List.length_map, List.length_map, List.length_append, List.length_singleton]; omega, ?_⟩
      rw [List.append_assoc]
      exact fin _ _ (by simp [flS])
  · rintro _ _ ⟨rfl, s2, rfl⟩
    rw [List.length_map, List.take_length]
    push_cast [b_statements_in_2]
    exact q
theorem st_ok : ∀ (d : Nat), d ≤ 5 → ∀ {n : Nat} {b : List P8.St} {h : AHeap} {Q : AV → AHeap → Prop}, Gd ls kn d b → Q (.lst ((flL b).map P8.St.av)) h → callN P (n + d + 1) 262 [bv b] h Q
  | 0, hd, _, _, _, _, g, q => st_step hd (fun _ e => by cases e) g q
  | d + 1, hd, _, _, _, _, g, q => st_step hd (fun d' e => by cases e; exact st_ok d (by omega)) g q
def flP (p : Prc) : List (Str × AV) := [("row", p.row), ("name", .str p.k.name), ("parameters", .tup (p.k.ps.map pv)), ("needs", .tup p.needs), ("gives", .tup p.gives), ("moves", .tup p.moves), ("falls", p.falls), ("lets", .tup p.lets), ("body", bv p.body)]
theorem fl_n {p : Prc} : List.lookup ("name" : Str) (flP p) = some (.str p.k.name) := rfl
theorem fl_p {p : Prc} : List.lookup ("parameters" : Str) (flP p) = some (.tup (p.k.ps.map pv)) := rfl
theorem fl_b {p : Prc} : List.lookup ("body" : Str) (flP p) = some (bv p.body) := rfl
theorem fl_g {X : AV} : List.lookup ("procedures" : Str) [(("procedures" : Str), X)] = some X := rfl
theorem fdn {n : Nat} : (ctxOf P (callN P n)).fld 11 "name" = true := Pc.U.d_11_name
theorem fdp {n : Nat} : (ctxOf P (callN P n)).fld 11 "parameters" = true := Pc.U.d_11_parameters
theorem fdb {n : Nat} : (ctxOf P (callN P n)).fld 11 "body" = true := Pc.U.d_11_body
theorem fdg {n : Nat} : (ctxOf P (callN P n)).fld 10 "procedures" = true := Pc.U.d_10_procedures
theorem mec {n : Nat} : (ctxOf P (callN P n)).meth 10 "called" = some 261 := Pc.U.m_10_called
theorem prl {n : Nat} : (ctxOf P (callN P n)).prp 11 "list_names" = some 259 := Pc.U.p_11_list_names
theorem Pg.p' {h : AHeap} {o i : Nat} {L : List Prc} {p : Prc} (x : Pg h o L) (hp : L[i]? = some p) : cells h (o + i) = .obj 11 (flP p) := x.p i p hp
theorem called_ok {n o j : Nat} {L : List Prc} {p : Prc} {h : AHeap} {Q : AV → AHeap → Prop} (ok : Ok L) (x : Pg h o L) (hp : L[j]? = some p) (q : Q (.adr (o + j)) h) : callN P (n + 1) 261 [.adr (o + L.length), .str p.k.name] h Q := by
  refine call_of Pc.U.f_Program_called rfl ?_
  show WpSs (ctxOf P (callN P n)) Pc.b_Program_called _ [.val (.adr (o + L.length)), .val (.str p.k.name), .no] h
  have lj := (List.getElem?_eq_some_iff.mp hp).1
  push_cast [Pc.b_Program_called, x.g, fl_g, fdg, viewT_tup, true_and]
  refine for_inv (fun i ρ h' => h' = h ∧ i ≤ j ∧ ∃ (s2 : Slot), ρ = [.val (.adr (o + L.length)), .val (.str p.k.name), s2]) ⟨rfl, Nat.zero_le _, _, rfl⟩ (fun _ _ _ _ _ => by trivial) ?_ ?_
  · rintro i y _ h D' hx ⟨rfl, hi, s2, rfl⟩ kn' kc kr kb
    obtain ⟨li, rfl⟩ := items_range hx
    have hpi : L[i]? = some L[i] := List.getElem?_eq_getElem li
    push_cast [Pc.b_Program_called_1, Pg.p' x hpi, fl_n, fdn, true_and]
    refine ite_b (fun c => ?_) (fun c => ?_)
    · have e := ok.nm i j _ _ hpi hp c
      subst e
      exact kr _ _ q
    · refine kn' _ _ ⟨rfl, ?_, _, rfl⟩
      rcases Nat.lt_or_ge i j with w | w
      · exact w
      · have e : i = j := by omega
        subst e
        rw [hpi] at hp; cases hp
        exact absurd rfl c
  · rintro _ _ ⟨rfl, hi, s2, rfl⟩
    rw [List.length_map, List.length_range] at hi
    omega
theorem lists_ok {n o i : Nat} {L : List Prc} {p : Prc} {h : AHeap} {Q : AV → AHeap → Prop} (ok : Ok L) (x : Pg h o L) (hp : L[i]? = some p) (q : Q (.lst (sl p.lists)) h) : callN P (n + 1) 259 [.adr (o + i)] h Q := by
  refine call_of Pc.U.f_Procedure_list_names rfl ?_
  show WpSs (ctxOf P (callN P n)) Pc.b_Procedure_list_names _ [.val (.adr (o + i)), .no, .no] h
  push_cast [Pc.b_Procedure_list_names, Pg.p' x hp, fl_p, fdp, viewT_tup, true_and]
  have l5 := (ok.ps p (List.mem_of_getElem? hp)).1
  refine ⟨Nat.le_trans (by rw [List.length_map]; omega) sz100, ?_⟩
  refine comp_inv (fun k acc h' => acc = sl (((p.k.ps.take k).filter (·.2)).map (·.1)) ∧ h' = h) ⟨rfl, rfl⟩ (fun _ _ _ _ _ => by trivial) ?_ ?_
  · rintro k y acc h' R hx ⟨rfl, rfl⟩ k1 k2
    obtain ⟨a, ha, rfl⟩ := items_map hx
    rw [show Ga.pv a = .tup [.str a.1, .bl a.2] from rfl]
    push_cast [WpSs]
    have e : (p.k.ps.take (k + 1)).filter (·.2) = (p.k.ps.take k).filter (·.2) ++ [a].filter (·.2) := by rw [List.take_add_one, ha, List.filter_append]; rfl
    rw [e] at k1 k2
    by_cases hb : a.2 = true
    · rw [if_pos hb]
      refine k1 _ _ ⟨?_, rfl⟩
      rw [List.filter_cons, if_pos hb, List.map_append]
      unfold sl; rw [List.map_append]; rfl
    · rw [if_neg hb]
      refine k2 _ ⟨?_, rfl⟩
      rw [List.filter_cons, if_neg hb, List.filter_nil, List.append_nil]
  · rintro acc h' ⟨rfl, rfl⟩
    rw [List.length_map, List.take_length]
    exact q
def hv (o : Nat) (h : Hnd) : AV := .tup [.str h.x, .adr (o + h.j), .str h.p]
theorem handed_ok {n d o i : Nat} {L : List Prc} {X : AV} {b : List P8.St} {h : AHeap} {Q : AV → AHeap → Prop} (ok : Ok L) (x : Pg h o L) (hd5 : d ≤ 5) (g : Gd ls ((L.take (i + 1)).map (·.k)) d b) (q : Q (.lst ((hds L b).map (hv o))) h) : callN P (n + d + 2) 264 [.adr (o + L.length), X, bv b] h Q := by
  refine call_of U.f_handed_lists rfl ?_
  show WpSs (ctxOf P (callN P (n + d + 1))) b_handed_lists _ [.val (.adr (o + L.length)), .val X, .val (bv b), .no, .no, .no, .no, .no] h
  have hz : sizeLine = 16777216 := rfl
  push_cast [b_handed_lists]
  refine ⟨Nat.zero_le _, ?_⟩
  refine st_ok d hd5 g ?_
  push_cast [viewT_lst]
  have z1 := g.size
  have z2 := szB_le hd5
  refine for_inv (fun k ρ h' => h' = h ∧ ∃ (s4 s5 s6 s7 : Slot), ρ = [.val (.adr (o + L.length)), .val X, .val (bv b), .own (.lst ((((flL b).take k).flatMap (P8.hd1 L)).map (hv o))), s4, s5, s6, s7] ∧ (((flL b).take k).flatMap (P8.hd1 L)).length ≤ 5 * k) ⟨rfl, _, _, _, _, rfl, Nat.zero_le _⟩ (fun _ _ _ _ _ => by trivial) ?_ ?_
  · rintro k y _ h D' hx ⟨rfl, s4, s5, s6, s7, rfl, lk⟩ kn' kc kr kb
    obtain ⟨s, hs, rfl⟩ := items_map hx
    have gs := g.all s (List.mem_of_getElem? hs)
    have lk2 := (List.getElem?_eq_some_iff.mp hs).1
    have tk : ((flL b).take (k + 1)).flatMap (P8.hd1 L) = ((flL b).take k).flatMap (P8.hd1 L) ++ P8.hd1 L s := by
      rw [List.take_add_one, hs, List.flatMap_append]; simp
    push_cast [b_handed_lists_2]
    refine sub0 ?_
    push_cast [WpSs]
    by_cases ec : hdS s = "call"
    · obtain ⟨rw_, xx, f, as, rfl⟩ : ∃ rw_ xx f as, s = .call rw_ xx f as := by
        cases s with
        | call r x f as => exact ⟨_, _, _, _, rfl⟩
        | oth k r xs => exact absurd (show k ∈ special by rw [show k = ("call" : Str) from ec]; decide) gs.1
        | chg k r x xs =>
          have : k = "call" := ec
          rcases gs.1 with e | e <;> (rw [this] at e; exact absurd e (by decide))
        | ite r c a b => exact absurd ec (show ¬ (_ : Str) = _ by simp only [hdS]; decide)
        | wh r c ks f b => exact absurd ec (show ¬ (_ : Str) = _ by simp only [hdS]; decide)
      obtain ⟨j, p, hj, hp, rfl, ar, e1⟩ := ok.hd1 ls gs
      refine ite_b (fun _ => ?_) (fun c => absurd ec c)
      have nc : ∀ {X : AV}, List.lookup ("called" : Str) [(("procedures" : Str), X)] = none := fun {X} => rfl
      push_cast [x.g, nc, mec]
      refine k_subL (d := .str p.k.name) viewT_tup (fun _ z => by cases z) rfl ?_
      refine called_ok ok x hp ?_
      push_cast [Pg.p' x hp, fl_p, fdp, true_and]
      refine k_subL (d := .tup as) viewT_tup (fun _ z => by cases z) rfl ?_
      push_cast [zs_tup]
      rw [tk, e1] at kn'
      have l5 := (ok.ps p (List.mem_of_getElem? hp)).1
      have ez : ((p.k.ps.map pv).zip as).map (fun p => AV.tup [p.1, p.2]) = (p.k.ps.zip as).map fun q => .tup [pv q.1, q.2] := by
        rw [List.zip_map_left, List.map_map]; rfl
      rw [ez]
      generalize hF : ((flL b).take k).flatMap (P8.hd1 L) = F at kn' lk ⊢
      have zl : (p.k.ps.zip as).length ≤ 5 := by rw [List.length_zip]; omega
      let f : (Str × Bool) × AV → Option Hnd := fun q => if q.1.2 then some ⟨argN q.2, j, q.1.1⟩ else none
      refine for_inv (fun m ρ h' => h' = h ∧ ∃ (s6 s7 : Slot), ρ = [.val (.adr (o + L.length)), .val X, .val (bv b), .own (.lst ((F ++ ((p.k.ps.zip as).take m).filterMap f).map (hv o))), .val (P8.St.call rw_ xx p.k.name as).av, .val (.adr (o + j)), s6, s7] ∧ (((p.k.ps.zip as).take m).filterMap f).length ≤ m) ⟨rfl, _, _, by rw [List.take_zero, List.filterMap_nil, List.append_nil], Nat.zero_le _⟩ (fun _ _ _ _ _ => by trivial) ?_ ?_
      · rintro m y _ h D2 hy ⟨rfl, s6, s7, rfl, lm⟩ kn2 kc2 kr2 kb2
        obtain ⟨⟨⟨pn, pb⟩, a⟩, ha, rfl⟩ := items_map hy
        have tk2 : ((p.k.ps.zip as).take (m + 1)).filterMap f = ((p.k.ps.zip as).take m).filterMap f ++ [((pn, pb), a)].filterMap f := by
          rw [List.take_add_one, ha, List.filterMap_append]; rfl
        rw [tk2] at kn2
        have hm := (List.getElem?_eq_some_iff.mp ha).1
        rw [List.getElem?_zip_eq_some] at ha
        rw [show Ga.pv (pn, pb) = .tup [.str pn, .bl pb] from rfl]
        push_cast [b_handed_lists_1]
        refine k_subL (d := .bl pb) viewT_tup (fun _ z => by cases z) rfl ?_
        push_cast [WpSs]
        cases pb with
        | true =>
          obtain ⟨z, hz2, rfl⟩ := ar.2 m _ _ ha.1 ha.2 rfl
          simp only [if_true]
          refine k_subL (d := .str z) viewT_tup (fun _ z => by cases z) rfl ?_
          refine k_subL (d := .str pn) viewT_tup (fun _ z => by cases z) rfl ?_
          refine ⟨sz (by simp), by rw [List.length_map, List.length_append]; omega, ?_⟩
          have em : ((F ++ ((p.k.ps.zip as).take m).filterMap f).map (hv o)) ++ [AV.tup [.str z, .adr (o + j), .str pn]] = (F ++ (((p.k.ps.zip as).take m).filterMap f ++ [((pn, true), AV.tup [.str "list", .str z])].filterMap f)).map (hv o) := by
            have : [((pn, true), AV.tup [.str "list", .str z])].filterMap f = [⟨z, j, pn⟩] := rfl
            rw [this, ← List.append_assoc, List.map_append (l₂ := [_])]
            rfl
          rw [em]
          exact kn2 _ _ ⟨rfl, _, _, rfl, by rw [List.length_append]; exact Nat.add_le_add lm (List.length_filterMap_le _ _)⟩
        | false =>
          have : [((pn, false), a)].filterMap f = [] := rfl
          rw [this, List.append_nil] at kn2
          simp only [Bool.false_eq_true, if_false]
          exact kn2 _ _ ⟨rfl, _, _, rfl, by omega⟩
      · rintro _ _ ⟨rfl, s6, s7, rfl, lm⟩
        rw [List.length_map] at lm
        rw [List.length_map, List.take_length] 
        refine kn' _ _ ⟨rfl, _, _, _, _, rfl, ?_⟩
        rw [List.length_append]
        have : (zipH j p.k.ps as).length ≤ (p.k.ps.zip as).length := List.length_filterMap_le _ _
        omega
    · have e1 : P8.hd1 L s = [] := by cases s <;> first | rfl | exact absurd rfl ec
      rw [tk, e1, List.append_nil] at kn'
      exact ite_b (fun c => absurd c ec) (fun _ => kn' _ _ ⟨rfl, _, _, _, _, rfl, by omega⟩)
  · rintro _ _ ⟨rfl, s4, s5, s6, s7, rfl, lk⟩
    rw [List.length_map, List.take_length]
    push_cast [b_handed_lists_3]
    exact q
end
end Ch

set_option maxRecDepth 100000
set_option maxHeartbeats 4000000
namespace Ch
open PySem L2 VL P8
local macro_rules
  | `(tactic| push_cast [$xs,*]) => `(tactic| try simp only [$xs,*, WpSs, WpS, WpE, WpEs, WpBs, WpO, WpN, WpI, WpC, WpT, getS, setS, tgK, setsS, wipeS, k_add, k_addT, k_sub, k_mul, k_fdiv, k_mod, k_neg, k_lt, k_le, k_gt, k_ge, k_eqI, k_neI, k_eqS, k_neS, k_eqB, k_neB, k_is, k_isn, k_isB, k_isnB, k_gIn, ctx_gdct, isNon_non, isNon_int, isNon_str, isNon_lst, isNon_tup, isNon_adr, k_lenS, k_lenL, k_lenR, k_lenT, k_int, k_str, k_abs, tru_bl, augK, ctx_call, ctx_glob, k_in, k_nin, k_inS, k_addS, k_intB, isi_non_int, isi_non_bool, isi_non_str, isi_non_list, isi_non_tuple, isi_bl_int, isi_bl_bool, isi_bl_str, isi_bl_list, isi_bl_tuple, isi_int_int, isi_int_bool, isi_int_str, isi_int_list, isi_int_tuple, isi_str_int, isi_str_bool, isi_str_str, isi_str_list, isi_str_tuple, isi_tup_int, isi_tup_bool, isi_tup_str, isi_tup_list, isi_tup_tuple, isi_lst_int, isi_lst_bool, isi_lst_str, isi_lst_list, isi_lst_tuple, isi_ro_int, isi_ro_bool, isi_ro_str, isi_ro_list, isi_ro_tuple, zs_lst, zs_tup, viewE_lst, viewE_tup])
open Ga (sz sz100 Rec gd_iff Lt3 sl prv pv k_inT)
open Gb (sub0 hdS Pg prO ptv)
open Hd (view_adr)
theorem k_inDk {h : AHeap} {x : Str} {K : List Str} {Q : KA} (q : Q (.bl (decide (x ∈ K)))) : inK h false (.str x) (.dct (dk K)) Q := by
  show Q (.bl (getD (dk K) (.inr x)).isSome)
  rw [dk_get]; exact q
theorem putK {x : Str} {K : List Str} {R : Cell → Prop} (l : K.length ≤ 10) (q : R (.dct (dk (addK K x)))) : putC (.dct (dk K)) (.str x) (.bl true) R := by
  show (dk K).length < 100000 ∧ R (.dct (putD (dk K) (.inr x) (.bl true)))
  rw [dk_put, dk_len]
  exact ⟨by omega, q⟩
theorem lists_le {p : Prc} : p.lists.length ≤ p.k.ps.length := by
  unfold Prc.lists
  rw [List.length_map]
  exact List.length_filter_le _ _
/-- put or swap, and what it changes -/
theorem chg_iff {ls : List Str} {kn : List Kn} {R : List P8.St → Prop} {s : P8.St} (g : GdS ls kn R s) : (chgN s).isSome = decide (hdS s ∈ (["put", "swap"] : List Str)) := by
  cases s with
  | oth k r xs =>
    have gk : k ∉ special ∧ xs.length ≤ 5 := g
    have : ¬ k ∈ (["put", "swap"] : List Str) := fun m => gk.1 (by
      simp only [List.mem_cons, List.not_mem_nil, or_false] at m
      rcases m with rfl | rfl <;> decide)
    exact (decide_eq_false this).symm
  | chg k r x xs =>
    have gk : (k = "put" ∨ k = "swap") ∧ x ∈ ls ∧ xs.length ≤ 5 := g
    have : k ∈ (["put", "swap"] : List Str) := by rcases gk.1 with rfl | rfl <;> decide
    exact (decide_eq_true this).symm
  | call r x f as => exact (decide_eq_false (show ¬ ("call" : Str) ∈ (["put", "swap"] : List Str) by decide)).symm
  | ite r c a b => exact (decide_eq_false (show ¬ ("if" : Str) ∈ (["put", "swap"] : List Str) by decide)).symm
  | wh r c ks f b => exact (decide_eq_false (show ¬ ("while" : Str) ∈ (["put", "swap"] : List Str) by decide)).symm
theorem chg_sub {s : P8.St} {h : AHeap} {Q : KA} (e : (chgN s).isSome = true) (q : Q (.str (fChg s))) : subK h s.av (.int 2) Q := by
  cases s with
  | chg k r x xs =>
    refine k_subL (d := .str x) viewT_tup (fun _ z => by cases z) ?_ q
    show atI (AV.str k :: r :: AV.str x :: xs) ((2 : Nat) : Int) = _
    rw [VL.atI_nat (by simp)]; rfl
  | _ => cases e
theorem chg_in {ls : List Str} {kn : List Kn} {R : List P8.St → Prop} {s : P8.St} (g : GdS ls kn R s) (e : (chgN s).isSome = true) : fChg s ∈ ls := by
  cases s with
  | chg k r x xs => exact (show (k = "put" ∨ k = "swap") ∧ x ∈ ls ∧ xs.length ≤ 5 from g).2.1
  | _ => cases e
/-- a list of names among these, each once -/
structure Few (ls K : List Str) : Prop where
  nd : K.Nodup
  mem : ∀ x ∈ K, x ∈ ls
theorem Few.nil {ls : List Str} : Few ls [] := ⟨.nil, nofun⟩
theorem Few.add {ls K : List Str} (f : Few ls K) {x : Str} (m : x ∈ ls) : Few ls (addK K x) := ⟨addK_nd f.nd, fun y h => by
  rcases mem_addK.mp h with h | rfl
  · exact f.mem y h
  · exact m⟩
theorem Few.len {ls K : List Str} (f : Few ls K) (l : ls.length ≤ 10) : K.length ≤ 10 := Nat.le_trans (nd_le K ls f.nd f.mem) l
section
variable {P : Prg} [Pc.U P] [U P]
theorem loop1 {n d m : Nat} {C : VL.Ctx} {D' : Kt} {ls : List Str} {kn : List Kn} {K : List Str} {s : P8.St} {X0 X1 : AV} {s4 s5 s6 s7 s8 : Slot} {h : AHeap} (f : Few ls K) (l10 : ls.length ≤ 10) (gs : GdS ls kn (fun _ => True) s)
    (q : (f' : Few ls (if (chgN s).isSome = true then addK K (fChg s) else K)) → D'.nx [.val X0, .val X1, .own (.dct (dk (if (chgN s).isSome = true then addK K (fChg s) else K))), .val s.av, s4, s5, s6, s7, s8] h) :
    WpSs C b_changed_names_1 D' [.val X0, .val X1, .own (.dct (dk K)), .val s.av, s4, s5, s6, s7, s8] h := by
  push_cast [b_changed_names_1]
  refine sub0 ⟨sz (by simp), ?_⟩
  refine k_inT (ls := ["put", "swap"]) viewT_tup ?_
  rw [← chg_iff gs]
  by_cases e : (chgN s).isSome = true
  · rw [if_pos e] at q
    push_cast [e, if_true]
    refine chg_sub e ?_
    exact putK (f.len l10) (q (f.add (chg_in gs e)))
  · rw [if_neg e] at q
    rw [Bool.eq_false_iff.mpr e]
    push_cast [WpSs]
    exact q f
theorem Ok.ls10 {L : List Prc} (ok : Ok L) {p : Prc} (m : p ∈ L) : p.lists.length ≤ 10 := by
  have := (ok.ps p m).1
  have := lists_le (p := p)
  omega
theorem name_iff {L : List Prc} (ok : Ok L) {i j : Nat} {p q : Prc} (hp : L[i]? = some p) (hq : L[j]? = some q) : (p.k.name = q.k.name) ↔ i = j :=
  ⟨ok.nm i j p q hp hq, fun e => by subst e; rw [hp] at hq; cases hq; rfl⟩
/-- what changed_lists gives -/
def LsOk (P : Prg) (L : List Prc) (o j lv : Nat) : Prop := ∀ {n : Nat} {p : Prc} {h : AHeap} {Q : AV → AHeap → Prop}, Pg h o L → L[j]? = some p → (∀ (a : Nat) (h' : AHeap), Up h h' → h.length ≤ a → cells h' a = .lst (sl (p.lists.filter (cB L j))) → Q (.adr a) h') → callN P (n + lv) 267 [.adr (o + L.length), .adr (o + j)] h Q
def NmOk (P : Prg) (L : List Prc) (o i lv : Nat) : Prop := ∀ {n : Nat} {p : Prc} {h : AHeap} {Q : AV → AHeap → Prop}, Pg h o L → L[i]? = some p → (∀ (h' : AHeap), Up h h' → Q (.dct (dk (nmR L i p.body p.lists.length))) h') → callN P (n + lv) 266 [.adr (o + L.length), .adr (o + i)] h Q
theorem LsOk.up {L : List Prc} {o j lv lv' : Nat} (x : LsOk P L o j lv) (hl : lv ≤ lv') : LsOk P L o j lv' := by
  intro n p h Q a b c
  rw [show n + lv' = (n + (lv' - lv)) + lv by omega]
  exact x a b c
theorem names_step {L : List Prc} {o i lv : Nat} (ok : Ok L) (ih : ∀ j, j < i → LsOk P L o j (lv + 9)) : NmOk P L o i (lv + 10) := by
  intro n p h Q x hp q
  refine call_of U.f_changed_names rfl ?_
  show WpSs (ctxOf P (callN P (n + lv + 9))) b_changed_names _ [.val (.adr (o + L.length)), .val (.adr (o + i)), .no, .no, .no, .no, .no, .no, .no] h
  have gd := ok.gd i p hp
  have mp := List.mem_of_getElem? hp
  have l10 := Ok.ls10 ok mp
  push_cast [b_changed_names]
  refine call_of U.f_statements_of rfl ?_
  show WpSs (ctxOf P (callN P (n + lv + 8))) b_statements_of _ [.val (.adr (o + i))] h
  push_cast [b_statements_of, Pg.p' x hp, fl_b, fdb, true_and]
  refine st_ok 5 (by omega) gd ?_
  push_cast [viewT_lst]
  refine for_inv (fun m ρ h' => h' = h ∧ Few p.lists (pass tChg fChg [] ((flL p.body).take m)) ∧ ∃ (s3 s4 s5 s6 s7 s8 : Slot), ρ = [.val (.adr (o + L.length)), .val (.adr (o + i)), .own (.dct (dk (pass tChg fChg [] ((flL p.body).take m)))), s3, s4, s5, s6, s7, s8])
    ⟨rfl, .nil, _, _, _, _, _, _, rfl⟩ (fun _ _ _ _ _ => by trivial) ?_ ?_
  · rintro m y _ h D' hx ⟨rfl, f, s3, s4, s5, s6, s7, s8, rfl⟩ kn' kc kr kb
    obtain ⟨s, hs, rfl⟩ := items_map hx
    have gs := gd.all s (List.mem_of_getElem? hs)
    have e : pass tChg fChg [] ((flL p.body).take (m + 1)) = if (chgN s).isSome = true then addK (pass tChg fChg [] ((flL p.body).take m)) (fChg s) else pass tChg fChg [] ((flL p.body).take m) := by
      rw [List.take_add_one, hs]; exact pass_snoc
    rw [e] at kn'
    exact loop1 (n := 0) (d := 0) (m := 0) f l10 gs fun f' => kn' _ _ ⟨rfl, f', _, _, _, _, _, _, rfl⟩
  rintro _ _ ⟨rfl, f1, s3, s4, s5, s6, s7, s8, rfl⟩
  rw [List.length_map, List.take_length] at f1 ⊢
  rename_i h
  push_cast [b_changed_names_7, Pg.p' x hp, fl_b, fdb, true_and]
  refine handed_ok (d := 5) ok x (by omega) gd ?_
  push_cast [viewT_lst]
  refine for_inv (fun m ρ h' => Up h h' ∧ Few p.lists (pass (tLow L i) (·.x) (nm1 p.body) ((hds L p.body).take m)) ∧ ∃ (s3 s5 s6 s7 s8 : Slot), ρ = [.val (.adr (o + L.length)), .val (.adr (o + i)), .own (.dct (dk (pass (tLow L i) (·.x) (nm1 p.body) ((hds L p.body).take m)))), s3, .val (.lst ((hds L p.body).map (hv o))), s5, s6, s7, s8])
    ⟨.refl, f1, _, _, _, _, _, rfl⟩ (fun _ _ _ _ _ => by trivial) ?_ ?_
  · rintro m y _ h1 D' hx ⟨u, f, s3, s5, s6, s7, s8, rfl⟩ kn' kc kr kb
    obtain ⟨d, hs, rfl⟩ := items_map hx
    obtain ⟨hj, hxl, pj, hpj, hpp⟩ := ok.mem_hds gd (List.mem_of_getElem? hs)
    have x1 := Pg.up x u
    have e : pass (tLow L i) (·.x) (nm1 p.body) ((hds L p.body).take (m + 1)) = if tLow L i (pass (tLow L i) (·.x) (nm1 p.body) ((hds L p.body).take m)) d = true then addK (pass (tLow L i) (·.x) (nm1 p.body) ((hds L p.body).take m)) d.x else pass (tLow L i) (·.x) (nm1 p.body) ((hds L p.body).take m) := by
      rw [List.take_add_one, hs]; exact pass_snoc
    rw [e] at kn'
    generalize hK : pass (tLow L i) (·.x) (nm1 p.body) ((hds L p.body).take m) = K at kn' f ⊢
    have te : tLow L i K d = (decide (d.j ≠ i) && cB L d.j d.p) := rfl
    rw [show hv o d = .tup [.str d.x, .adr (o + d.j), .str d.p] from rfl]
    push_cast [b_changed_names_2, Pg.p' x1 hp, Pg.p' x1 hpj, fl_n, fdn, true_and]
    by_cases ej : d.j = i
    · have c1 := (name_iff ok hpj hp).mpr ej
      have t0 : ¬ tLow L i K d = true := by rw [te]; simp [ej]
      rw [if_neg t0] at kn'
      push_cast [c1, decide_true, Bool.not_true, Bool.false_eq_true, if_false]
      exact kn' _ _ ⟨u, f, _, _, _, _, _, rfl⟩
    · have c1 : ¬ pj.k.name = p.k.name := fun z => ej ((name_iff ok hpj hp).mp z)
      push_cast [c1, decide_false, Bool.not_false, if_true]
      have te2 : tLow L i K d = cB L d.j d.p := by rw [te]; simp [ej]
      refine (ih d.j (by omega)) x1 hpj fun a h2 u2 ha ca => ?_
      refine k_inT (view_adr ca) ?_
      have md : decide (d.p ∈ pj.lists.filter (cB L d.j)) = cB L d.j d.p := by
        by_cases c : cB L d.j d.p = true
        · rw [c]; exact decide_eq_true (List.mem_filter.mpr ⟨hpp, c⟩)
        · rw [Bool.eq_false_iff.mpr c]; exact decide_eq_false fun m => c (List.mem_filter.mp m).2
      rw [md, ← te2]
      by_cases t : tLow L i K d = true
      · rw [if_pos t] at kn'
        push_cast [t, if_true]
        exact putK (f.len l10) (kn' _ _ ⟨u.trans u2, f.add hxl, _, _, _, _, _, rfl⟩)
      · rw [if_neg t] at kn'
        rw [Bool.eq_false_iff.mpr t]
        push_cast [Bool.false_eq_true, if_false]
        exact kn' _ _ ⟨u.trans u2, f, _, _, _, _, _, rfl⟩
  rintro _ h1 ⟨u, f2, s3, s5, s6, s7, s8, rfl⟩
  rw [List.length_map, List.take_length] at f2 ⊢
  have x1 := Pg.up x u
  have e2 : pass (tLow L i) (·.x) (nm1 p.body) (hds L p.body) = nmR L i p.body 0 := rfl
  rw [e2] at f2 ⊢
  push_cast [b_changed_names_6, Pg.p' x1 hp, prl]
  refine lists_ok ok x1 hp ?_
  push_cast [viewT_lst]
  refine for_inv (fun r ρ h' => h' = h1 ∧ Few p.lists (nmR L i p.body r) ∧ ∃ (s3 s5 s6 s7 s8 : Slot), ρ = [.val (.adr (o + L.length)), .val (.adr (o + i)), .own (.dct (dk (nmR L i p.body r))), s3, .val (.lst ((hds L p.body).map (hv o))), s5, s6, s7, s8])
    ⟨rfl, f2, _, _, _, _, _, rfl⟩ (fun _ _ _ _ _ => by trivial) ?_ ?_
  · rintro r y _ h1 D' hx ⟨rfl, f, s3, s5, s6, s7, s8, rfl⟩ kn' kc kr kb
    push_cast [b_changed_names_4, viewT_lst]
    refine for_inv (fun m ρ h' => h' = h1 ∧ Few p.lists (pass (tOwn i) (·.x) (nmR L i p.body r) ((hds L p.body).take m)) ∧ ∃ (s3 s5 s6 s7 s8 : Slot), ρ = [.val (.adr (o + L.length)), .val (.adr (o + i)), .own (.dct (dk (pass (tOwn i) (·.x) (nmR L i p.body r) ((hds L p.body).take m)))), s3, .val (.lst ((hds L p.body).map (hv o))), s5, s6, s7, s8])
      ⟨rfl, f, _, _, _, _, _, rfl⟩ (fun _ _ _ _ _ => by trivial) ?_ ?_
    · rintro m y _ h1 D2 hx ⟨rfl, f, s3, s5, s6, s7, s8, rfl⟩ kn2 kc2 kr2 kb2
      obtain ⟨d, hs, rfl⟩ := items_map hx
      obtain ⟨hj, hxl, pj, hpj, hpp⟩ := ok.mem_hds gd (List.mem_of_getElem? hs)
      have e : pass (tOwn i) (·.x) (nmR L i p.body r) ((hds L p.body).take (m + 1)) = if tOwn i (pass (tOwn i) (·.x) (nmR L i p.body r) ((hds L p.body).take m)) d = true then addK (pass (tOwn i) (·.x) (nmR L i p.body r) ((hds L p.body).take m)) d.x else pass (tOwn i) (·.x) (nmR L i p.body r) ((hds L p.body).take m) := by
        rw [List.take_add_one, hs]; exact pass_snoc
      rw [e] at kn2
      generalize hK : pass (tOwn i) (·.x) (nmR L i p.body r) ((hds L p.body).take m) = K at kn2 f ⊢
      have te : tOwn i K d = (decide (d.j = i) && decide (d.p ∈ K)) := rfl
      rw [show hv o d = .tup [.str d.x, .adr (o + d.j), .str d.p] from rfl]
      push_cast [b_changed_names_3, Pg.p' x1 hp, Pg.p' x1 hpj, fl_n, fdn, true_and]
      by_cases ej : d.j = i
      · have c1 := (name_iff ok hpj hp).mpr ej
        push_cast [c1, decide_true, if_true]
        refine k_inDk ?_
        have te2 : tOwn i K d = decide (d.p ∈ K) := by rw [te]; simp [ej]
        rw [← te2]
        by_cases t : tOwn i K d = true
        · rw [if_pos t] at kn2
          push_cast [t, if_true]
          exact putK (f.len l10) (kn2 _ _ ⟨rfl, f.add hxl, _, _, _, _, _, rfl⟩)
        · rw [if_neg t] at kn2
          rw [Bool.eq_false_iff.mpr t]
          push_cast [Bool.false_eq_true, if_false]
          exact kn2 _ _ ⟨rfl, f, _, _, _, _, _, rfl⟩
      · have c1 : ¬ pj.k.name = p.k.name := fun z => ej ((name_iff ok hpj hp).mp z)
        have t0 : ¬ tOwn i K d = true := by rw [te]; simp [ej]
        rw [if_neg t0] at kn2
        push_cast [c1, decide_false, Bool.false_eq_true, if_false]
        exact kn2 _ _ ⟨rfl, f, _, _, _, _, _, rfl⟩
    rintro _ _ ⟨rfl, f3, s3, s5, s6, s7, s8, rfl⟩
    rw [List.length_map, List.take_length] at f3 ⊢
    exact kn' _ _ ⟨rfl, f3, _, _, _, _, _, rfl⟩
  rintro _ _ ⟨rfl, f4, s3, s5, s6, s7, s8, rfl⟩
  have el : (sl p.lists).length = p.lists.length := by simp [sl]
  rw [el] at f4 ⊢
  push_cast [b_changed_names_5]
  exact q _ u
end
end Ch

set_option maxRecDepth 100000
set_option maxHeartbeats 4000000
namespace Ch
open PySem L2 VL P8
local macro_rules
  | `(tactic| push_cast [$xs,*]) => `(tactic| try simp only [$xs,*, WpSs, WpS, WpE, WpEs, WpBs, WpO, WpN, WpI, WpC, WpT, getS, setS, tgK, setsS, wipeS, k_add, k_addT, k_sub, k_mul, k_fdiv, k_mod, k_neg, k_lt, k_le, k_gt, k_ge, k_eqI, k_neI, k_eqS, k_neS, k_eqB, k_neB, k_is, k_isn, k_isB, k_isnB, k_gIn, ctx_gdct, isNon_non, isNon_int, isNon_str, isNon_lst, isNon_tup, isNon_adr, k_lenS, k_lenL, k_lenR, k_lenT, k_int, k_str, k_abs, tru_bl, augK, ctx_call, ctx_glob, k_in, k_nin, k_inS, k_addS, k_intB, isi_non_int, isi_non_bool, isi_non_str, isi_non_list, isi_non_tuple, isi_bl_int, isi_bl_bool, isi_bl_str, isi_bl_list, isi_bl_tuple, isi_int_int, isi_int_bool, isi_int_str, isi_int_list, isi_int_tuple, isi_str_int, isi_str_bool, isi_str_str, isi_str_list, isi_str_tuple, isi_tup_int, isi_tup_bool, isi_tup_str, isi_tup_list, isi_tup_tuple, isi_lst_int, isi_lst_bool, isi_lst_str, isi_lst_list, isi_lst_tuple, isi_ro_int, isi_ro_bool, isi_ro_str, isi_ro_list, isi_ro_tuple, zs_lst, zs_tup, viewE_lst, viewE_tup])
open Ga (sz sz100 Rec gd_iff Lt3 sl prv pv k_inT)
open Gb (sub0 hdS Pg prO ptv)
open Hd (view_adr)
theorem cells_last (h : AHeap) (c : Cell) : cells (h ++ [c]) h.length = c := by simp [cells]
/-- a list of the names that pass a test -/
theorem comp_ft {B : AV → AHeap → (Option AV → AHeap → Prop) → Prop} {t : Str → Bool} {h : AHeap} {xs : List Str} {Q : List AV → AHeap → Prop} {chk : AHeap → Prop} (hc : chk h) (hB : ∀ (a : Str) (R : Option AV → AHeap → Prop), a ∈ xs → R (if t a = true then some (.str a) else none) h → B (.str a) h R) (q : Q (sl (xs.filter t)) h) :
    compL B chk (sl xs) [] h Q := by
  refine comp_inv (fun i acc h' => acc = sl ((xs.take i).filter t) ∧ h' = h) ⟨rfl, rfl⟩ (fun _ _ _ _ e => by rw [e.2]; exact hc) ?_ ?_
  · rintro i x acc h' R hx ⟨rfl, rfl⟩ k1 k2
    obtain ⟨a, ha, rfl⟩ := items_map hx
    have e : (xs.take (i + 1)).filter t = (xs.take i).filter t ++ [a].filter t := by rw [List.take_add_one, ha, List.filter_append]; rfl
    rw [e] at k1 k2
    refine hB a R (List.mem_of_getElem? ha) ?_
    by_cases m : t a = true
    · rw [if_pos m]
      refine k1 _ _ ⟨?_, rfl⟩
      rw [List.filter_cons, if_pos m]
      unfold sl; rw [List.map_append]; rfl
    · rw [if_neg m]
      refine k2 _ ⟨?_, rfl⟩
      rw [List.filter_cons, if_neg m, List.filter_nil, List.append_nil]
  · rintro acc h' ⟨rfl, rfl⟩
    rw [show (sl xs).length = xs.length by simp [sl], List.take_length]
    exact q
section
variable {P : Prg} [Pc.U P] [U P]
theorem lists_step {L : List Prc} {o i lv : Nat} (ok : Ok L) (nm : NmOk P L o i (lv + 10)) : LsOk P L o i (lv + 11) := by
  intro n p h Q x hp q
  refine call_of U.f_changed_lists rfl ?_
  show WpSs (ctxOf P (callN P (n + lv + 10))) b_changed_lists _ [.val (.adr (o + L.length)), .val (.adr (o + i)), .no, .no] h
  have l10 := Ok.ls10 ok (List.mem_of_getElem? hp)
  push_cast [b_changed_lists]
  rw [show n + lv + 10 = n + (lv + 10) by omega]
  refine nm x hp fun h1 u1 => ?_
  have x1 := Pg.up x u1
  push_cast [Pg.p' x1 hp, prl]
  rw [show n + (lv + 10) = n + lv + 9 + 1 by omega]
  refine lists_ok ok x1 hp ?_
  push_cast [viewT_lst]
  refine ⟨sz (by simp [sl]; omega), ?_⟩
  refine comp_ft (t := fun x => decide (x ∈ nmR L i p.body p.lists.length)) trivial (fun a R _ r => k_inDk ?_) ?_
  · show if _ then _ else _
    by_cases m : a ∈ nmR L i p.body p.lists.length
    · rw [if_pos (decide_eq_true m)] at r ⊢; exact r
    · rw [if_neg (by rw [decide_eq_true_eq]; exact m)] at r ⊢; exact r
  · have e : p.lists.filter (fun x => decide (x ∈ nmR L i p.body p.lists.length)) = p.lists.filter (cB L i) := by
      refine List.filter_congr fun x _ => ?_
      by_cases c : cB L i x = true
      · rw [c]; exact decide_eq_true ((mem_nmR ok hp).mpr ((cB_iff ok).mp c))
      · rw [Bool.eq_false_iff.mpr c]; exact decide_eq_false fun m => c ((cB_iff ok).mpr ((mem_nmR ok hp).mp m))
    rw [e]
    exact q _ _ (u1.trans Up.push) u1.len (cells_last _ _)
theorem NmOk.up {L : List Prc} {o j lv lv' : Nat} (x : NmOk P L o j lv) (hl : lv ≤ lv') : NmOk P L o j lv' := by
  intro n p h Q a b c
  rw [show n + lv' = (n + (lv' - lv)) + lv by omega]
  exact x a b c
theorem both_ok {L : List Prc} {o : Nat} (ok : Ok L) (i : Nat) : NmOk P L o i (2 * i + 10) ∧ LsOk P L o i (2 * i + 11) := by
  induction i using Nat.strongRecOn with
  | _ i ih =>
    have a : NmOk P L o i (2 * i + 10) := names_step ok fun j hj => LsOk.up (ih j hj).2 (by omega)
    exact ⟨a, lists_step ok a⟩
/-- three procedures at most: one level for all -/
theorem lists_all {L : List Prc} {o i : Nat} (ok : Ok L) (hi : i < L.length) : LsOk P L o i 15 := LsOk.up (both_ok ok i).2 (by have := ok.few; omega)
theorem names_all {L : List Prc} {o i : Nat} (ok : Ok L) (hi : i < L.length) : NmOk P L o i 14 := NmOk.up (both_ok ok i).1 (by have := ok.few; omega)
theorem loop1' {C : VL.Ctx} {D' : Kt} {ls : List Str} {kn : List Kn} {K : List Str} {s : P8.St} {X0 X1 X2 : AV} {s5 s6 s7 s8 : Slot} {h : AHeap} (f : Few ls K) (l10 : ls.length ≤ 10) (gs : GdS ls kn (fun _ => True) s)
    (q : (f' : Few ls (if (chgN s).isSome = true then addK K (fChg s) else K)) → D'.nx [.val X0, .val X1, .val X2, .own (.dct (dk (if (chgN s).isSome = true then addK K (fChg s) else K))), .val s.av, s5, s6, s7, s8] h) :
    WpSs C b_changed_in_1 D' [.val X0, .val X1, .val X2, .own (.dct (dk K)), .val s.av, s5, s6, s7, s8] h := by
  push_cast [b_changed_in_1]
  refine sub0 ⟨sz (by simp), ?_⟩
  refine k_inT (ls := ["put", "swap"]) viewT_tup ?_
  rw [← chg_iff gs]
  by_cases e : (chgN s).isSome = true
  · rw [if_pos e] at q
    push_cast [e, if_true]
    refine chg_sub e ?_
    exact putK (f.len l10) (q (f.add (chg_in gs e)))
  · rw [if_neg e] at q
    rw [Bool.eq_false_iff.mpr e]
    push_cast [WpSs]
    exact q f
theorem in_ok {n d o i : Nat} {L : List Prc} {p : Prc} {b : List P8.St} {h : AHeap} {Q : AV → AHeap → Prop} (ok : Ok L) (x : Pg h o L) (hp : L[i]? = some p) (hd5 : d ≤ 5) (gd : Gd p.lists ((L.take (i + 1)).map (·.k)) d b)
    (q : ∀ (a : Nat) (h' : AHeap), Up h h' → h.length ≤ a → cells h' a = .lst (sl (p.lists.filter (tch L (rounds L 20) b))) → Q (.adr a) h') : callN P (n + 16) 265 [.adr (o + L.length), .adr (o + i), bv b] h Q := by
  refine call_of U.f_changed_in rfl ?_
  show WpSs (ctxOf P (callN P (n + 15))) b_changed_in _ [.val (.adr (o + L.length)), .val (.adr (o + i)), .val (bv b), .no, .no, .no, .no, .no, .no] h
  have l10 := Ok.ls10 ok (List.mem_of_getElem? hp)
  have li := (List.getElem?_eq_some_iff.mp hp).1
  push_cast [b_changed_in]
  rw [show n + 15 = (n + 14 - d) + d + 1 by omega]
  refine st_ok d hd5 gd ?_
  push_cast [viewT_lst]
  refine for_inv (fun m ρ h' => h' = h ∧ Few p.lists (pass tChg fChg [] ((flL b).take m)) ∧ ∃ (s4 s5 s6 s7 s8 : Slot), ρ = [.val (.adr (o + L.length)), .val (.adr (o + i)), .val (bv b), .own (.dct (dk (pass tChg fChg [] ((flL b).take m)))), s4, s5, s6, s7, s8])
    ⟨rfl, .nil, _, _, _, _, _, rfl⟩ (fun _ _ _ _ _ => by trivial) ?_ ?_
  · rintro m y _ h D' hx ⟨rfl, f, s4, s5, s6, s7, s8, rfl⟩ kn' kc kr kb
    obtain ⟨s, hs, rfl⟩ := items_map hx
    have gs := gd.all s (List.mem_of_getElem? hs)
    have e : pass tChg fChg [] ((flL b).take (m + 1)) = if (chgN s).isSome = true then addK (pass tChg fChg [] ((flL b).take m)) (fChg s) else pass tChg fChg [] ((flL b).take m) := by
      rw [List.take_add_one, hs]; exact pass_snoc
    rw [e] at kn'
    exact loop1' f l10 gs fun f' => kn' _ _ ⟨rfl, f', _, _, _, _, _, rfl⟩
  rintro _ _ ⟨rfl, f1, s4, s5, s6, s7, s8, rfl⟩
  rw [List.length_map, List.take_length] at f1 ⊢
  rename_i h
  push_cast [b_changed_in_6]
  rw [show n + 14 - d + d + 1 = (n + 13 - d) + d + 2 by omega]
  refine handed_ok ok x hd5 gd ?_
  rw [show (n + 13 - d) + d + 2 = n + 15 by omega]
  push_cast [viewT_lst]
  refine for_inv (fun m ρ h' => Up h h' ∧ Few p.lists (pass (tLow L i) (·.x) (nm1 b) ((hds L b).take m)) ∧ ∃ (s4 s5 s6 s7 s8 : Slot), ρ = [.val (.adr (o + L.length)), .val (.adr (o + i)), .val (bv b), .own (.dct (dk (pass (tLow L i) (·.x) (nm1 b) ((hds L b).take m)))), s4, s5, s6, s7, s8])
    ⟨.refl, f1, _, _, _, _, _, rfl⟩ (fun _ _ _ _ _ => by trivial) ?_ ?_
  · rintro m y _ h1 D' hx ⟨u, f, s4, s5, s6, s7, s8, rfl⟩ kn' kc kr kb
    obtain ⟨d', hs, rfl⟩ := items_map hx
    obtain ⟨hj, hxl, pj, hpj, hpp⟩ := ok.mem_hds gd (List.mem_of_getElem? hs)
    have x1 := Pg.up x u
    have e : pass (tLow L i) (·.x) (nm1 b) ((hds L b).take (m + 1)) = if tLow L i (pass (tLow L i) (·.x) (nm1 b) ((hds L b).take m)) d' = true then addK (pass (tLow L i) (·.x) (nm1 b) ((hds L b).take m)) d'.x else pass (tLow L i) (·.x) (nm1 b) ((hds L b).take m) := by
      rw [List.take_add_one, hs]; exact pass_snoc
    rw [e] at kn'
    generalize hK : pass (tLow L i) (·.x) (nm1 b) ((hds L b).take m) = K at kn' f ⊢
    have te : tLow L i K d' = (decide (d'.j ≠ i) && cB L d'.j d'.p) := rfl
    rw [show hv o d' = .tup [.str d'.x, .adr (o + d'.j), .str d'.p] from rfl]
    push_cast [b_changed_in_2, Pg.p' x1 hp, Pg.p' x1 hpj, fl_n, fdn, true_and]
    by_cases ej : d'.j = i
    · have c1 := (name_iff ok hpj hp).mpr ej
      have t0 : ¬ tLow L i K d' = true := by rw [te]; simp [ej]
      rw [if_neg t0] at kn'
      push_cast [c1, decide_true, Bool.not_true, Bool.false_eq_true, if_false]
      exact kn' _ _ ⟨u, f, _, _, _, _, _, rfl⟩
    · have c1 : ¬ pj.k.name = p.k.name := fun z => ej ((name_iff ok hpj hp).mp z)
      push_cast [c1, decide_false, Bool.not_false, if_true]
      have te2 : tLow L i K d' = cB L d'.j d'.p := by rw [te]; simp [ej]
      refine (lists_all ok (by omega)) x1 hpj fun a h2 u2 ha ca => ?_
      refine k_inT (view_adr ca) ?_
      have md : decide (d'.p ∈ pj.lists.filter (cB L d'.j)) = cB L d'.j d'.p := by
        by_cases c : cB L d'.j d'.p = true
        · rw [c]; exact decide_eq_true (List.mem_filter.mpr ⟨hpp, c⟩)
        · rw [Bool.eq_false_iff.mpr c]; exact decide_eq_false fun m => c (List.mem_filter.mp m).2
      rw [md, ← te2]
      by_cases t : tLow L i K d' = true
      · rw [if_pos t] at kn'
        push_cast [t, if_true]
        exact putK (f.len l10) (kn' _ _ ⟨u.trans u2, f.add hxl, _, _, _, _, _, rfl⟩)
      · rw [if_neg t] at kn'
        rw [Bool.eq_false_iff.mpr t]
        push_cast [Bool.false_eq_true, if_false]
        exact kn' _ _ ⟨u.trans u2, f, _, _, _, _, _, rfl⟩
  rintro _ h1 ⟨u, f2, s4, s5, s6, s7, s8, rfl⟩
  rw [List.length_map, List.take_length] at f2 ⊢
  have x1 := Pg.up x u
  have e2 : pass (tLow L i) (·.x) (nm1 b) (hds L b) = nm2 L i b := rfl
  rw [e2] at f2 ⊢
  push_cast [b_changed_in_5]
  rw [show n + 15 = n + 1 + 14 by omega]
  refine (names_all ok li) x1 hp fun h2 u2 => ?_
  have x2 := Pg.up x1 u2
  rw [show n + 1 + 14 = (n + 13 - d) + d + 2 by omega]
  push_cast [WpSs]
  refine handed_ok ok x2 hd5 gd ?_
  rw [show (n + 13 - d) + d + 2 = n + 15 by omega]
  push_cast [viewT_lst]
  let tI : List Str → Hnd → Bool := fun _ h => decide (h.j = i) && cB L h.j h.p
  refine for_inv (fun m ρ h' => h' = h2 ∧ Few p.lists (pass tI (·.x) (nm2 L i b) ((hds L b).take m)) ∧ ∃ (s4 s5 s6 s7 : Slot), ρ = [.val (.adr (o + L.length)), .val (.adr (o + i)), .val (bv b), .own (.dct (dk (pass tI (·.x) (nm2 L i b) ((hds L b).take m)))), s4, s5, s6, s7, .val (.dct (dk (nmR L i p.body p.lists.length)))])
    ⟨rfl, f2, _, _, _, _, rfl⟩ (fun _ _ _ _ _ => by trivial) ?_ ?_
  · rintro m y _ h2 D' hx ⟨rfl, f, s4, s5, s6, s7, rfl⟩ kn' kc kr kb
    obtain ⟨d', hs, rfl⟩ := items_map hx
    obtain ⟨hj, hxl, pj, hpj, hpp⟩ := ok.mem_hds gd (List.mem_of_getElem? hs)
    have e : pass tI (·.x) (nm2 L i b) ((hds L b).take (m + 1)) = if tI (pass tI (·.x) (nm2 L i b) ((hds L b).take m)) d' = true then addK (pass tI (·.x) (nm2 L i b) ((hds L b).take m)) d'.x else pass tI (·.x) (nm2 L i b) ((hds L b).take m) := by
      rw [List.take_add_one, hs]; exact pass_snoc
    rw [e] at kn'
    generalize hK : pass tI (·.x) (nm2 L i b) ((hds L b).take m) = K at kn' f ⊢
    have te : tI K d' = (decide (d'.j = i) && cB L d'.j d'.p) := rfl
    rw [show hv o d' = .tup [.str d'.x, .adr (o + d'.j), .str d'.p] from rfl]
    push_cast [b_changed_in_3, Pg.p' x2 hp, Pg.p' x2 hpj, fl_n, fdn, true_and]
    by_cases ej : d'.j = i
    · have c1 := (name_iff ok hpj hp).mpr ej
      push_cast [c1, decide_true, if_true]
      refine k_inDk ?_
      have te2 : tI K d' = decide (d'.p ∈ nmR L i p.body p.lists.length) := by
        rw [te, ej]
        simp only [decide_true, Bool.true_and]
        by_cases c : cB L i d'.p = true
        · rw [c]; exact (decide_eq_true ((mem_nmR ok hp).mpr ((cB_iff ok).mp c))).symm
        · rw [Bool.eq_false_iff.mpr c]; exact (decide_eq_false fun m => c ((cB_iff ok).mpr ((mem_nmR ok hp).mp m))).symm
      rw [← te2]
      by_cases t : tI K d' = true
      · rw [if_pos t] at kn'
        push_cast [t, if_true]
        exact putK (f.len l10) (kn' _ _ ⟨rfl, f.add hxl, _, _, _, _, rfl⟩)
      · rw [if_neg t] at kn'
        rw [Bool.eq_false_iff.mpr t]
        push_cast [Bool.false_eq_true, if_false]
        exact kn' _ _ ⟨rfl, f, _, _, _, _, rfl⟩
    · have c1 : ¬ pj.k.name = p.k.name := fun z => ej ((name_iff ok hpj hp).mp z)
      have t0 : ¬ tI K d' = true := by rw [te]; simp [ej]
      rw [if_neg t0] at kn'
      push_cast [c1, decide_false, Bool.false_eq_true, if_false]
      exact kn' _ _ ⟨rfl, f, _, _, _, _, rfl⟩
  rintro _ _ ⟨rfl, f3, s4, s5, s6, s7, rfl⟩
  rw [List.length_map, List.take_length] at f3 ⊢
  have e3 : pass tI (·.x) (nm2 L i b) (hds L b) = nmI L i b := rfl
  rw [e3] at f3 ⊢
  push_cast [b_changed_in_4, Pg.p' x2 hp, prl]
  rw [show n + 15 = n + 14 + 1 by omega]
  refine lists_ok ok x2 hp ?_
  push_cast [viewT_lst]
  refine ⟨sz (by simp [sl]; omega), ?_⟩
  refine comp_ft (t := fun x => decide (x ∈ nmI L i b)) trivial (fun a R _ r => k_inDk ?_) ?_
  · show if _ then _ else _
    by_cases m : a ∈ nmI L i b
    · rw [if_pos (decide_eq_true m)] at r ⊢; exact r
    · rw [if_neg (by rw [decide_eq_true_eq]; exact m)] at r ⊢; exact r
  · have e : p.lists.filter (fun x => decide (x ∈ nmI L i b)) = p.lists.filter (tch L (rounds L 20) b) := by
      refine List.filter_congr fun x _ => ?_
      by_cases c : tch L (rounds L 20) b x = true
      · rw [c]; exact decide_eq_true (mem_nmI.mpr c)
      · rw [Bool.eq_false_iff.mpr c]; exact decide_eq_false fun m => c (mem_nmI.mp m)
    rw [e]
    have u3 := u.trans u2
    exact q _ _ (u3.trans Up.push) u3.len (cells_last _ _)
end
end Ch

set_option maxRecDepth 100000
set_option maxHeartbeats 4000000
namespace K08
open PySem L2 VL P8
local macro_rules
  | `(tactic| push_cast [$xs,*]) => `(tactic| try simp only [$xs,*, WpSs, WpS, WpE, WpEs, WpBs, WpO, WpN, WpI, WpC, WpT, getS, setS, tgK, setsS, wipeS, k_add, k_addT, k_sub, k_mul, k_fdiv, k_mod, k_neg, k_lt, k_le, k_gt, k_ge, k_eqI, k_neI, k_eqS, k_neS, k_eqB, k_neB, k_is, k_isn, k_isB, k_isnB, k_gIn, ctx_gdct, isNon_non, isNon_int, isNon_str, isNon_lst, isNon_tup, isNon_adr, k_lenS, k_lenL, k_lenR, k_lenT, k_int, k_str, k_abs, tru_bl, augK, ctx_call, ctx_glob, k_in, k_nin, k_inS, k_addS, k_intB, isi_non_int, isi_non_bool, isi_non_str, isi_non_list, isi_non_tuple, isi_bl_int, isi_bl_bool, isi_bl_str, isi_bl_list, isi_bl_tuple, isi_int_int, isi_int_bool, isi_int_str, isi_int_list, isi_int_tuple, isi_str_int, isi_str_bool, isi_str_str, isi_str_list, isi_str_tuple, isi_tup_int, isi_tup_bool, isi_tup_str, isi_tup_list, isi_tup_tuple, isi_lst_int, isi_lst_bool, isi_lst_str, isi_lst_list, isi_lst_tuple, isi_ro_int, isi_ro_bool, isi_ro_str, isi_ro_list, isi_ro_tuple, zs_lst, zs_tup, viewE_lst, viewE_tup])
open Ga (sz sz100 Rec gd_iff Lt3 sl prv pv k_inT)
open Gb (sub0 hdS Pg prO ptv PrcOk)
open Hd (view_adr)
open Ch (Up leaf nif)
/-- places of procedure j that are changed -/
def psl (c : Nat → Nat → Bool) (j m : Nat) : List AV := ((List.range m).filter (c j)).map fun (k : Nat) => .int (k : Int)
def np (L : List Prc) (j : Nat) : Nat := ((L[j]?).map fun p => p.k.ps.length).getD 0
/-- the law's dict -/
def cdk (L : List Prc) (c : Nat → Nat → Bool) : List (Key × AV) := (List.range L.length).map fun j => (.inr (((L[j]?).map fun p => p.k.name).getD ""), .lst (psl c j (np L j)))
theorem cdk_get {L : List Prc} (ok : Ok L) {c : Nat → Nat → Bool} {j : Nat} {p : Prc} (hp : L[j]? = some p) : getD (cdk L c) (.inr p.k.name) = some (.lst (psl c j p.k.ps.length)) := by
  have lj := (List.getElem?_eq_some_iff.mp hp).1
  unfold getD cdk
  rw [List.find?_map]
  have : (List.range L.length).find? ((fun kv : Key × AV => decide (kv.1 = (Sum.inr p.k.name : Key))) ∘ fun j => (Sum.inr (((L[j]?).map fun p => p.k.name).getD ""), AV.lst (psl c j (np L j)))) = some j := by
    rw [List.find?_range_eq_some]
    refine ⟨?_, List.mem_range.mpr lj, fun i hi => ?_⟩
    · simp [hp]
    · have li : i < L.length := by omega
      have hpi : L[i]? = some L[i] := List.getElem?_eq_getElem li
      simp only [Function.comp, hpi, Option.map_some, Option.getD_some]
      have : ¬ L[i].k.name = p.k.name := fun e => by have := ok.nm i j _ _ hpi hp e; omega
      simp [this]
  rw [this]
  simp [np, hp]
theorem any_psl {c : Nat → Nat → Bool} {j m k : Nat} (hk : k < m) : ((psl c j m).any fun y => eqF y (.int (k : Int))) = c j k := by
  unfold psl
  rw [List.any_map]
  by_cases e : c j k = true
  · rw [e, List.any_eq_true]
    exact ⟨k, List.mem_filter.mpr ⟨List.mem_range.mpr hk, e⟩, by simp [eqF]⟩
  · rw [Bool.eq_false_iff.mpr e, List.any_eq_false]
    intro i hi h
    have : (i : Int) = (k : Int) := by simpa [eqF] using h
    have : i = k := by omega
    subst this
    exact e (List.mem_filter.mp hi).2
theorem all_psl {c : Nat → Nat → Bool} {j m : Nat} : (psl c j m).all flatA = true := by
  unfold psl
  rw [List.all_map, List.all_eq_true]
  intro i _; rfl
/-- what one statement touches -/
def tsS (L : List Prc) (c : Nat → Nat → Bool) (s : P8.St) (x : Str) : Prop := chgN s = some x ∨ ∃ h ∈ P8.hd1 L s, h.x = x ∧ pos L c h.j h.p = true
theorem tch_ts {L : List Prc} {c : Nat → Nat → Bool} {b : List P8.St} {x : Str} : tch L c b x = true ↔ ∃ s ∈ flL b, tsS L c s x := by
  rw [tch_iff]
  unfold base hds tsS
  rw [List.mem_filterMap]
  simp only [List.mem_flatMap]
  constructor
  · rintro (⟨s, m, e⟩ | ⟨h, ⟨s, m, hm⟩, e⟩)
    · exact ⟨s, m, .inl e⟩
    · exact ⟨s, m, .inr ⟨h, hm, e⟩⟩
  · rintro ⟨s, m, e | ⟨h, hm, e⟩⟩
    · exact .inl ⟨s, m, e⟩
    · exact .inr ⟨h, ⟨s, m, hm⟩, e⟩
/-- only places of lists -/
def Tr (L : List Prc) (c : Nat → Nat → Bool) : Prop := ∀ (j k : Nat) (p : Prc), L[j]? = some p → c j k = true → ∃ x, p.k.ps[k]? = some (x, true)
theorem ts_call {L : List Prc} (ok : Ok L) {c : Nat → Nat → Bool} (tr : Tr L c) {ls : List Str} {rw_ : AV} {x f : Str} {as : List AV} {j : Nat} {p : Prc} (hp : L[j]? = some p) (ar : Args ls p.k.ps as) (e : P8.hd1 L (.call rw_ x f as) = zipH j p.k.ps as) {z : Str} :
    tsS L c (.call rw_ x f as) z ↔ ∃ k, k < as.length ∧ c j k = true ∧ (as[k]?).map argN = some z := by
  unfold tsS
  rw [e]
  constructor
  · rintro (h | ⟨h, m, rfl, hpos⟩)
    · cases h
    · obtain ⟨k, q, a, h1, h2, h3, rfl⟩ := mem_zipH.mp m
      obtain ⟨p', k', b, e1, e2, e3⟩ := pos_iff.mp hpos
      simp only at e1 e2 e3
      rw [hp] at e1; cases e1
      have nd := (ok.ps p (List.mem_of_getElem? hp)).2
      have g1 : (p.k.ps.map (·.1))[k]? = some q.1 := by rw [List.getElem?_map, h1]; rfl
      have g2 : (p.k.ps.map (·.1))[k']? = some q.1 := by rw [List.getElem?_map, e2]; rfl
      have : k = k' := (List.getElem?_inj (List.getElem?_eq_some_iff.mp g1).1 nd).mp (by rw [g1, g2])
      subst this
      exact ⟨k, (List.getElem?_eq_some_iff.mp h2).1, e3, by rw [h2]; rfl⟩
  · rintro ⟨k, hk, hc, ha⟩
    obtain ⟨y, hy⟩ := tr j k p hp hc
    obtain ⟨a, h1, h2⟩ := Option.map_eq_some_iff.mp ha
    refine .inr ⟨⟨argN a, j, y⟩, mem_zipH.mpr ⟨k, (y, true), a, hy, h1, rfl, rfl⟩, h2, pos_iff.mpr ⟨p, k, true, hp, hy, hc⟩⟩
section
variable {P : Prg} [U P]
def TcOk (P : Prg) (L : List Prc) (c : Nat → Nat → Bool) (ls : List Str) (kn : List Kn) (d : Nat) : Prop := ∀ {n a : Nat} {b : List P8.St} {h : AHeap} {Q : AV → AHeap → Prop}, Gd ls kn d b → cells h a = .dct (cdk L c) →
  (∀ X : List Str, (∀ x, x ∈ X ↔ tch L c b x = true) → X.length ≤ 5 * (flL b).length → Q (.lst (sl X)) h) → callN P (n + d + 1) 281 [bv b, .adr a] h Q
theorem skip4 {C : VL.Ctx} {D' : Kt} {X0 X1 X3 : AV} {c2 : Cell} {k : Str} {s5 : Slot} {h : AHeap} (n1 : k ≠ "call") (n2 : k ≠ "if") (n3 : k ≠ "while") (q : D'.nx [.val X0, .val X1, .own c2, .val X3, .val (.str k), s5] h) :
    WpSs C b_law_touched_4 D' [.val X0, .val X1, .own c2, .val X3, .val (.str k), s5] h := by
  push_cast [b_law_touched_4]
  refine ite_b (fun c => absurd c n1) (fun _ => ?_)
  push_cast [b_law_touched_3]
  refine ite_b (fun c => absurd c n2) (fun _ => ?_)
  push_cast [b_law_touched_2]
  exact ite_b (fun c => absurd c n3) (fun _ => q)
theorem tc_step {L : List Prc} (ok : Ok L) {c : Nat → Nat → Bool} (tr : Tr L c) {ls : List Str} {i d : Nat} (hd5 : d ≤ 5) (ih : ∀ d', d = d' + 1 → TcOk P L c ls ((L.take (i + 1)).map (·.k)) d') : TcOk P L c ls ((L.take (i + 1)).map (·.k)) d := by
  intro n a b h Q g hc q
  refine call_of U.f__law_touched rfl ?_
  show WpSs (ctxOf P (callN P (n + d))) b_law_touched _ [.val (bv b), .val (.adr a), .no, .no, .no, .no] h
  have hz : sizeLine = 16777216 := rfl
  have sll : ∀ X : List Str, (sl X).length = X.length := fun X => by simp [sl]
  push_cast [b_law_touched, bv, viewT_tup]
  refine ⟨Nat.zero_le _, ?_⟩
  rw [avs_map]
  refine for_inv (fun k ρ h' => h' = h ∧ ∃ (X : List Str) (s3 s4 s5 : Slot), (∀ x, x ∈ X ↔ tch L c (b.take k) x = true) ∧ X.length ≤ 5 * (flL (b.take k)).length ∧ ρ = [.val (bv b), .val (.adr a), .own (.lst (sl X)), s3, s4, s5])
    ⟨rfl, [], _, _, _, fun x => by simp [tch, base, hds, flL], Nat.zero_le _, by simp only [bv, avs_map]; rfl⟩ (fun _ _ _ _ _ => by trivial) ?_ ?_
  · rintro k y _ h D' hx ⟨rfl, X, s3, s4, s5, hX, lX, rfl⟩ kn' kc kr kb
    obtain ⟨s, hs, rfl⟩ := items_map hx
    have gs := (gd_iff.mp g).2 s (List.mem_of_getElem? hs)
    have z1 := (Ch.Gd.take g k).size
    have z2 := Ch.szB_le hd5
    have fl := Ch.flL_take hs
    have fin : ∀ (Y : List Str) (s3 s4 s5 : Slot), (∀ x, x ∈ Y ↔ ∃ t ∈ flS s, tsS L c t x) → Y.length ≤ 5 * (flS s).length → D'.nx [.val (bv b), .val (.adr a), .own (.lst (sl (X ++ Y))), s3, s4, s5] h := by
      intro Y s3 s4 s5 hY lY
      refine kn' _ _ ⟨rfl, X ++ Y, s3, s4, s5, fun x => ?_, by rw [fl, List.length_append, List.length_append]; omega, rfl⟩
      rw [List.mem_append, hX, hY, tch_ts, tch_ts, fl]
      simp only [List.mem_append, or_and_right, exists_or]
    push_cast [b_law_touched_5, if_true]
    refine sub0 ?_
    push_cast [if_true]
    have lX2 : X.length ≤ 8143590 := by omega
    cases s with
    | oth kk r xs =>
      have gk : kk ∉ special ∧ xs.length ≤ 5 := gs
      have nn : ∀ w ∈ special, kk ≠ w := fun w m e => gk.1 (by rw [e]; exact m)
      refine ite_b (fun c => absurd c (nn "put" (by decide))) (fun _ => ite_b (fun c => absurd c (nn "swap" (by decide))) (fun _ => ?_))
      refine skip4 (nn "call" (by decide)) (nn "if" (by decide)) (nn "while" (by decide)) ?_
      have := fin [] (.val (P8.St.oth kk r xs).av) (.val (.str kk)) s5 (fun x => by simp [flS, tsS, chgN, P8.hd1]) (Nat.zero_le _)
      rw [List.append_nil] at this
      exact this
    | chg kk r z xs =>
      have gk : (kk = "put" ∨ kk = "swap") ∧ z ∈ ls ∧ xs.length ≤ 5 := gs
      have go : WpSs (ctxOf P (callN P (n + d))) b_law_touched_4 D' [.val (bv b), .val (.adr a), .own (.lst (sl X ++ [.str z])), .val (P8.St.chg kk r z xs).av, .val (.str kk), s5] h := by
        refine skip4 (by rcases gk.1 with rfl | rfl <;> decide) (by rcases gk.1 with rfl | rfl <;> decide) (by rcases gk.1 with rfl | rfl <;> decide) ?_
        have em : sl X ++ [.str z] = sl (X ++ [z]) := by unfold sl; rw [List.map_append]; rfl
        rw [em]
        exact fin [z] _ _ _ (fun x => by simp only [flS, tsS, chgN, P8.hd1, List.mem_singleton, exists_eq_left, List.not_mem_nil, false_and, exists_false, or_false, Option.some.injEq]; exact eq_comm) (by simp [flS])
      have sb : ∀ {Q : KA}, Q (.str z) → subK h (P8.St.chg kk r z xs).av (.int 2) Q := fun {Q} q => Ch.chg_sub rfl q
      refine ite_b (fun _ => sb ⟨by rw [sll]; omega, go⟩) (fun c1 => ite_b (fun _ => sb ⟨by rw [sll]; omega, go⟩) (fun c2 => ?_))
      rcases gk.1 with rfl | rfl
      · exact absurd rfl c1
      · exact absurd rfl c2
    | call r z f as =>
      refine ite_b (fun c => absurd c (show ¬ (_ : Str) = _ by simp only [hdS]; decide)) (fun _ => ite_b (fun c => absurd c (show ¬ (_ : Str) = _ by simp only [hdS]; decide)) (fun _ => ?_))
      push_cast [b_law_touched_4]
      refine ite_b (fun _ => ?_) (fun c => absurd rfl c)
      obtain ⟨j, p, hj, hp, rfl, ar, e1⟩ := ok.hd1 ls (rw_ := r) (x := z) (show GdS ls ((L.take (i + 1)).map (·.k)) (fun _ => True) (.call r z f as) from gs)
      have las : as.length ≤ 5 := by rw [ar.1]; exact (ok.ps p (List.mem_of_getElem? hp)).1
      refine k_subL (d := .tup as) viewT_tup (fun _ z => by cases z) rfl ?_
      push_cast [bltK, viewT_tup]
      refine ⟨⟨by omega, by omega⟩, ?_⟩
      rw [Int.toNat_natCast]
      refine for_inv (fun m ρ h' => h' = h ∧ ∃ (Y : List Str) (s5 : Slot), (∀ x, x ∈ Y ↔ ∃ k, k < m ∧ c j k = true ∧ (as[k]?).map argN = some x) ∧ Y.length ≤ m ∧ ρ = [.val (bv b), .val (.adr a), .own (.lst (sl (X ++ Y))), .val (P8.St.call r z p.k.name as).av, .val (.str (hdS (P8.St.call r z p.k.name as))), s5])
        ⟨rfl, [], _, fun x => by simp, Nat.zero_le _, by rw [List.append_nil]⟩ (fun _ _ _ _ _ => by trivial) ?_ ?_
      · rintro m y _ h D2 hy ⟨rfl, Y, s5, hY, lY, rfl⟩ kn2 kc2 kr2 kb2
        obtain ⟨hm, rfl⟩ := items_range hy
        push_cast [b_law_touched_1]
        refine k_subL (d := .str p.k.name) viewT_tup (fun _ z => by cases z) rfl ?_
        have sd : ∀ {Q : KA}, Q (.lst (psl c j p.k.ps.length)) → subK h (.adr a) (.str p.k.name) Q := fun {Q} q => by
          unfold subK
          simp only [viewT, view, hc, viewD, keyOf, cdk_get ok hp]
          exact q
        refine sd ?_
        refine k_inF rfl viewT_lst all_psl (fun _ z => by cases z) ?_
        rw [any_psl (by rw [← ar.1]; exact hm)]
        have ha : as[m]? = some as[m] := List.getElem?_eq_getElem hm
        by_cases e : c j m = true
        · obtain ⟨pn, hpn⟩ := tr j m p hp e
          obtain ⟨w, hw, ew⟩ := ar.2 m _ _ hpn ha rfl
          push_cast [e, if_true]
          refine k_subL (h := h) (d := as[m]) viewT_tup (fun _ z => by cases z) (by rw [VL.atI_nat hm]; exact ha) ?_
          rw [ew]
          refine k_subL (d := .str w) viewT_tup (fun _ z => by cases z) rfl ?_
          refine ⟨by rw [sll, List.length_append]; omega, ?_⟩
          have em : sl (X ++ Y) ++ [.str w] = sl (X ++ (Y ++ [w])) := by rw [← List.append_assoc]; unfold sl; rw [List.map_append (l₂ := [w])]; rfl
          rw [em]
          refine kn2 _ _ ⟨rfl, Y ++ [w], _, fun x => ?_, by rw [List.length_append]; simp; exact lY, rfl⟩
          rw [List.mem_append, hY, List.mem_singleton]
          constructor
          · rintro (⟨k', h1, h2⟩ | rfl)
            · exact ⟨k', by omega, h2⟩
            · exact ⟨m, by omega, e, by rw [ha, ew]; rfl⟩
          · rintro ⟨k', h1, h2, h3⟩
            rcases Nat.lt_or_ge k' m with q | q
            · exact .inl ⟨k', q, h2, h3⟩
            · have : k' = m := by omega
              subst this
              rw [ha, ew] at h3
              exact .inr (Option.some.inj h3).symm
        · rw [Bool.eq_false_iff.mpr e]
          push_cast [Bool.false_eq_true, if_false]
          refine kn2 _ _ ⟨rfl, Y, _, fun x => ?_, by omega, rfl⟩
          rw [hY]
          constructor
          · rintro ⟨k', h1, h2⟩; exact ⟨k', by omega, h2⟩
          · rintro ⟨k', h1, h2, h3⟩
            rcases Nat.lt_or_ge k' m with q | q
            · exact ⟨k', q, h2, h3⟩
            · have : k' = m := by omega
              subst this
              exact absurd h2 e
      · rintro _ _ ⟨rfl, Y, s5, hY, lY, rfl⟩
        rw [List.length_map, List.length_range] at hY lY
        push_cast [b_law_touched_3]
        refine ite_b (fun c => absurd c (show ¬ (_ : Str) = _ by simp only [hdS]; decide)) (fun _ => ?_)
        push_cast [b_law_touched_2]
        refine ite_b (fun c => absurd c (show ¬ (_ : Str) = _ by simp only [hdS]; decide)) (fun _ => ?_)
        refine fin Y _ _ _ (fun x => ?_) (by show Y.length ≤ 5 * 1; omega)
        rw [hY]
        simp only [flS, List.mem_singleton, exists_eq_left]
        rw [ts_call ok tr hp ar e1]
    | ite r C x y =>
      refine ite_b (fun c => absurd c (show ¬ (_ : Str) = _ by simp only [hdS]; decide)) (fun _ => ite_b (fun c => absurd c (show ¬ (_ : Str) = _ by simp only [hdS]; decide)) (fun _ => ?_))
      push_cast [b_law_touched_4]
      refine ite_b (fun c => absurd c (show ¬ (_ : Str) = _ by simp only [hdS]; decide)) (fun _ => ?_)
      push_cast [b_law_touched_3]
      refine ite_b (fun _ => ?_) (fun c => absurd rfl c)
      obtain ⟨d', rfl⟩ : ∃ d', d = d' + 1 := by cases d with
        | zero => exact gs.1.elim
        | succ d' => exact ⟨d', rfl⟩
      have g1 : Gd ls ((L.take (i + 1)).map (·.k)) d' x := gs.1
      have g3 : Gd ls ((L.take (i + 1)).map (·.k)) d' y := gs.2
      have z3 := g1.size
      have z4 := g3.size
      have z5 := Ch.szB_le (d := d') (by omega)
      have hm := (Ch.Gd.take g (k + 1)).size
      rw [fl] at hm
      rw [List.length_append] at hm
      have fs : (flS (P8.St.ite r C x y)).length = 1 + (flL x).length + (flL y).length := by simp [flS]; omega
      refine k_subL (d := bv x) viewT_tup (fun _ z => by cases z) rfl ?_
      refine ih d' rfl g1 hc fun X1 hX1 lX1 => ?_
      simp only [viewW_lst]
      refine ⟨by rw [sll, sll]; omega, ?_⟩
      refine k_subL (d := bv y) viewT_tup (fun _ z => by cases z) rfl ?_
      refine ih d' rfl g3 hc fun X3 hX3 lX3 => ?_
      simp only [viewW_lst]
      refine ⟨by rw [List.length_append, sll, sll, sll]; omega, ?_⟩
      push_cast [b_law_touched_2]
      refine ite_b (fun c => absurd c (show ¬ (_ : Str) = _ by simp only [hdS]; decide)) (fun _ => ?_)
      have em : sl X ++ sl X1 ++ sl X3 = sl (X ++ (X1 ++ X3)) := by unfold sl; rw [← List.map_append, ← List.map_append, List.append_assoc]
      rw [em]
      refine fin (X1 ++ X3) _ _ _ (fun z => ?_) (by rw [List.length_append, fs]; omega)
      rw [List.mem_append, hX1, hX3, tch_ts, tch_ts]
      simp only [flS, List.mem_cons, List.mem_append]
      constructor
      · rintro (⟨t, m, e⟩ | ⟨t, m, e⟩)
        · exact ⟨t, .inr (.inl m), e⟩
        · exact ⟨t, .inr (.inr m), e⟩
      · rintro ⟨t, rfl | m | m, e⟩
        · rcases e with e | ⟨_, m, _⟩
          · cases e
          · cases m
        · exact .inl ⟨t, m, e⟩
        · exact .inr ⟨t, m, e⟩
    | wh r C ks f y =>
      refine ite_b (fun c => absurd c (show ¬ (_ : Str) = _ by simp only [hdS]; decide)) (fun _ => ite_b (fun c => absurd c (show ¬ (_ : Str) = _ by simp only [hdS]; decide)) (fun _ => ?_))
      push_cast [b_law_touched_4]
      refine ite_b (fun c => absurd c (show ¬ (_ : Str) = _ by simp only [hdS]; decide)) (fun _ => ?_)
      push_cast [b_law_touched_3]
      refine ite_b (fun c => absurd c (show ¬ (_ : Str) = _ by simp only [hdS]; decide)) (fun _ => ?_)
      push_cast [b_law_touched_2]
      refine ite_b (fun _ => ?_) (fun c => absurd rfl c)
      obtain ⟨d', rfl⟩ : ∃ d', d = d' + 1 := by cases d with
        | zero => exact (show False from gs).elim
        | succ d' => exact ⟨d', rfl⟩
      have g3 : Gd ls ((L.take (i + 1)).map (·.k)) d' y := gs
      have z4 := g3.size
      have z5 := Ch.szB_le (d := d') (by omega)
      have hm := (Ch.Gd.take g (k + 1)).size
      rw [fl] at hm
      rw [List.length_append] at hm
      have fs : (flS (P8.St.wh r C ks f y)).length = 1 + (flL y).length := by simp [flS]; omega
      refine k_subL (d := bv y) viewT_tup (fun _ z => by cases z) rfl ?_
      refine ih d' rfl g3 hc fun X3 hX3 lX3 => ?_
      simp only [viewW_lst]
      refine ⟨by rw [sll, sll]; omega, ?_⟩
      have em : sl X ++ sl X3 = sl (X ++ X3) := by unfold sl; rw [← List.map_append]
      rw [em]
      refine fin X3 _ _ _ (fun z => ?_) (by rw [fs]; omega)
      rw [hX3, tch_ts]
      simp only [flS, List.mem_cons]
      constructor
      · rintro ⟨t, m, e⟩; exact ⟨t, .inr m, e⟩
      · rintro ⟨t, rfl | m, e⟩
        · rcases e with e | ⟨_, m, _⟩
          · cases e
          · cases m
        · exact ⟨t, m, e⟩
  · rintro _ _ ⟨rfl, X, s3, s4, s5, hX, lX, rfl⟩
    rw [List.length_map, List.take_length] at hX lX
    push_cast [b_law_touched_6]
    exact q X hX lX
end
end K08

set_option maxRecDepth 100000
set_option maxHeartbeats 4000000
namespace K08
open PySem L2 VL P8
local macro_rules
  | `(tactic| push_cast [$xs,*]) => `(tactic| try simp only [$xs,*, WpSs, WpS, WpE, WpEs, WpBs, WpO, WpN, WpI, WpC, WpT, getS, setS, tgK, setsS, wipeS, k_add, k_addT, k_sub, k_mul, k_fdiv, k_mod, k_neg, k_lt, k_le, k_gt, k_ge, k_eqI, k_neI, k_eqS, k_neS, k_eqB, k_neB, k_is, k_isn, k_isB, k_isnB, k_gIn, ctx_gdct, isNon_non, isNon_int, isNon_str, isNon_lst, isNon_tup, isNon_adr, k_lenS, k_lenL, k_lenR, k_lenT, k_int, k_str, k_abs, tru_bl, augK, ctx_call, ctx_glob, k_in, k_nin, k_inS, k_addS, k_intB, isi_non_int, isi_non_bool, isi_non_str, isi_non_list, isi_non_tuple, isi_bl_int, isi_bl_bool, isi_bl_str, isi_bl_list, isi_bl_tuple, isi_int_int, isi_int_bool, isi_int_str, isi_int_list, isi_int_tuple, isi_str_int, isi_str_bool, isi_str_str, isi_str_list, isi_str_tuple, isi_tup_int, isi_tup_bool, isi_tup_str, isi_tup_list, isi_tup_tuple, isi_lst_int, isi_lst_bool, isi_lst_str, isi_lst_list, isi_lst_tuple, isi_ro_int, isi_ro_bool, isi_ro_str, isi_ro_list, isi_ro_tuple, zs_lst, zs_tup, viewE_lst, viewE_tup])
open Ga (sz sz100 Rec gd_iff Lt3 sl prv pv k_inT)
open Gb (sub0 hdS Pg prO ptv PrcOk)
open Hd (view_adr cells_put cells_set cells_app cells_last)
open Ch (Up leaf nif)
theorem run_tr {L : List Prc} (ok : Ok L) (r i : Nat) : Tr L (run L (rounds L r) i) := by
  intro j k p hp hc
  have h1 := (run_pre (rounds_pre (L := L) r) i).2 j k hc
  obtain ⟨p', q, e1, e2, e3⟩ := F_iff.mp h1
  rw [hp] at e1; cases e1
  have c := tch_sound (run_sound (rounds_sound r) i) hp e3
  obtain ⟨p', e4, m⟩ := c.in ok
  rw [hp] at e4; cases e4
  obtain ⟨k', hk'⟩ := List.mem_iff_getElem?.mp (mem_lists.mp m)
  have nd := (ok.ps p (List.mem_of_getElem? hp)).2
  have g1 : (p.k.ps.map (·.1))[k]? = some q.1 := by rw [List.getElem?_map, e2]; rfl
  have g2 : (p.k.ps.map (·.1))[k']? = some q.1 := by rw [List.getElem?_map, hk']; rfl
  have : k = k' := (List.getElem?_inj (List.getElem?_eq_some_iff.mp g1).1 nd).mp (by rw [g1, g2])
  subst this
  exact ⟨_, hk'⟩
def nmL (L : List Prc) (j : Nat) : Str := ((L[j]?).map fun p => p.k.name).getD ""
def vdk (L : List Prc) (m : Nat) (f : Nat → AV) : List (Key × AV) := (List.range m).map fun j => (.inr (nmL L j), f j)
theorem cdk_v {L : List Prc} {c : Nat → Nat → Bool} : cdk L c = vdk L L.length fun j => .lst (psl c j (np L j)) := rfl
theorem nm_inj {L : List Prc} (ok : Ok L) {i j : Nat} (hi : i < L.length) (hj : j < L.length) (e : nmL L i = nmL L j) : i = j := by
  unfold nmL at e
  rw [List.getElem?_eq_getElem hi, List.getElem?_eq_getElem hj] at e
  exact ok.nm i j _ _ (List.getElem?_eq_getElem hi) (List.getElem?_eq_getElem hj) e
theorem vdk_new {L : List Prc} (ok : Ok L) {m : Nat} (hm : m < L.length) {f : Nat → AV} {v : AV} (e : v = f m) : putD (vdk L m f) (.inr (nmL L m)) v = vdk L (m + 1) f := by
  unfold putD
  have : ((vdk L m f).any fun kv => decide (kv.1 = (Sum.inr (nmL L m) : Key))) = false := by
    unfold vdk
    rw [List.any_map, List.any_eq_false]
    intro i hi h
    rw [List.mem_range] at hi
    simp only [Function.comp, decide_eq_true_eq, Sum.inr.injEq] at h
    have := nm_inj ok (by omega) hm h
    omega
  rw [this, if_neg (by decide), e]
  unfold vdk
  rw [List.range_succ, List.map_append]; rfl
theorem vdk_put {L : List Prc} (ok : Ok L) {j : Nat} (hj : j < L.length) {f : Nat → AV} {v : AV} : putD (vdk L L.length f) (.inr (nmL L j)) v = vdk L L.length fun k => if k = j then v else f k := by
  unfold putD
  have : ((vdk L L.length f).any fun kv => decide (kv.1 = (Sum.inr (nmL L j) : Key))) = true := by
    unfold vdk
    rw [List.any_map, List.any_eq_true]
    exact ⟨j, List.mem_range.mpr hj, by simp⟩
  rw [this, if_pos rfl]
  unfold vdk
  rw [List.map_map]
  refine List.map_congr_left fun k hk => ?_
  rw [List.mem_range] at hk
  simp only [Function.comp]
  by_cases e : k = j
  · subst e; simp
  · rw [if_neg e, if_neg (by simp only [Sum.inr.injEq]; exact fun h => e (nm_inj ok hk hj h))]
section
variable {P : Prg} [U P]
theorem tc_ok {L : List Prc} (ok : Ok L) {c : Nat → Nat → Bool} (tr : Tr L c) {ls : List Str} {i : Nat} : ∀ d, d ≤ 5 → TcOk P L c ls ((L.take (i + 1)).map (·.k)) d
  | 0, h => tc_step ok tr h fun _ e => by cases e
  | d + 1, h => tc_step ok tr h fun d' e => by cases e; exact tc_ok ok tr d (by omega)
theorem putE_k {kvs : List (Key × AV)} {x : Str} {v : AV} {R : Cell → Prop} (l : kvs.length < 100000) (q : R (.dct (putD kvs (.inr x) v))) : putC (.dct kvs) (.str x) v R := ⟨l, q⟩
theorem vdk_len {L : List Prc} {m : Nat} {f : Nat → AV} : (vdk L m f).length = m := by simp [vdk]
theorem changes_ok {n : Nat} {L : List Prc} {h : AHeap} {Q : AV → AHeap → Prop} (ok : Ok L) (q : ∀ (a : Nat) (h' : AHeap), Up h h' → h.length ≤ a → cells h' a = .dct (cdk L (rounds L 20)) → Q (.adr a) h') : callN P (n + 7) 282 [.lst (L.map ptv)] h Q := by
  refine call_of U.f__law_changes rfl ?_
  show WpSs (ctxOf P (callN P (n + 6))) b_law_changes _ [.val (.lst (L.map ptv)), .no, .no, .no, .no, .no] h
  have few := ok.few
  have nmp : ∀ {j : Nat} {p : Prc}, L[j]? = some p → nmL L j = p.k.name := fun {j p} hp => by unfold nmL; rw [hp]; rfl
  push_cast [b_law_changes, viewT_lst]
  have up : ∀ {h1 : AHeap} {v : Cell}, Up h h1 → Up h (h1.set h.length v) := fun {h1 v} u => ⟨by rw [List.length_set]; exact u.len, fun b hb => by rw [cells_put (by omega)]; exact u.keep b hb⟩
  have sub1 : ∀ {p : Prc} {hh : AHeap} {Q : KA}, Q (.str p.k.name) → subK hh (ptv p) (.int 1) Q := fun {p hh Q} q => k_subL (d := .str p.k.name) viewT_tup (fun _ z => by cases z) rfl q
  have sub2 : ∀ {p : Prc} {hh : AHeap} {Q : KA}, Q (.tup (p.k.ps.map pv)) → subK hh (ptv p) (.int 2) Q := fun {p hh Q} q => k_subL (d := .tup (p.k.ps.map pv)) viewT_tup (fun _ z => by cases z) rfl q
  have sub8 : ∀ {p : Prc} {hh : AHeap} {Q : KA}, Q (bv p.body) → subK hh (ptv p) (.int 8) Q := fun {p hh Q} q => k_subL (d := bv p.body) viewT_tup (fun _ z => by cases z) rfl q
  refine for_inv (fun i ρ h' => Up h h' ∧ h.length < h'.length ∧ cells h' h.length = .dct (vdk L i fun _ => .lst []) ∧ ∃ (s2 s3 s4 s5 : Slot), ρ = [.val (.lst (L.map ptv)), .val (.adr h.length), s2, s3, s4, s5])
    ⟨Up.push, by simp, by rw [cells_last]; rfl, _, _, _, _, rfl⟩ (fun _ _ _ _ _ => by trivial) ?_ ?_
  · rintro i x _ h1 D' hx ⟨u, hl, hc, s2, s3, s4, s5, rfl⟩ kn kc kr kb
    obtain ⟨p, hp, rfl⟩ := items_map hx
    have li := (List.getElem?_eq_some_iff.mp hp).1
    push_cast [b_law_changes_1]
    refine ⟨Nat.zero_le _, sub1 ?_⟩
    rw [hc, ← nmp hp]
    refine putE_k (by rw [vdk_len]; omega) ?_
    rw [vdk_new ok li (f := fun _ => .lst []) rfl]
    exact kn _ _ ⟨up u, by rw [List.length_set]; exact hl, cells_set hl, _, _, _, _, rfl⟩
  rintro _ h1 ⟨u, hl, hc, s2, s3, s4, s5, rfl⟩
  rw [List.length_map] at hc
  have hc0 : cells h1 h.length = .dct (cdk L (rounds L 0)) := by
    rw [hc, cdk_v]
    congr 2
    funext j
    unfold psl
    have : (List.range (np L j)).filter (rounds L 0 j) = [] := List.filter_eq_nil_iff.mpr fun k _ h => by cases h
    rw [this]; rfl
  push_cast [b_law_changes_5]
  refine ⟨⟨by decide, by decide⟩, ?_⟩
  refine for_inv (fun r ρ h' => Up h h' ∧ h.length < h'.length ∧ cells h' h.length = .dct (cdk L (rounds L r)) ∧ ∃ (s2 s3 s4 s5 : Slot), ρ = [.val (.lst (L.map ptv)), .val (.adr h.length), s2, s3, s4, s5])
    ⟨u, hl, hc0, _, _, _, _, rfl⟩ (fun _ _ _ _ _ => by trivial) ?_ ?_
  · rintro r x _ h1 D' hx ⟨u, hl, hc, s2, s3, s4, s5, rfl⟩ kn kc kr kb
    push_cast [b_law_changes_3, viewT_lst]
    refine for_inv (fun i ρ h' => Up h h' ∧ h.length < h'.length ∧ cells h' h.length = .dct (cdk L (run L (rounds L r) i)) ∧ ∃ (s2 s3 s4 s5 : Slot), ρ = [.val (.lst (L.map ptv)), .val (.adr h.length), s2, s3, s4, s5])
      ⟨u, hl, hc, _, _, _, _, rfl⟩ (fun _ _ _ _ _ => by trivial) ?_ ?_
    · rintro i y _ h2 D2 hy ⟨u, hl, hc, s2, s3, s4, s5, rfl⟩ kn2 kc2 kr2 kb2
      obtain ⟨p, hp, rfl⟩ := items_map hy
      have li := (List.getElem?_eq_some_iff.mp hp).1
      have lp := (ok.ps p (List.mem_of_getElem? hp)).1
      push_cast [b_law_changes_2]
      refine sub8 ?_
      refine tc_ok ok (run_tr ok r i) 5 (by omega) (ok.gd i p hp) hc fun X hX lX => ?_
      push_cast [WpSs]
      refine sub2 ?_
      push_cast [bltK, viewT_tup]
      have el : (p.k.ps.map pv).length = p.k.ps.length := by rw [List.length_map]
      rw [el]
      refine ⟨⟨by omega, by omega⟩, ?_⟩
      rw [Int.toNat_natCast]
      have key : ∀ k, k < p.k.ps.length → F L (run L (rounds L r) i) i k = decide ((((p.k.ps[k]?).map (·.1)).getD ("" : Str)) ∈ X) := by
        intro k hk
        have hk2 : p.k.ps[k]? = some p.k.ps[k] := List.getElem?_eq_getElem hk
        rw [hk2]
        by_cases e : F L (run L (rounds L r) i) i k = true
        · rw [e]
          obtain ⟨p', q', e1, e2, e3⟩ := F_iff.mp e
          rw [hp] at e1; cases e1
          rw [hk2] at e2; cases e2
          exact (decide_eq_true ((hX _).mpr e3)).symm
        · rw [Bool.eq_false_iff.mpr e]
          exact (decide_eq_false fun m => e (F_iff.mpr ⟨p, _, hp, hk2, (hX _).mp m⟩)).symm
      have hnp : np L i = p.k.ps.length := by unfold np; rw [hp]; rfl
      refine ⟨sz (by rw [List.length_map, List.length_range]; omega), ?_⟩
      refine comp_inv (fun k acc h' => acc = psl (F L (run L (rounds L r) i) i |> fun f => fun _ => f) 0 k ∧ h' = h2) ⟨rfl, rfl⟩ (fun _ _ _ _ _ => by trivial) ?_ ?_
      · rintro k y acc h' R hx ⟨rfl, rfl⟩ k1 k2
        obtain ⟨hk, rfl⟩ := items_range hx
        have hk2 : p.k.ps[k]? = some p.k.ps[k] := List.getElem?_eq_getElem hk
        refine sub2 ?_
        refine k_subL (d := pv p.k.ps[k]) viewT_tup (fun _ z => by cases z) (by rw [VL.atI_nat (by rw [el]; exact hk), List.getElem?_map, hk2]; rfl) ?_
        refine k_subL (d := .str p.k.ps[k].1) viewT_tup (fun _ z => by cases z) rfl ?_
        refine k_inT viewT_lst ?_
        have kk := key k hk
        rw [hk2] at kk
        have kk2 : F L (run L (rounds L r) i) i k = decide (p.k.ps[k].1 ∈ X) := kk
        rw [← kk2]
        have e : psl (fun _ => F L (run L (rounds L r) i) i) 0 (k + 1) = psl (fun _ => F L (run L (rounds L r) i) i) 0 k ++ ([k].filter (F L (run L (rounds L r) i) i)).map fun (k : Nat) => .int (k : Int) := by
          unfold psl
          rw [List.range_succ, List.filter_append, List.map_append]
        by_cases m : F L (run L (rounds L r) i) i k = true
        · rw [m]
          simp only [if_true]
          refine k1 _ _ ⟨?_, rfl⟩
          show _ = psl (fun _ => F L (run L (rounds L r) i) i) 0 (k + 1)
          rw [e, List.filter_cons, if_pos m]; rfl
        · rw [Bool.eq_false_iff.mpr m]
          simp only [Bool.false_eq_true, if_false]
          refine k2 _ ⟨?_, rfl⟩
          show _ = psl (fun _ => F L (run L (rounds L r) i) i) 0 (k + 1)
          rw [e, List.filter_cons, if_neg m, List.filter_nil, List.map_nil, List.append_nil]
      · rintro acc h' ⟨rfl, rfl⟩
        rw [List.length_map, List.length_range]
        refine sub1 ?_
        rw [hc, ← nmp hp, cdk_v]
        refine putE_k (by rw [vdk_len]; omega) ?_
        rw [vdk_put ok li]
        refine kn2 _ _ ⟨up u, by rw [List.length_set]; exact hl, ?_, _, _, _, _, rfl⟩
        rw [cells_set hl]
        show Cell.dct _ = .dct (cdk L (stp L (run L (rounds L r) i) i))
        rw [cdk_v]
        congr 2
        funext j
        unfold psl stp
        by_cases e : j = i
        · subst e
          rw [if_pos rfl, hnp]
          congr 2
          refine List.filter_congr fun k _ => ?_
          rw [if_pos rfl]
        · rw [if_neg e]
          congr 2
          refine List.filter_congr fun k _ => ?_
          rw [if_neg e]
    · rintro _ h2 ⟨u, hl, hc, s2, s3, s4, s5, rfl⟩
      rw [List.length_map] at hc
      exact kn _ _ ⟨u, hl, hc, _, _, _, _, rfl⟩
  rintro _ h2 ⟨u, hl, hc, s2, s3, s4, s5, rfl⟩
  push_cast [b_law_changes_4]
  refine q _ _ u (Nat.le_refl _) ?_
  rw [hc]; rfl
end
end K08

set_option maxRecDepth 100000
set_option maxHeartbeats 4000000
namespace K08
open PySem L2 VL P8
local macro_rules
  | `(tactic| push_cast [$xs,*]) => `(tactic| try simp only [$xs,*, WpSs, WpS, WpE, WpEs, WpBs, WpO, WpN, WpI, WpC, WpT, getS, setS, tgK, setsS, wipeS, k_add, k_addT, k_sub, k_mul, k_fdiv, k_mod, k_neg, k_lt, k_le, k_gt, k_ge, k_eqI, k_neI, k_eqS, k_neS, k_eqB, k_neB, k_is, k_isn, k_isB, k_isnB, k_gIn, ctx_gdct, isNon_non, isNon_int, isNon_str, isNon_lst, isNon_tup, isNon_adr, k_lenS, k_lenL, k_lenR, k_lenT, k_int, k_str, k_abs, tru_bl, augK, ctx_call, ctx_glob, k_in, k_nin, k_inS, k_addS, k_intB, isi_non_int, isi_non_bool, isi_non_str, isi_non_list, isi_non_tuple, isi_bl_int, isi_bl_bool, isi_bl_str, isi_bl_list, isi_bl_tuple, isi_int_int, isi_int_bool, isi_int_str, isi_int_list, isi_int_tuple, isi_str_int, isi_str_bool, isi_str_str, isi_str_list, isi_str_tuple, isi_tup_int, isi_tup_bool, isi_tup_str, isi_tup_list, isi_tup_tuple, isi_lst_int, isi_lst_bool, isi_lst_str, isi_lst_list, isi_lst_tuple, isi_ro_int, isi_ro_bool, isi_ro_str, isi_ro_list, isi_ro_tuple, zs_lst, zs_tup, viewE_lst, viewE_tup])
open Ga (sz sz100 Rec gd_iff Lt3 sl prv pv k_inT)
open Gb (sub0 hdS Pg prO ptv PrcOk)
open Hd (view_adr cells_put cells_set cells_app cells_last)
open Ch (Up leaf nif)
section
variable {P : Prg} [U P]
def BkOk (P : Prg) (ls : List Str) (kn : List Kn) (d : Nat) : Prop := ∀ {n : Nat} {b : List P8.St} {h : AHeap} {Q : AV → AHeap → Prop}, Gd ls kn d b →
  (∀ Bs : List (List P8.St), (∀ b' ∈ Bs, Gd ls kn d b') → Bs.length ≤ 1 + 2 * (flL b).length → Q (.lst (Bs.map bv)) h) → callN P (n + d + 1) 283 [bv b] h Q
theorem bk_step {ls : List Str} {kn : List Kn} {d : Nat} (hd5 : d ≤ 5) (ih : ∀ d', d = d' + 1 → BkOk P ls kn d') : BkOk P ls kn d := by
  intro n b h Q g q
  refine call_of U.f__law_blocks rfl ?_
  show WpSs (ctxOf P (callN P (n + d))) b_law_blocks _ [.val (bv b), .no, .no] h
  have hz : sizeLine = 16777216 := rfl
  push_cast [b_law_blocks, bv, viewT_tup]
  refine ⟨sz (by simp), ?_⟩
  rw [avs_map]
  refine for_inv (fun k ρ h' => h' = h ∧ ∃ (Bs : List (List P8.St)) (s2 : Slot), (∀ b' ∈ Bs, Gd ls kn d b') ∧ Bs.length ≤ 1 + 2 * (flL (b.take k)).length ∧ ρ = [.val (bv b), .val (.lst (Bs.map bv)), s2])
    ⟨rfl, [b], _, fun b' m => by rw [List.mem_singleton.mp m]; exact g, by simp, by simp only [bv, avs_map, List.map_cons, List.map_nil]; rfl⟩ (fun _ _ _ _ _ => by trivial) ?_ ?_
  · rintro k y _ h D' hx ⟨rfl, Bs, s2, hB, lB, rfl⟩ kn' kc kr kb
    obtain ⟨s, hs, rfl⟩ := items_map hx
    have gs := (gd_iff.mp g).2 s (List.mem_of_getElem? hs)
    have z1 := (Ch.Gd.take g k).size
    have z2 := Ch.szB_le hd5
    have fl := Ch.flL_take hs
    have fin : ∀ (Y : List (List P8.St)) (s2 : Slot), (∀ b' ∈ Y, Gd ls kn d b') → Y.length ≤ 2 * (flS s).length → D'.nx [.val (bv b), .val (.lst ((Bs ++ Y).map bv)), s2] h := by
      intro Y s2 hY lY
      refine kn' _ _ ⟨rfl, Bs ++ Y, s2, fun b' m => ?_, by rw [fl, List.length_append, List.length_append]; omega, rfl⟩
      rcases List.mem_append.mp m with m | m
      · exact hB b' m
      · exact hY b' m
    push_cast [b_law_blocks_2]
    refine sub0 ?_
    push_cast [WpSs]
    have lB2 : Bs.length ≤ 3257437 := by omega
    rcases leaf gs with ⟨n1, n2, e⟩ | ⟨r, c, x, y, rfl⟩ | ⟨r, c, ks, f, y, rfl⟩
    · refine ite_b (fun c => absurd c n1) (fun _ => ?_)
      push_cast [b_law_blocks_1]
      refine sub0 ?_
      push_cast [WpSs]
      refine ite_b (fun c => absurd c n2) (fun _ => ?_)
      have := fin [] (.val s.av) nofun (Nat.zero_le _)
      rw [List.append_nil] at this
      exact this
    · refine ite_b (fun _ => ?_) (fun c => absurd rfl c)
      obtain ⟨d', rfl⟩ : ∃ d', d = d' + 1 := by cases d with
        | zero => exact gs.1.elim
        | succ d' => exact ⟨d', rfl⟩
      have g1 : Gd ls kn d' x := gs.1
      have g3 : Gd ls kn d' y := gs.2
      have z3 := g1.size
      have z4 := g3.size
      have z5 := Ch.szB_le (d := d') (by omega)
      have fs : (flS (P8.St.ite r c x y)).length = 1 + (flL x).length + (flL y).length := by simp [flS]; omega
      refine k_subL (d := bv x) viewT_tup (fun _ z => by cases z) rfl ?_
      refine ih d' rfl g1 fun X1 hX1 lX1 => ?_
      push_cast [viewW_lst]
      refine ⟨by rw [List.length_map, List.length_map]; omega, ?_⟩
      refine k_subL (d := bv y) viewT_tup (fun _ z => by cases z) rfl ?_
      refine ih d' rfl g3 fun X3 hX3 lX3 => ?_
      push_cast [viewW_lst]
      refine ⟨by rw [List.length_append, List.length_map, List.length_map, List.length_map]; omega, ?_⟩
      push_cast [b_law_blocks_1]
      refine sub0 ?_
      push_cast [WpSs]
      refine ite_b (fun c => absurd c (show ¬ (_ : Str) = _ by simp only [hdS]; decide)) (fun _ => ?_)
      have em : Bs.map bv ++ X1.map bv ++ X3.map bv = (Bs ++ (X1 ++ X3)).map bv := by rw [← List.map_append, ← List.map_append, List.append_assoc]
      rw [em]
      refine fin (X1 ++ X3) _ (fun b' m => ?_) (by rw [List.length_append, fs]; omega)
      rcases List.mem_append.mp m with m | m
      · exact (hX1 b' m).succ
      · exact (hX3 b' m).succ
    · refine ite_b (fun c => absurd c nif) (fun _ => ?_)
      push_cast [b_law_blocks_1]
      refine sub0 ?_
      push_cast [WpSs]
      refine ite_b (fun _ => ?_) (fun c => absurd rfl c)
      obtain ⟨d', rfl⟩ : ∃ d', d = d' + 1 := by cases d with
        | zero => exact (show False from gs).elim
        | succ d' => exact ⟨d', rfl⟩
      have g3 : Gd ls kn d' y := gs
      have z4 := g3.size
      have z5 := Ch.szB_le (d := d') (by omega)
      have fs : (flS (P8.St.wh r c ks f y)).length = 1 + (flL y).length := by simp [flS]; omega
      refine k_subL (d := bv y) viewT_tup (fun _ z => by cases z) rfl ?_
      refine ih d' rfl g3 fun X3 hX3 lX3 => ?_
      push_cast [viewW_lst]
      refine ⟨by rw [List.length_map, List.length_map]; omega, ?_⟩
      have em : Bs.map bv ++ X3.map bv = (Bs ++ X3).map bv := by rw [← List.map_append]
      rw [em]
      refine fin X3 _ (fun b' m => (hX3 b' m).succ) (by rw [fs]; omega)
  · rintro _ _ ⟨rfl, Bs, s2, hB, lB, rfl⟩
    rw [List.length_map, List.take_length] at lB
    push_cast [b_law_blocks_3]
    exact q Bs hB lB
theorem bk_ok {ls : List Str} {kn : List Kn} : ∀ d, d ≤ 5 → BkOk P ls kn d
  | 0, h => bk_step h fun _ e => by cases e
  | d + 1, h => bk_step h fun d' e => by cases e; exact bk_ok d (by omega)
end
open Nm (asc)
theorem pds_sl : ∀ {h : AHeap} (E : List Str), pds (sl E) = some (E.map .str) ∧ pdHs h (sl E) = some (E.map .str)
  | _, [] => ⟨rfl, rfl⟩
  | h, s :: E => by
    obtain ⟨h1, h2⟩ := pds_sl (h := h) E
    constructor
    · show (pd (.str s)).bind (fun d => (pds (sl E)).map (d :: ·)) = _
      rw [h1]; rfl
    · show (pdH h (.str s)).bind (fun d => (pdHs h (sl E)).map (d :: ·)) = _
      rw [h2]; rfl
theorem lay_str (E : List Str) (hc : ∀ s ∈ E, asc s) : PyData.canLayAll0 (E.map .str) = true ∧ PyData.depthAll (E.map .str) ≤ 0 := by
  induction E with
  | nil => exact ⟨rfl, Nat.le_refl _⟩
  | cons w ws ih =>
    have ih := ih fun v hv => hc v (List.mem_cons_of_mem _ hv)
    have so : PyData.strOk w = true := by
      unfold PyData.strOk
      rw [← Array.all_toList, List.all_eq_true]
      intro c m
      have := hc w List.mem_cons_self c m
      exact decide_eq_true (Nat.lt_of_lt_of_le this (by decide))
    simp only [List.map_cons, PyData.canLayAll0, PyData.canLay0, PyData.depthAll, PyData.depth, so, Bool.true_and]
    exact ⟨ih.1, Nat.max_le.mpr ⟨Nat.le_refl _, ih.2⟩⟩
theorem sh_str {E : List Str} (a : ∀ s ∈ E, asc s) : SeqAt.shaped (.list (E.map .str)) = true := by
  have l := lay_str E a
  have d : (PyData.list (E.map .str)).depth ≤ 64 := by
    simp only [PyData.depth]
    omega
  unfold SeqAt.shaped
  rw [Bool.and_eq_true]
  exact ⟨by simp only [PyData.canLay0]; exact l.1, decide_eq_true d⟩
theorem eqvAll_str : ∀ E : List Str, PyData.eqvAll (E.map .str) (E.map .str) = true
  | [] => rfl
  | s :: E => by
    have e : (s == s) = true := beq_self_eq_true s
    simp only [List.map_cons, PyData.eqvAll, PyData.eqv, eqvAll_str E, e, Bool.and_self]
theorem eqv_str (E : List Str) : PyData.eqv (.list (E.map .str)) (.list (E.map .str)) = true := by
  simp only [PyData.eqv, eqvAll_str]
theorem is_list_ok {P : Prg} [U P] {n a : Nat} {E : List Str} {h : AHeap} {Q : AV → AHeap → Prop} (as : ∀ s ∈ E, asc s) (hc : cells h a = .lst (sl E)) (q : Q (.bl true) h) : callN P (n + 1) 284 [.adr a, .lst (sl E)] h Q := by
  refine call_of U.f__law_is_list rfl ?_
  show WpSs (ctxOf P (callN P n)) b_law_is_list _ [.val (.adr a), .val (.lst (sl E))] h
  push_cast [b_law_is_list]
  have isl : ∀ {R : KA}, R (.bl true) → isiK (.adr a) "list" h R := fun {R} r => by
    unfold isiK
    simp only [view, hc]
    exact .inl ⟨trivial, r⟩
  refine isl ?_
  show eqGen h false (.adr a) (.lst (sl E)) (fun z => Q z h)
  have e1 : pdH h (.adr a) = some (.list (E.map .str)) := by
    simp only [pdH, hc, (pds_sl (h := h) E).1, Option.map_some]
  have e2 : pdH h (.lst (sl E)) = some (.list (E.map .str)) := by
    simp only [pdH, (pds_sl (h := h) E).2, Option.map_some]
  unfold eqGen
  rw [e1, e2]
  refine ⟨sh_str as, sh_str as, ?_⟩
  rw [eqv_str]
  exact q
end K08

set_option maxRecDepth 100000
set_option maxHeartbeats 4000000
namespace K08
open PySem L2 VL P8
local macro_rules
  | `(tactic| push_cast [$xs,*]) => `(tactic| try simp only [$xs,*, WpSs, WpS, WpE, WpEs, WpBs, WpO, WpN, WpI, WpC, WpT, getS, setS, tgK, setsS, wipeS, k_add, k_addT, k_sub, k_mul, k_fdiv, k_mod, k_neg, k_lt, k_le, k_gt, k_ge, k_eqI, k_neI, k_eqS, k_neS, k_eqB, k_neB, k_is, k_isn, k_isB, k_isnB, k_gIn, ctx_gdct, isNon_non, isNon_int, isNon_str, isNon_lst, isNon_tup, isNon_adr, k_lenS, k_lenL, k_lenR, k_lenT, k_int, k_str, k_abs, tru_bl, augK, ctx_call, ctx_glob, k_in, k_nin, k_inS, k_addS, k_intB, isi_non_int, isi_non_bool, isi_non_str, isi_non_list, isi_non_tuple, isi_bl_int, isi_bl_bool, isi_bl_str, isi_bl_list, isi_bl_tuple, isi_int_int, isi_int_bool, isi_int_str, isi_int_list, isi_int_tuple, isi_str_int, isi_str_bool, isi_str_str, isi_str_list, isi_str_tuple, isi_tup_int, isi_tup_bool, isi_tup_str, isi_tup_list, isi_tup_tuple, isi_lst_int, isi_lst_bool, isi_lst_str, isi_lst_list, isi_lst_tuple, isi_ro_int, isi_ro_bool, isi_ro_str, isi_ro_list, isi_ro_tuple, zs_lst, zs_tup, viewE_lst, viewE_tup])
open Ga (sz sz100 Rec gd_iff Lt3 sl prv pv k_inT)
open Gb (sub0 hdS Pg prO ptv PrcOk)
open Hd (view_adr cells_put cells_set cells_app cells_last Hx draws_ok take_ok)
open Ch (Up leaf nif)
open Nm (asc)
theorem lists_filter {p : Prc} {t : Str → Bool} : (p.k.ps.filter fun q => q.2 && t q.1).map (·.1) = p.lists.filter t := by
  unfold Prc.lists
  rw [List.filter_map, List.filter_filter]
  congr 1
  refine List.filter_congr fun q _ => ?_
  show (q.2 && t q.1) = ((t ∘ fun x => x.1) q && q.2)
  rw [Bool.and_comm]; rfl
/-- the law's names of what procedure i changes -/
theorem psl_names {L : List Prc} (ok : Ok L) {i : Nat} {p : Prc} (hp : L[i]? = some p) :
    ((List.range p.k.ps.length).filter (rounds L 20 i)).map (fun k => ((p.k.ps[k]?).map (·.1)).getD ("" : Str)) = p.lists.filter (cB L i) := by
  rw [← lists_filter, ← range_filter (fun q : Str × Bool => q.2 && cB L i q.1) (·.1) ("" : Str) p.k.ps]
  congr 1
  refine List.filter_congr fun k hk => ?_
  rw [List.mem_range] at hk
  have hk2 : p.k.ps[k]? = some p.k.ps[k] := List.getElem?_eq_getElem hk
  rw [hk2]
  show _ = (p.k.ps[k].2 && cB L i p.k.ps[k].1)
  by_cases e : rounds L 20 i k = true
  · have := (at_C ok hp hk2).mp e
    rw [e, this.1, (cB_iff ok).mpr this.2]; rfl
  · rw [Bool.eq_false_iff.mpr e]
    symm
    rw [Bool.eq_false_iff]
    intro h
    rw [Bool.and_eq_true] at h
    exact e ((at_C ok hp hk2).mpr ⟨h.1, (cB_iff ok).mp h.2⟩)
theorem Up.app {h0 h1 h2 : AHeap} {a : Nat} {c : Cell} (u : Up h0 h1) (u2 : Up h1 h2) (ha : h1.length ≤ a) : Up h0 (h2.set a c) :=
  ⟨by rw [List.length_set]; exact Nat.le_trans u.len u2.len, fun b hb => by
    have := u.len
    rw [cells_put (by omega)]; exact (u.trans u2).keep b hb⟩
section
variable {P : Prg} [Hd.U P] [Nm.U P] [Pc.U P] [Ch.U P] [Ga.U P] [Gb.U P] [U P]
theorem body_ok {n o ca i : Nat} {L : List Prc} {ns : List Str} {h0 h : AHeap} {D' : Kt} {X0 X1 : AV} {s6 s7 s8 s9 s10 s11 s12 s13 s14 s15 s16 : Slot} {p : Prc} (ok : Ok L) (hL : ∀ p ∈ L, ∀ q ∈ p.k.ps, asc q.1) (hp : L[i]? = some p) (x : Pg h0 o L) (hc : cells h0 ca = .dct (cdk L (rounds L 20))) (u : Up h0 h)
    (q : ∀ (h' : AHeap) (s6 s7 s8 s9 s10 s11 s12 s13 s14 s15 s16 : Slot), Up h0 h' → D'.nx [X0 |> .val, X1 |> .val, .val (.lst (L.map ptv)), .val (.adr (o + L.length)), .val (.adr ca), .val (.int (i : Int)), s6, s7, s8, s9, s10, s11, s12, s13, s14, s15, s16] h') :
    WpSs (ctxOf P (callN P (n + 17))) b_law_7 D' [.val X0, .val X1, .val (.lst (L.map ptv)), .val (.adr (o + L.length)), .val (.adr ca), .val (.int (i : Int)), s6, s7, s8, s9, s10, s11, s12, s13, s14, s15, s16] h := by
  have li := (List.getElem?_eq_some_iff.mp hp).1
  have lp := (ok.ps p (List.mem_of_getElem? hp)).1
  have x1 := Ch.Pg.up x u
  push_cast [b_law_7]
  refine k_subL (h := h) (d := ptv p) viewT_lst (fun _ z => by cases z) (by rw [VL.atI_nat (by rw [List.length_map]; exact li), List.getElem?_map, hp]; rfl) ?_
  push_cast [x1.g, Ch.fl_g, Ch.fdg, true_and]
  have hca := Hd.cells_pos hc (fun z => by cases z)
  have hc1 : cells h ca = .dct (cdk L (rounds L 20)) := (u.keep _ hca).trans hc
  have sub2 : ∀ {hh : AHeap} {Q : KA}, Q (.tup (p.k.ps.map pv)) → subK hh (ptv p) (.int 2) Q := fun {hh Q} q => k_subL (d := .tup (p.k.ps.map pv)) viewT_tup (fun _ z => by cases z) rfl q
  have as : ∀ s ∈ p.lists, asc s := fun s m => hL p (List.mem_of_getElem? hp) _ (mem_lists.mp m)
  refine k_subL (d := .adr (o + i)) viewT_tup (fun _ z => by cases z) (by rw [VL.atI_nat (by simp; exact li), List.getElem?_map, List.getElem?_range li]; rfl) ?_
  refine k_subL (d := .str p.k.name) viewT_tup (fun _ z => by cases z) rfl ?_
  have sd : ∀ {Q : KA}, Q (.lst (psl (rounds L 20) i p.k.ps.length)) → subK h (.adr ca) (.str p.k.name) Q := fun {Q} q => by
    unfold subK
    simp only [viewT, view, hc1, viewD, keyOf, cdk_get ok hp]
    exact q
  refine sd ?_
  push_cast [viewT_lst, if_true]
  have lpl : ((List.range p.k.ps.length).filter (rounds L 20 i)).length ≤ 5 := Nat.le_trans (List.length_filter_le _ _) (by rw [List.length_range]; exact lp)
  refine ⟨sz (by unfold psl; rw [List.length_map]; omega), ?_⟩
  refine Ga.comp_mapL (l := (List.range p.k.ps.length).filter (rounds L 20 i)) (f := fun (k : Nat) => .int (k : Int)) (g := fun k => .str (((p.k.ps[k]?).map (·.1)).getD ("" : Str))) trivial (fun k R m r => ?_) ?_
  · have hk := List.mem_range.mp (List.mem_filter.mp m).1
    have hk2 : p.k.ps[k]? = some p.k.ps[k] := List.getElem?_eq_getElem hk
    rw [hk2] at r
    refine sub2 ?_
    refine k_subL (d := pv p.k.ps[k]) viewT_tup (fun _ z => by cases z) (by rw [VL.atI_nat (by rw [List.length_map]; exact hk), List.getElem?_map, hk2]; rfl) ?_
    exact k_subL (d := .str p.k.ps[k].1) viewT_tup (fun _ z => by cases z) rfl r
  have em : ((List.range p.k.ps.length).filter (rounds L 20 i)).map (fun k => AV.str (((p.k.ps[k]?).map (·.1)).getD ("" : Str))) = sl (p.lists.filter (cB L i)) := by
    rw [← psl_names ok hp]; unfold sl; rw [List.map_map]; rfl
  rw [em]
  have asE : ∀ (t : Str → Bool), ∀ s ∈ p.lists.filter t, asc s := fun t s m => as s (List.mem_filter.mp m).1
  have lE : ∀ (t : Str → Bool), (sl (p.lists.filter t)).length ≤ 10 := fun t => by
    have := List.length_filter_le t p.lists
    have := Ch.lists_le (p := p)
    show (List.map AV.str _).length ≤ 10
    rw [List.length_map]; omega
  refine ⟨⟨by decide, by decide⟩, ?_⟩
  refine for_inv (fun _ ρ h' => Up h0 h' ∧ ∃ (s9 s10 s11 s12 s13 s14 s15 s16 : Slot), ρ = [.val X0, .val X1, .val (.lst (L.map ptv)), .val (.adr (o + L.length)), .val (.adr ca), .val (.int (i : Int)), .val (ptv p), .val (.adr (o + i)), .val (.lst (sl (p.lists.filter (cB L i)))), s9, s10, s11, s12, s13, s14, s15, s16])
    ⟨u, _, _, _, _, _, _, _, _, rfl⟩ (fun _ _ _ _ _ => by trivial) ?_ ?_
  · rintro k y _ h1 D2 hy ⟨u1, s9, s10, s11, s12, s13, s14, s15, s16, rfl⟩ kn2 kc2 kr2 kb2
    push_cast [b_law_2]
    rw [show n + 17 = n + 2 + 15 by omega]
    refine Ch.lists_all ok li (Ch.Pg.up x u1) hp fun a h2 u2 ha ca2 => ?_
    rw [show n + 2 + 15 = n + 16 + 1 by omega]
    push_cast [WpSs]
    refine is_list_ok (asE _) ca2 ?_
    push_cast [Bool.not_true, Bool.false_eq_true, if_false, b_law_1]
    rw [ca2]
    refine ⟨Nat.lt_of_le_of_lt (lE _) (by decide), ?_⟩
    exact kn2 _ _ ⟨Up.app u1 u2 ha, _, _, _, _, _, _, _, _, rfl⟩
  rintro _ h1 ⟨u1, s9, s10, s11, s12, s13, s14, s15, s16, rfl⟩
  push_cast [b_law_6]
  refine k_subL (d := bv p.body) viewT_tup (fun _ z => by cases z) rfl ?_
  rw [show n + 17 = (n + 11) + 5 + 1 by omega]
  refine bk_ok 5 (by omega) (ok.gd i p hp) fun Bs hB lB => ?_
  rw [show (n + 11) + 5 + 1 = n + 17 by omega]
  push_cast [viewT_lst]
  refine for_inv (fun _ ρ h' => Up h0 h' ∧ ∃ (s9 s10 s11 s12 s13 s14 s15 s16 : Slot), ρ = [.val X0, .val X1, .val (.lst (L.map ptv)), .val (.adr (o + L.length)), .val (.adr ca), .val (.int (i : Int)), .val (ptv p), .val (.adr (o + i)), .val (.lst (sl (p.lists.filter (cB L i)))), s9, s10, s11, s12, s13, s14, s15, s16])
    ⟨u1, _, _, _, _, _, _, _, _, rfl⟩ (fun _ _ _ _ _ => by trivial) ?_ ?_
  · rintro k y _ h1 D2 hy ⟨u1, s9, s10, s11, s12, s13, s14, s15, s16, rfl⟩ kn2 kc2 kr2 kb2
    obtain ⟨b, hb, rfl⟩ := items_map hy
    have gb := hB b (List.mem_of_getElem? hb)
    have hc2 : cells h1 ca = .dct (cdk L (rounds L 20)) := (u1.keep _ hca).trans hc
    push_cast [b_law_5]
    rw [show n + 17 = (n + 11) + 5 + 1 by omega]
    have tr : Tr L (rounds L 20) := run_tr ok 20 0
    refine tc_ok ok tr 5 (by omega) gb hc2 fun X hX lX => ?_
    rw [show (n + 11) + 5 + 1 = n + 17 by omega]
    push_cast [WpSs]
    refine sub2 ?_
    push_cast [viewT_tup]
    refine ⟨sz (by rw [List.length_map]; omega), ?_⟩
    refine comp_inv (fun k acc h' => acc = sl (((p.k.ps.take k).filter (fun q => q.2 && tch L (rounds L 20) b q.1)).map (·.1)) ∧ h' = h1) ⟨rfl, rfl⟩ (fun _ _ _ _ _ => by trivial) ?_ ?_
    · rintro k y acc h' R hx ⟨rfl, rfl⟩ k1 k2
      obtain ⟨a, ha, rfl⟩ := items_map hx
      rw [show Ga.pv a = .tup [.str a.1, .bl a.2] from rfl]
      have e : (p.k.ps.take (k + 1)).filter (fun q => q.2 && tch L (rounds L 20) b q.1) = (p.k.ps.take k).filter (fun q => q.2 && tch L (rounds L 20) b q.1) ++ [a].filter (fun q => q.2 && tch L (rounds L 20) b q.1) := by rw [List.take_add_one, ha, List.filter_append]; rfl
      rw [e] at k1 k2
      have yes : (a.2 && tch L (rounds L 20) b a.1) = true → R (some (.str a.1)) h' := fun hb => by
        refine k1 _ _ ⟨?_, rfl⟩
        rw [List.filter_cons, if_pos hb, List.map_append]
        unfold sl; rw [List.map_append]; rfl
      have no : ¬ (a.2 && tch L (rounds L 20) b a.1) = true → R none h' := fun hb => by
        refine k2 _ ⟨?_, rfl⟩
        rw [List.filter_cons, if_neg hb, List.filter_nil, List.append_nil]
      push_cast [WpSs]
      by_cases h2 : a.2 = true
      · rw [if_pos h2]
        refine k_inT viewT_lst ?_
        by_cases m : a.1 ∈ X
        · rw [decide_eq_true m]
          simp only [if_true]
          exact yes (by rw [h2, (hX _).mp m]; rfl)
        · rw [decide_eq_false m]
          simp only [Bool.false_eq_true, if_false]
          exact no fun z => by rw [Bool.and_eq_true] at z; exact m ((hX _).mpr z.2)
      · rw [if_neg h2]
        simp only [Bool.false_eq_true, if_false]
        exact no fun z => by rw [Bool.and_eq_true] at z; exact h2 z.1
    · rintro acc h' ⟨rfl, rfl⟩
      rw [List.length_map, List.take_length, lists_filter]
      push_cast [WpSs]
      refine ⟨⟨by decide, by decide⟩, ?_⟩
      refine for_inv (fun _ ρ h' => Up h0 h' ∧ ∃ (s9 s10 s14 s15 s16 : Slot), ρ = [.val X0, .val X1, .val (.lst (L.map ptv)), .val (.adr (o + L.length)), .val (.adr ca), .val (.int (i : Int)), .val (ptv p), .val (.adr (o + i)), .val (.lst (sl (p.lists.filter (cB L i)))), s9, s10, .val (bv b), .val (.lst (sl X)), .val (.lst (sl (p.lists.filter (tch L (rounds L 20) b)))), s14, s15, s16])
        ⟨u1, _, _, _, _, _, rfl⟩ (fun _ _ _ _ _ => by trivial) ?_ ?_
      · rintro k y _ h1 D3 hy ⟨u1, s9, s10, s14, s15, s16, rfl⟩ kn3 kc3 kr3 kb3
        push_cast [b_law_4]
        rw [show n + 17 = n + 1 + 16 by omega]
        refine Ch.in_ok ok (Ch.Pg.up x u1) hp (d := 5) (by omega) gb fun a h2 u2 ha ca2 => ?_
        rw [show n + 1 + 16 = n + 16 + 1 by omega]
        push_cast [WpSs]
        refine is_list_ok (asE _) ca2 ?_
        push_cast [Bool.not_true, Bool.false_eq_true, if_false, b_law_3]
        rw [ca2]
        refine ⟨Nat.lt_of_le_of_lt (lE _) (by decide), ?_⟩
        exact kn3 _ _ ⟨Up.app u1 u2 ha, _, _, _, _, _, rfl⟩
      · rintro _ h1 ⟨u1, s9, s10, s14, s15, s16, rfl⟩
        exact kn2 _ _ ⟨u1, _, _, _, _, _, _, _, _, rfl⟩
  · rintro _ h1 ⟨u1, s9, s10, s11, s12, s13, s14, s15, s16, rfl⟩
    exact q _ _ _ _ _ _ _ _ _ _ _ _ u1
end
end K08

set_option maxRecDepth 100000
set_option maxHeartbeats 4000000
namespace K08
open PySem L2 VL P8
local macro_rules
  | `(tactic| push_cast [$xs,*]) => `(tactic| try simp only [$xs,*, WpSs, WpS, WpE, WpEs, WpBs, WpO, WpN, WpI, WpC, WpT, getS, setS, tgK, setsS, wipeS, k_add, k_addT, k_sub, k_mul, k_fdiv, k_mod, k_neg, k_lt, k_le, k_gt, k_ge, k_eqI, k_neI, k_eqS, k_neS, k_eqB, k_neB, k_is, k_isn, k_isB, k_isnB, k_gIn, ctx_gdct, isNon_non, isNon_int, isNon_str, isNon_lst, isNon_tup, isNon_adr, k_lenS, k_lenL, k_lenR, k_lenT, k_int, k_str, k_abs, tru_bl, augK, ctx_call, ctx_glob, k_in, k_nin, k_inS, k_addS, k_intB, isi_non_int, isi_non_bool, isi_non_str, isi_non_list, isi_non_tuple, isi_bl_int, isi_bl_bool, isi_bl_str, isi_bl_list, isi_bl_tuple, isi_int_int, isi_int_bool, isi_int_str, isi_int_list, isi_int_tuple, isi_str_int, isi_str_bool, isi_str_str, isi_str_list, isi_str_tuple, isi_tup_int, isi_tup_bool, isi_tup_str, isi_tup_list, isi_tup_tuple, isi_lst_int, isi_lst_bool, isi_lst_str, isi_lst_list, isi_lst_tuple, isi_ro_int, isi_ro_bool, isi_ro_str, isi_ro_list, isi_ro_tuple, zs_lst, zs_tup, viewE_lst, viewE_tup])
open Ga (sz sz100 Rec gd_iff Lt3 sl prv pv k_inT)
open Gb (sub0 hdS Pg prO ptv PrcOk)
open Hd (view_adr cells_put cells_set cells_app cells_last Hx draws_ok take_ok)
open Ch (Up leaf nif)
open Nm (asc)
section
variable {P : Prg} [Hd.U P] [Nm.U P] [Pc.U P] [Ch.U P] [Ga.U P] [Gb.U P] [U P]
theorem law_ok {n : Nat} {ns : List Int} (hn : ns.length ≤ 63) : callN P (n + 18) 285 [.ro (ns.map AV.int)] [] fun d _ => d = .bl true := by
  refine call_of U.f_law rfl ?_
  show WpSs (ctxOf P (callN P (n + 17))) b_law _ [.val (.ro (ns.map AV.int)), .no, .no, .no, .no, .no, .no, .no, .no, .no, .no, .no, .no, .no, .no, .no, .no] []
  push_cast [b_law]
  rw [show n + 17 = n + 16 + 1 by omega]
  refine draws_ok (m := 400) hn (by decide) fun ds hds => ?_
  refine ⟨sz (by simp), ?_⟩
  have hd : Hd.Hnd 0 [Cell.lst [.lst (ds.map AV.int), .int 0]] := ⟨ds, 0, rfl⟩
  push_cast [List.nil_append, List.length_nil]
  rw [show n + 16 + 1 = n + 15 + 2 by omega]
  refine Nm.names_nd hd fun nm h16 nd as h1 x1 => ?_
  refine ⟨sz (by simp), ?_⟩
  refine take_ok x1.hand (by decide) fun k h2 x2 l2 => ?_
  have pk : ∃ mv : Nat, [AV.int 0, AV.int 1, AV.int 4][k]? = some (.int (mv : Int)) := by
    have : k = 0 ∨ k = 1 ∨ k = 2 := by omega
    rcases this with rfl | rfl | rfl
    · exact ⟨0, rfl⟩
    · exact ⟨1, rfl⟩
    · exact ⟨4, rfl⟩
  obtain ⟨mv, hmv⟩ := pk
  refine Ga.k_subV viewT_lst hmv ?_
  rw [show n + 15 + 2 = n + 5 + 12 by omega]
  refine Ga.gen_ok h16 nd x2.hand fun L K hs few h3 x3 => ?_
  have ok := hs.ok h16 nd few
  rw [show n + 5 + 12 = n + 10 + 7 by omega]
  refine Gb.parts_ok (by omega) (fun i p hp => by
    obtain ⟨g1, g2, g3, g4, g5⟩ := hs.gd i p hp
    exact ⟨g1, g2, g3, g4, g5⟩) fun L' hk hg => ?_
  have len : L'.length = L.length := by have := congrArg List.length hk; rw [List.length_map, List.length_map] at this; exact this
  have sim : ∀ {i : Nat} {p : Prc}, L'[i]? = some p → ∃ p', L[i]? = some p' ∧ p'.k = p.k := fun {i p} hp => by
    have e1 : (L'.map (·.k))[i]? = some p.k := by rw [List.getElem?_map, hp]; rfl
    rw [hk, List.getElem?_map] at e1
    exact Option.map_eq_some_iff.mp e1
  have simM : ∀ {p : Prc}, p ∈ L' → ∃ p' ∈ L, p'.k = p.k := fun {p} m => by
    obtain ⟨i, hi⟩ := List.mem_iff_getElem?.mp m
    obtain ⟨p', h1, h2⟩ := sim hi
    exact ⟨p', List.mem_of_getElem? h1, h2⟩
  have ok' : Ok L' := by
    refine ⟨by omega, fun i j p q hp hq e => ?_, fun p m => ?_, fun i p hp => (hg i p hp).gd⟩
    · obtain ⟨p', h1, e1⟩ := sim hp
      obtain ⟨q', h2, e2⟩ := sim hq
      exact ok.nm i j p' q' h1 h2 (by rw [e1, e2]; exact e)
    · obtain ⟨p', m', e⟩ := simM m
      rw [← e]; exact ok.ps p' m'
  have asL : ∀ p ∈ L', ∀ q ∈ p.k.ps, asc q.1 := fun p m q mq => by
    obtain ⟨p', m', e⟩ := simM m
    exact as _ (hs.mem p' m' q (by rw [e]; exact mq))
  rw [show n + 10 + 7 = n + 14 + 3 by omega]
  refine Gb.program_ok (by omega) fun h4 l4 keep pg => ?_
  rw [show n + 14 + 3 = n + 10 + 7 by omega]
  refine changes_ok ok' fun a h5 u5 ha ca => ?_
  rw [show n + 10 + 7 = n + 17 by omega]
  have pg5 := Ch.Pg.up pg u5
  push_cast [bltK, viewT_lst]
  rw [List.length_map]
  refine ⟨⟨by omega, by omega⟩, ?_⟩
  rw [Int.toNat_natCast]
  refine for_inv (fun _ ρ h' => Up h5 h' ∧ ∃ (s5 s6 s7 s8 s9 s10 s11 s12 s13 s14 s15 s16 : Slot), ρ = [.val (.ro (ns.map AV.int)), .val (.adr 0), .val (.lst (L'.map ptv)), .val (.adr (h3.length + L'.length)), .val (.adr a), s5, s6, s7, s8, s9, s10, s11, s12, s13, s14, s15, s16])
    ⟨.refl, _, _, _, _, _, _, _, _, _, _, _, _, rfl⟩ (fun _ _ _ _ _ => by trivial) ?_ ?_
  · rintro i y _ h6 D' hy ⟨u6, s5, s6, s7, s8, s9, s10, s11, s12, s13, s14, s15, s16, rfl⟩ kn kc kr kb
    obtain ⟨hi, rfl⟩ := items_range hy
    exact body_ok (ns := []) ok' asL (List.getElem?_eq_getElem hi) pg5 ca u6 fun h7 s6 s7 s8 s9 s10 s11 s12 s13 s14 s15 s16 u7 => kn _ _ ⟨u7, _, _, _, _, _, _, _, _, _, _, _, _, rfl⟩
  · rintro _ h6 ⟨u6, s5, s6, s7, s8, s9, s10, s11, s12, s13, s14, s15, s16, rfl⟩
    push_cast [b_law_8]
end
end K08

set_option maxRecDepth 100000
set_option maxHeartbeats 4000000
namespace K08
open PySem L2 VL
theorem law_pure : ∀ ns : List Int, ns.length ≤ 63 → callN P 24 285 [.ro (ns.map AV.int)] [] fun d _ => d = .bl true := fun ns hn => law_ok (P := P) (n := 6) hn
end K08

set_option maxRecDepth 100000
set_option maxHeartbeats 4000000
namespace K08
open PySem L2 VL
def T : Tab where
  fname := fun f => ([(19, ("_law_draws" : Str)), (20, ("_law_take" : Str)), (148, ("_law_names" : Str)), (262, ("statements_in" : Str)), (263, ("statements_of" : Str)), (264, ("handed_lists" : Str)), (265, ("changed_in" : Str)), (266, ("changed_names" : Str)), (267, ("changed_lists" : Str)), (268, ("_law_gen_plain" : Str)), (269, ("_law_gen_index" : Str)), (270, ("_law_gen_term" : Str)), (271, ("_law_gen_cmp" : Str)), (272, ("_law_gen_condition" : Str)), (273, ("_law_gen_call" : Str)), (274, ("_law_gen_simple" : Str)), (275, ("_law_gen_block" : Str)), (276, ("_law_gen" : Str)), (277, ("_law_rows" : Str)), (278, ("_law_parts" : Str)), (279, ("_law_made" : Str)), (280, ("_law_program" : Str)), (281, ("_law_touched" : Str)), (282, ("_law_changes" : Str)), (283, ("_law_blocks" : Str)), (284, ("_law_is_list" : Str)), (285, ("law" : Str))] : List (Nat × Str)).lookup f
  gname := fun g => (([] : List (Nat × Str)).lookup g).getD ""
  cname := fun c => ([(11, ("Procedure" : Str)), (10, ("Program" : Str))] : List (Nat × Str)).lookup c
  dname := fun g => ([] : List (Nat × Str)).lookup g
  iname := fun c => ([] : List (Nat × Str)).lookup c
  ename := fun c => ([] : List (Nat × Str)).lookup c
  xname := fun c => ([] : List (Nat × Str)).lookup c
def top (i : Nat) : Stmt := PySem.Challenge.pw_swornrun_k08_lists_that_are_changed.main.body.getD i (.Pass ⟨0, 0, 0, 0⟩)
def t19 : FnT := ⟨"_law_draws", top 11, ["_law_script", "_law_many", "_law_rests", "_law_draws_here", "_law_k", "_law_cell", "_law_at", "_law_mixed"], ["_law_script", "_law_many"]⟩
def t20 : FnT := ⟨"_law_take", top 12, ["_law_hand", "_law_many", "_law_at", "_law_draws_here"], ["_law_hand", "_law_many"]⟩
def t148 : FnT := ⟨"_law_names", top 13, ["_law_hand", "_law_found", "_law_letter", "_law_pad"], ["_law_hand"]⟩
def t258 : FnT := ⟨"__init__", inClass (top 2) 0, ["self", "row", "name", "parameters", "needs", "gives", "moves", "falls", "lets", "body"], ["self", "row", "name", "parameters", "needs", "gives", "moves", "falls", "lets", "body"]⟩
def t259 : FnT := ⟨"list_names", inClass (top 2) 2, ["self", "name", "is_list"], ["self"]⟩
def t260 : FnT := ⟨"__init__", inClass (top 3) 0, ["self", "procedures"], ["self", "procedures"]⟩
def t261 : FnT := ⟨"called", inClass (top 3) 2, ["self", "name", "procedure"], ["self", "name"]⟩
def t262 : FnT := ⟨"statements_in", top 4, ["block", "found", "statement"], ["block"]⟩
def t263 : FnT := ⟨"statements_of", top 5, ["procedure"], ["procedure"]⟩
def t264 : FnT := ⟨"handed_lists", top 6, ["program", "procedure", "block", "found", "statement", "called", "parameter", "argument"], ["program", "procedure", "block"]⟩
def t265 : FnT := ⟨"changed_in", top 7, ["program", "procedure", "block", "changed", "statement", "name", "called", "parameter", "own"], ["program", "procedure", "block"]⟩
def t266 : FnT := ⟨"changed_names", top 8, ["program", "procedure", "changed", "statement", "handed", "name", "called", "parameter", "_"], ["program", "procedure"]⟩
def t267 : FnT := ⟨"changed_lists", top 9, ["program", "procedure", "changed", "name"], ["program", "procedure"]⟩
def t268 : FnT := ⟨"_law_gen_plain", top 18, ["_law_hand", "_law_ctx", "_law_lists", "_law_numbers", "_law_kind"], ["_law_hand", "_law_ctx"]⟩
def t269 : FnT := ⟨"_law_gen_index", top 19, ["_law_hand", "_law_ctx", "_law_name", "_law_kind"], ["_law_hand", "_law_ctx", "_law_name"]⟩
def t270 : FnT := ⟨"_law_gen_term", top 20, ["_law_hand", "_law_ctx", "_law_name", "_law_index"], ["_law_hand", "_law_ctx"]⟩
def t271 : FnT := ⟨"_law_gen_cmp", top 21, ["_law_hand", "_law_ctx", "_law_sign"], ["_law_hand", "_law_ctx"]⟩
def t272 : FnT := ⟨"_law_gen_condition", top 22, ["_law_hand", "_law_ctx", "_law_kind", "_law_first", "_law_second", "_law_third", "_law_forms"], ["_law_hand", "_law_ctx"]⟩
def t273 : FnT := ⟨"_law_gen_call", top 23, ["_law_hand", "_law_ctx", "_law_name", "_law_parameters", "_law_moves", "_law_free", "_law_arguments", "_law_one", "_law_is_list_here", "_law_fit", "_law_chosen", "_law_other"], ["_law_hand", "_law_ctx"]⟩
def t274 : FnT := ⟨"_law_gen_simple", top 24, ["_law_hand", "_law_ctx", "_law_kind", "_law_name", "_law_low", "_law_high"], ["_law_hand", "_law_ctx"]⟩
def t275 : FnT := ⟨"_law_gen_block", top 25, ["_law_hand", "_law_ctx", "_law_depth", "_law_whiles", "_law_many", "_law_budget", "_law_block", "_law_done", "_law_k", "_law_kind", "_law_count", "_law_condition", "_law_statement", "_law_breadth", "_law_fits", "_law_then", "_law_other", "_law_body", "_law_falls", "_law_inner", "_law_counter", "_law_keeps"], ["_law_hand", "_law_ctx", "_law_depth", "_law_whiles", "_law_many", "_law_budget"]⟩
def t276 : FnT := ⟨"_law_gen", top 26, ["_law_hand", "_law_n", "_law_moved", "_law_procs", "_law_known", "_law_rows_here", "_law_k", "_law_lists", "_law_numbers", "_law_parameters", "_law_moves", "_law_ctx", "_law_falls", "_law_lets", "_law_false", "_law_needs", "_law_gives", "_law_body", "_law_last", "_law_name"], ["_law_hand", "_law_n", "_law_moved"]⟩
def t277 : FnT := ⟨"_law_rows", top 14, ["_law_block", "_law_row", "_law_found", "_law_statement", "_law_first", "_law_then", "_law_other", "_law_body"], ["_law_block", "_law_row"]⟩
def t278 : FnT := ⟨"_law_parts", top 15, ["_law_procs", "_law_made_here", "_law_row", "_law_name", "_law_parameters", "_law_needs", "_law_gives", "_law_moves", "_law_falls", "_law_lets", "_law_body", "_law_first", "_law_told", "_law_let", "_law_block"], ["_law_procs"]⟩
def t279 : FnT := ⟨"_law_made", top 16, ["_law_one"], ["_law_one"]⟩
def t280 : FnT := ⟨"_law_program", top 17, ["_law_parts_here", "_law_one"], ["_law_parts_here"]⟩
def t281 : FnT := ⟨"_law_touched", top 27, ["_law_block", "_law_changes_here", "_law_found", "_law_statement", "_law_kind", "_law_at"], ["_law_block", "_law_changes_here"]⟩
def t282 : FnT := ⟨"_law_changes", top 28, ["_law_parts_here", "_law_changes_here", "_law_one", "_law_step", "_law_touched_here", "_law_at"], ["_law_parts_here"]⟩
def t283 : FnT := ⟨"_law_blocks", top 29, ["_law_block", "_law_found", "_law_statement"], ["_law_block"]⟩
def t284 : FnT := ⟨"_law_is_list", top 30, ["_law_found", "_law_expected"], ["_law_found", "_law_expected"]⟩
def t285 : FnT := ⟨"law", top 31, ["_law_script", "_law_hand", "_law_parts_here", "_law_program_here", "_law_changes_here", "_law_at", "_law_one", "_law_procedure", "_law_expected", "_law_step", "_law_found", "_law_block", "_law_touched_here", "_law_due", "_law_place", "_law_name", "_law_is_list_here"], ["_law_script"]⟩
def ts (f : Nat) : Option FnT := ([(19, t19), (20, t20), (148, t148), (258, t258), (259, t259), (260, t260), (261, t261), (262, t262), (263, t263), (264, t264), (265, t265), (266, t266), (267, t267), (268, t268), (269, t269), (270, t270), (271, t271), (272, t272), (273, t273), (274, t274), (275, t275), (276, t276), (277, t277), (278, t278), (279, t279), (280, t280), (281, t281), (282, t282), (283, t283), (284, t284), (285, t285)] : List (Nat × FnT)).lookup f
theorem ag19 : agF T t19 ⟨2, 8, Hd.b_law_draws⟩ = true := by decide +kernel
theorem ag20 : agF T t20 ⟨2, 4, Hd.b_law_take⟩ = true := by decide +kernel
theorem ag148 : agF T t148 ⟨1, 4, Nm.b_law_names⟩ = true := by decide +kernel
theorem ag258 : agF T t258 ⟨10, 10, Pc.b_Procedure___init__⟩ = true := by decide +kernel
theorem ag259 : agF T t259 ⟨1, 3, Pc.b_Procedure_list_names⟩ = true := by decide +kernel
theorem ag260 : agF T t260 ⟨2, 2, Pc.b_Program___init__⟩ = true := by decide +kernel
theorem ag261 : agF T t261 ⟨2, 3, Pc.b_Program_called⟩ = true := by decide +kernel
theorem ag262 : agF T t262 ⟨1, 3, Ch.b_statements_in⟩ = true := by decide +kernel
theorem ag263 : agF T t263 ⟨1, 1, Ch.b_statements_of⟩ = true := by decide +kernel
theorem ag264 : agF T t264 ⟨3, 8, Ch.b_handed_lists⟩ = true := by decide +kernel
theorem ag265 : agF T t265 ⟨3, 9, Ch.b_changed_in⟩ = true := by decide +kernel
theorem ag266 : agF T t266 ⟨2, 9, Ch.b_changed_names⟩ = true := by decide +kernel
theorem ag267 : agF T t267 ⟨2, 4, Ch.b_changed_lists⟩ = true := by decide +kernel
theorem ag268 : agF T t268 ⟨2, 5, Ga.b_law_gen_plain⟩ = true := by decide +kernel
theorem ag269 : agF T t269 ⟨3, 4, Ga.b_law_gen_index⟩ = true := by decide +kernel
theorem ag270 : agF T t270 ⟨2, 4, Ga.b_law_gen_term⟩ = true := by decide +kernel
theorem ag271 : agF T t271 ⟨2, 3, Ga.b_law_gen_cmp⟩ = true := by decide +kernel
theorem ag272 : agF T t272 ⟨2, 7, Ga.b_law_gen_condition⟩ = true := by decide +kernel
theorem ag273 : agF T t273 ⟨2, 12, Ga.b_law_gen_call⟩ = true := by decide +kernel
theorem ag274 : agF T t274 ⟨2, 6, Ga.b_law_gen_simple⟩ = true := by decide +kernel
theorem ag275 : agF T t275 ⟨6, 22, Ga.b_law_gen_block⟩ = true := by decide +kernel
theorem ag276 : agF T t276 ⟨3, 20, Ga.b_law_gen⟩ = true := by decide +kernel
theorem ag277 : agF T t277 ⟨2, 8, Gb.b_law_rows⟩ = true := by decide +kernel
theorem ag278 : agF T t278 ⟨1, 15, Gb.b_law_parts⟩ = true := by decide +kernel
theorem ag279 : agF T t279 ⟨1, 1, Gb.b_law_made⟩ = true := by decide +kernel
theorem ag280 : agF T t280 ⟨1, 2, Gb.b_law_program⟩ = true := by decide +kernel
theorem ag281 : agF T t281 ⟨2, 6, K08.b_law_touched⟩ = true := by decide +kernel
theorem ag282 : agF T t282 ⟨1, 6, K08.b_law_changes⟩ = true := by decide +kernel
theorem ag283 : agF T t283 ⟨1, 3, K08.b_law_blocks⟩ = true := by decide +kernel
theorem ag284 : agF T t284 ⟨2, 2, K08.b_law_is_list⟩ = true := by decide +kernel
theorem ag285 : agF T t285 ⟨1, 17, K08.b_law⟩ = true := by decide +kernel
end K08

namespace K08
open PySem L2 VL
theorem all_mk {w : World} {K : PySem.W.Frag} {h : Heap} {mg : Str → Option Value} {fa : Addr} (X : K.In h) (G : h.Ns mainGlobals mg) (hfa : mg "law" = some (.ref fa))
    {f19 f20 f148 f258 f259 f260 f261 f262 f263 f264 f265 f266 f267 f268 f269 f270 f271 f272 f273 f274 f275 f276 f277 f278 f279 f280 f281 f282 f283 f284 f285 C11 C10 : Addr} {od19 an19 od20 an20 od148 an148 od258 an258 od259 an259 od260 an260 od261 an261 od262 an262 od263 an263 od264 an264 od265 an265 od266 an266 od267 an267 od268 an268 od269 an269 od270 an270 od271 an271 od272 an272 od273 an273 od274 an274 od275 an275 od276 an276 od277 an277 od278 an278 od279 an279 od280 an280 od281 an281 od282 an282 od283 an283 od284 an284 od285 an285 : Option Addr} {sl19 sl20 sl148 sl258 sl259 sl260 sl261 sl262 sl263 sl264 sl265 sl266 sl267 sl268 sl269 sl270 sl271 sl272 sl273 sl274 sl275 sl276 sl277 sl278 sl279 sl280 sl281 sl282 sl283 sl284 sl285 : Array (Option Value)} {oc19 kV19 dc19 pm19 cd19 ct19 oc20 kV20 dc20 pm20 cd20 ct20 oc148 kV148 dc148 pm148 cd148 ct148 oc258 kV258 dc258 pm258 cd258 ct258 oc259 kV259 dc259 pm259 cd259 ct259 oc260 kV260 dc260 pm260 cd260 ct260 oc261 kV261 dc261 pm261 cd261 ct261 oc262 kV262 dc262 pm262 cd262 ct262 oc263 kV263 dc263 pm263 cd263 ct263 oc264 kV264 dc264 pm264 cd264 ct264 oc265 kV265 dc265 pm265 cd265 ct265 oc266 kV266 dc266 pm266 cd266 ct266 oc267 kV267 dc267 pm267 cd267 ct267 oc268 kV268 dc268 pm268 cd268 ct268 oc269 kV269 dc269 pm269 cd269 ct269 oc270 kV270 dc270 pm270 cd270 ct270 oc271 kV271 dc271 pm271 cd271 ct271 oc272 kV272 dc272 pm272 cd272 ct272 oc273 kV273 dc273 pm273 cd273 ct273 oc274 kV274 dc274 pm274 cd274 ct274 oc275 kV275 dc275 pm275 cd275 ct275 oc276 kV276 dc276 pm276 cd276 ct276 oc277 kV277 dc277 pm277 cd277 ct277 oc278 kV278 dc278 pm278 cd278 ct278 oc279 kV279 dc279 pm279 cd279 ct279 oc280 kV280 dc280 pm280 cd280 ct280 oc281 kV281 dc281 pm281 cd281 ct281 oc282 kV282 dc282 pm282 cd282 ct282 oc283 kV283 dc283 pm283 cd283 ct283 oc284 kV284 dc284 pm284 cd284 ct284 oc285 kV285 dc285 pm285 cd285 ct285 : Value} {p259 : Addr} {re259 : List Value}
    (a19 : PySem.W.nsIn K mainGlobals "_law_draws" = some (some (.ref f19)))
    (l19 : K.lookup f19 = some ⟨oc19, od19, .func (PySem.W.fnOf "_law_draws" "_law_draws" (defArgs t19.st) (defBody t19.st) (defScope t19.st) .none kV19 dc19 pm19 an19 cd19 ct19), sl19⟩)
    (c19 : PySem.W.codeIn K cd19 "_law_draws" = true)
    (k19 : PySem.W.keepIn K (.ref f19) = true)
    (a20 : PySem.W.nsIn K mainGlobals "_law_take" = some (some (.ref f20)))
    (l20 : K.lookup f20 = some ⟨oc20, od20, .func (PySem.W.fnOf "_law_take" "_law_take" (defArgs t20.st) (defBody t20.st) (defScope t20.st) .none kV20 dc20 pm20 an20 cd20 ct20), sl20⟩)
    (c20 : PySem.W.codeIn K cd20 "_law_take" = true)
    (k20 : PySem.W.keepIn K (.ref f20) = true)
    (a148 : PySem.W.nsIn K mainGlobals "_law_names" = some (some (.ref f148)))
    (l148 : K.lookup f148 = some ⟨oc148, od148, .func (PySem.W.fnOf "_law_names" "_law_names" (defArgs t148.st) (defBody t148.st) (defScope t148.st) .none kV148 dc148 pm148 an148 cd148 ct148), sl148⟩)
    (c148 : PySem.W.codeIn K cd148 "_law_names" = true)
    (k148 : PySem.W.keepIn K (.ref f148) = true)
    (a258 : PySem.W.findIn K (.ref C11) "__init__" = some (some (.ref f258)))
    (i258 : PySem.W.isFn K (.ref f258) = true)
    (l258 : K.lookup f258 = some ⟨oc258, od258, .func (PySem.W.fnOf "__init__" "Procedure.__init__" (defArgs t258.st) (defBody t258.st) (defScope t258.st) .none kV258 dc258 pm258 an258 cd258 ct258), sl258⟩)
    (c258 : PySem.W.codeIn K cd258 "Procedure.__init__" = true)
    (k258 : PySem.W.keepIn K (.ref f258) = true)
    (a259 : PySem.W.findIn K (.ref C11) "list_names" = some (some (.ref p259)))
    (pq259 : PySem.W.specialIn K (.ref p259) "__get__" = some (some (.builtin "property.__get__")))
    (pt259 : PySem.W.takesIn K (.ref p259) = some true)
    (pr259 : PySem.W.recIn K p259 "property" = some (.ref f259 :: re259))
    (l259 : K.lookup f259 = some ⟨oc259, od259, .func (PySem.W.fnOf "list_names" "Procedure.list_names" (defArgs t259.st) (defBody t259.st) (defScope t259.st) .none kV259 dc259 pm259 an259 cd259 ct259), sl259⟩)
    (c259 : PySem.W.codeIn K cd259 "Procedure.list_names" = true)
    (k259 : PySem.W.keepIn K (.ref f259) = true)
    (a260 : PySem.W.findIn K (.ref C10) "__init__" = some (some (.ref f260)))
    (i260 : PySem.W.isFn K (.ref f260) = true)
    (l260 : K.lookup f260 = some ⟨oc260, od260, .func (PySem.W.fnOf "__init__" "Program.__init__" (defArgs t260.st) (defBody t260.st) (defScope t260.st) .none kV260 dc260 pm260 an260 cd260 ct260), sl260⟩)
    (c260 : PySem.W.codeIn K cd260 "Program.__init__" = true)
    (k260 : PySem.W.keepIn K (.ref f260) = true)
    (a261 : PySem.W.findIn K (.ref C10) "called" = some (some (.ref f261)))
    (i261 : PySem.W.isFn K (.ref f261) = true)
    (l261 : K.lookup f261 = some ⟨oc261, od261, .func (PySem.W.fnOf "called" "Program.called" (defArgs t261.st) (defBody t261.st) (defScope t261.st) .none kV261 dc261 pm261 an261 cd261 ct261), sl261⟩)
    (c261 : PySem.W.codeIn K cd261 "Program.called" = true)
    (k261 : PySem.W.keepIn K (.ref f261) = true)
    (a262 : PySem.W.nsIn K mainGlobals "statements_in" = some (some (.ref f262)))
    (l262 : K.lookup f262 = some ⟨oc262, od262, .func (PySem.W.fnOf "statements_in" "statements_in" (defArgs t262.st) (defBody t262.st) (defScope t262.st) .none kV262 dc262 pm262 an262 cd262 ct262), sl262⟩)
    (c262 : PySem.W.codeIn K cd262 "statements_in" = true)
    (k262 : PySem.W.keepIn K (.ref f262) = true)
    (a263 : PySem.W.nsIn K mainGlobals "statements_of" = some (some (.ref f263)))
    (l263 : K.lookup f263 = some ⟨oc263, od263, .func (PySem.W.fnOf "statements_of" "statements_of" (defArgs t263.st) (defBody t263.st) (defScope t263.st) .none kV263 dc263 pm263 an263 cd263 ct263), sl263⟩)
    (c263 : PySem.W.codeIn K cd263 "statements_of" = true)
    (k263 : PySem.W.keepIn K (.ref f263) = true)
    (a264 : PySem.W.nsIn K mainGlobals "handed_lists" = some (some (.ref f264)))
    (l264 : K.lookup f264 = some ⟨oc264, od264, .func (PySem.W.fnOf "handed_lists" "handed_lists" (defArgs t264.st) (defBody t264.st) (defScope t264.st) .none kV264 dc264 pm264 an264 cd264 ct264), sl264⟩)
    (c264 : PySem.W.codeIn K cd264 "handed_lists" = true)
    (k264 : PySem.W.keepIn K (.ref f264) = true)
    (a265 : PySem.W.nsIn K mainGlobals "changed_in" = some (some (.ref f265)))
    (l265 : K.lookup f265 = some ⟨oc265, od265, .func (PySem.W.fnOf "changed_in" "changed_in" (defArgs t265.st) (defBody t265.st) (defScope t265.st) .none kV265 dc265 pm265 an265 cd265 ct265), sl265⟩)
    (c265 : PySem.W.codeIn K cd265 "changed_in" = true)
    (k265 : PySem.W.keepIn K (.ref f265) = true)
    (a266 : PySem.W.nsIn K mainGlobals "changed_names" = some (some (.ref f266)))
    (l266 : K.lookup f266 = some ⟨oc266, od266, .func (PySem.W.fnOf "changed_names" "changed_names" (defArgs t266.st) (defBody t266.st) (defScope t266.st) .none kV266 dc266 pm266 an266 cd266 ct266), sl266⟩)
    (c266 : PySem.W.codeIn K cd266 "changed_names" = true)
    (k266 : PySem.W.keepIn K (.ref f266) = true)
    (a267 : PySem.W.nsIn K mainGlobals "changed_lists" = some (some (.ref f267)))
    (l267 : K.lookup f267 = some ⟨oc267, od267, .func (PySem.W.fnOf "changed_lists" "changed_lists" (defArgs t267.st) (defBody t267.st) (defScope t267.st) .none kV267 dc267 pm267 an267 cd267 ct267), sl267⟩)
    (c267 : PySem.W.codeIn K cd267 "changed_lists" = true)
    (k267 : PySem.W.keepIn K (.ref f267) = true)
    (a268 : PySem.W.nsIn K mainGlobals "_law_gen_plain" = some (some (.ref f268)))
    (l268 : K.lookup f268 = some ⟨oc268, od268, .func (PySem.W.fnOf "_law_gen_plain" "_law_gen_plain" (defArgs t268.st) (defBody t268.st) (defScope t268.st) .none kV268 dc268 pm268 an268 cd268 ct268), sl268⟩)
    (c268 : PySem.W.codeIn K cd268 "_law_gen_plain" = true)
    (k268 : PySem.W.keepIn K (.ref f268) = true)
    (a269 : PySem.W.nsIn K mainGlobals "_law_gen_index" = some (some (.ref f269)))
    (l269 : K.lookup f269 = some ⟨oc269, od269, .func (PySem.W.fnOf "_law_gen_index" "_law_gen_index" (defArgs t269.st) (defBody t269.st) (defScope t269.st) .none kV269 dc269 pm269 an269 cd269 ct269), sl269⟩)
    (c269 : PySem.W.codeIn K cd269 "_law_gen_index" = true)
    (k269 : PySem.W.keepIn K (.ref f269) = true)
    (a270 : PySem.W.nsIn K mainGlobals "_law_gen_term" = some (some (.ref f270)))
    (l270 : K.lookup f270 = some ⟨oc270, od270, .func (PySem.W.fnOf "_law_gen_term" "_law_gen_term" (defArgs t270.st) (defBody t270.st) (defScope t270.st) .none kV270 dc270 pm270 an270 cd270 ct270), sl270⟩)
    (c270 : PySem.W.codeIn K cd270 "_law_gen_term" = true)
    (k270 : PySem.W.keepIn K (.ref f270) = true)
    (a271 : PySem.W.nsIn K mainGlobals "_law_gen_cmp" = some (some (.ref f271)))
    (l271 : K.lookup f271 = some ⟨oc271, od271, .func (PySem.W.fnOf "_law_gen_cmp" "_law_gen_cmp" (defArgs t271.st) (defBody t271.st) (defScope t271.st) .none kV271 dc271 pm271 an271 cd271 ct271), sl271⟩)
    (c271 : PySem.W.codeIn K cd271 "_law_gen_cmp" = true)
    (k271 : PySem.W.keepIn K (.ref f271) = true)
    (a272 : PySem.W.nsIn K mainGlobals "_law_gen_condition" = some (some (.ref f272)))
    (l272 : K.lookup f272 = some ⟨oc272, od272, .func (PySem.W.fnOf "_law_gen_condition" "_law_gen_condition" (defArgs t272.st) (defBody t272.st) (defScope t272.st) .none kV272 dc272 pm272 an272 cd272 ct272), sl272⟩)
    (c272 : PySem.W.codeIn K cd272 "_law_gen_condition" = true)
    (k272 : PySem.W.keepIn K (.ref f272) = true)
    (a273 : PySem.W.nsIn K mainGlobals "_law_gen_call" = some (some (.ref f273)))
    (l273 : K.lookup f273 = some ⟨oc273, od273, .func (PySem.W.fnOf "_law_gen_call" "_law_gen_call" (defArgs t273.st) (defBody t273.st) (defScope t273.st) .none kV273 dc273 pm273 an273 cd273 ct273), sl273⟩)
    (c273 : PySem.W.codeIn K cd273 "_law_gen_call" = true)
    (k273 : PySem.W.keepIn K (.ref f273) = true)
    (a274 : PySem.W.nsIn K mainGlobals "_law_gen_simple" = some (some (.ref f274)))
    (l274 : K.lookup f274 = some ⟨oc274, od274, .func (PySem.W.fnOf "_law_gen_simple" "_law_gen_simple" (defArgs t274.st) (defBody t274.st) (defScope t274.st) .none kV274 dc274 pm274 an274 cd274 ct274), sl274⟩)
    (c274 : PySem.W.codeIn K cd274 "_law_gen_simple" = true)
    (k274 : PySem.W.keepIn K (.ref f274) = true)
    (a275 : PySem.W.nsIn K mainGlobals "_law_gen_block" = some (some (.ref f275)))
    (l275 : K.lookup f275 = some ⟨oc275, od275, .func (PySem.W.fnOf "_law_gen_block" "_law_gen_block" (defArgs t275.st) (defBody t275.st) (defScope t275.st) .none kV275 dc275 pm275 an275 cd275 ct275), sl275⟩)
    (c275 : PySem.W.codeIn K cd275 "_law_gen_block" = true)
    (k275 : PySem.W.keepIn K (.ref f275) = true)
    (a276 : PySem.W.nsIn K mainGlobals "_law_gen" = some (some (.ref f276)))
    (l276 : K.lookup f276 = some ⟨oc276, od276, .func (PySem.W.fnOf "_law_gen" "_law_gen" (defArgs t276.st) (defBody t276.st) (defScope t276.st) .none kV276 dc276 pm276 an276 cd276 ct276), sl276⟩)
    (c276 : PySem.W.codeIn K cd276 "_law_gen" = true)
    (k276 : PySem.W.keepIn K (.ref f276) = true)
    (a277 : PySem.W.nsIn K mainGlobals "_law_rows" = some (some (.ref f277)))
    (l277 : K.lookup f277 = some ⟨oc277, od277, .func (PySem.W.fnOf "_law_rows" "_law_rows" (defArgs t277.st) (defBody t277.st) (defScope t277.st) .none kV277 dc277 pm277 an277 cd277 ct277), sl277⟩)
    (c277 : PySem.W.codeIn K cd277 "_law_rows" = true)
    (k277 : PySem.W.keepIn K (.ref f277) = true)
    (a278 : PySem.W.nsIn K mainGlobals "_law_parts" = some (some (.ref f278)))
    (l278 : K.lookup f278 = some ⟨oc278, od278, .func (PySem.W.fnOf "_law_parts" "_law_parts" (defArgs t278.st) (defBody t278.st) (defScope t278.st) .none kV278 dc278 pm278 an278 cd278 ct278), sl278⟩)
    (c278 : PySem.W.codeIn K cd278 "_law_parts" = true)
    (k278 : PySem.W.keepIn K (.ref f278) = true)
    (a279 : PySem.W.nsIn K mainGlobals "_law_made" = some (some (.ref f279)))
    (l279 : K.lookup f279 = some ⟨oc279, od279, .func (PySem.W.fnOf "_law_made" "_law_made" (defArgs t279.st) (defBody t279.st) (defScope t279.st) .none kV279 dc279 pm279 an279 cd279 ct279), sl279⟩)
    (c279 : PySem.W.codeIn K cd279 "_law_made" = true)
    (k279 : PySem.W.keepIn K (.ref f279) = true)
    (a280 : PySem.W.nsIn K mainGlobals "_law_program" = some (some (.ref f280)))
    (l280 : K.lookup f280 = some ⟨oc280, od280, .func (PySem.W.fnOf "_law_program" "_law_program" (defArgs t280.st) (defBody t280.st) (defScope t280.st) .none kV280 dc280 pm280 an280 cd280 ct280), sl280⟩)
    (c280 : PySem.W.codeIn K cd280 "_law_program" = true)
    (k280 : PySem.W.keepIn K (.ref f280) = true)
    (a281 : PySem.W.nsIn K mainGlobals "_law_touched" = some (some (.ref f281)))
    (l281 : K.lookup f281 = some ⟨oc281, od281, .func (PySem.W.fnOf "_law_touched" "_law_touched" (defArgs t281.st) (defBody t281.st) (defScope t281.st) .none kV281 dc281 pm281 an281 cd281 ct281), sl281⟩)
    (c281 : PySem.W.codeIn K cd281 "_law_touched" = true)
    (k281 : PySem.W.keepIn K (.ref f281) = true)
    (a282 : PySem.W.nsIn K mainGlobals "_law_changes" = some (some (.ref f282)))
    (l282 : K.lookup f282 = some ⟨oc282, od282, .func (PySem.W.fnOf "_law_changes" "_law_changes" (defArgs t282.st) (defBody t282.st) (defScope t282.st) .none kV282 dc282 pm282 an282 cd282 ct282), sl282⟩)
    (c282 : PySem.W.codeIn K cd282 "_law_changes" = true)
    (k282 : PySem.W.keepIn K (.ref f282) = true)
    (a283 : PySem.W.nsIn K mainGlobals "_law_blocks" = some (some (.ref f283)))
    (l283 : K.lookup f283 = some ⟨oc283, od283, .func (PySem.W.fnOf "_law_blocks" "_law_blocks" (defArgs t283.st) (defBody t283.st) (defScope t283.st) .none kV283 dc283 pm283 an283 cd283 ct283), sl283⟩)
    (c283 : PySem.W.codeIn K cd283 "_law_blocks" = true)
    (k283 : PySem.W.keepIn K (.ref f283) = true)
    (a284 : PySem.W.nsIn K mainGlobals "_law_is_list" = some (some (.ref f284)))
    (l284 : K.lookup f284 = some ⟨oc284, od284, .func (PySem.W.fnOf "_law_is_list" "_law_is_list" (defArgs t284.st) (defBody t284.st) (defScope t284.st) .none kV284 dc284 pm284 an284 cd284 ct284), sl284⟩)
    (c284 : PySem.W.codeIn K cd284 "_law_is_list" = true)
    (k284 : PySem.W.keepIn K (.ref f284) = true)
    (a285 : PySem.W.nsIn K mainGlobals "law" = some (some (.ref f285)))
    (l285 : K.lookup f285 = some ⟨oc285, od285, .func (PySem.W.fnOf "law" "law" (defArgs t285.st) (defBody t285.st) (defScope t285.st) .none kV285 dc285 pm285 an285 cd285 ct285), sl285⟩)
    (c285 : PySem.W.codeIn K cd285 "law" = true)
    (k285 : PySem.W.keepIn K (.ref f285) = true)
    (aC11 : PySem.W.nsIn K mainGlobals "Procedure" = some (some (.ref C11)))
    (pg11 : PySem.W.plainGet K C11 Str.empty = true)
    (hd11 : PySem.W.hasDictIn K C11 = true)
    (po11 : PySem.W.plainOver K C11 = true)
    (sa11 : PySem.W.findIn K (.ref C11) "__setattr__" = some (some (.builtin "object.__setattr__")))
    (mk11 : PySem.W.makesIn K C11 = true)
    (kc11 : PySem.W.keepIn K (.ref C11) = true)
    (aC10 : PySem.W.nsIn K mainGlobals "Program" = some (some (.ref C10)))
    (pg10 : PySem.W.plainGet K C10 Str.empty = true)
    (hd10 : PySem.W.hasDictIn K C10 = true)
    (po10 : PySem.W.plainOver K C10 = true)
    (sa10 : PySem.W.findIn K (.ref C10) "__setattr__" = some (some (.builtin "object.__setattr__")))
    (mk10 : PySem.W.makesIn K C10 = true)
    (kc10 : PySem.W.keepIn K (.ref C10) = true)
    (fl0 : PySem.W.findIn K (.ref C11) "row" = some none)
    (fl1 : PySem.W.findIn K (.ref C11) "name" = some none)
    (fl2 : PySem.W.findIn K (.ref C11) "parameters" = some none)
    (fl3 : PySem.W.findIn K (.ref C11) "needs" = some none)
    (fl4 : PySem.W.findIn K (.ref C11) "gives" = some none)
    (fl5 : PySem.W.findIn K (.ref C11) "moves" = some none)
    (fl6 : PySem.W.findIn K (.ref C11) "falls" = some none)
    (fl7 : PySem.W.findIn K (.ref C11) "lets" = some none)
    (fl8 : PySem.W.findIn K (.ref C11) "body" = some none)
    (fl9 : PySem.W.findIn K (.ref C10) "procedures" = some none)
    (z0 : PySem.W.nsIn K mainGlobals "len" = some none)
    (z1 : PySem.W.nsIn K mainGlobals "abs" = some none)
    (z2 : PySem.W.nsIn K mainGlobals "int" = some none)
    (z3 : PySem.W.nsIn K mainGlobals "str" = some none)
    (z4 : PySem.W.nsIn K mainGlobals "max" = some none)
    (z5 : PySem.W.nsIn K mainGlobals "min" = some none)
    (z6 : PySem.W.nsIn K mainGlobals "sum" = some none)
    (z7 : PySem.W.nsIn K mainGlobals "all" = some none)
    (z8 : PySem.W.nsIn K mainGlobals "any" = some none)
    (z9 : PySem.W.nsIn K mainGlobals "tuple" = some none)
    (z10 : PySem.W.nsIn K mainGlobals "list" = some none)
    (z11 : PySem.W.nsIn K mainGlobals "range" = some none)
    (z12 : PySem.W.nsIn K mainGlobals "isinstance" = some none)
    (z13 : PySem.W.nsIn K mainGlobals "bool" = some none)
    (z14 : PySem.W.nsIn K mainGlobals "dict" = some none)
    (z15 : PySem.W.nsIn K mainGlobals "repr" = some none)
    (z16 : PySem.W.nsIn K mainGlobals "sorted" = some none)
    (z17 : PySem.W.nsIn K mainGlobals "zip" = some none)
    (z18 : PySem.W.nsIn K mainGlobals "enumerate" = some none)
    (z19 : PySem.W.nsIn K mainGlobals "reversed" = some none) :
    ∃ Cl : Nat → Addr, PFacts w P T Cl ts K mg ∧ ∃ fd : FuncData, (∀ (s : Shared) (v : Value), BindsTo s fd ⟨[v], []⟩ [("_law_script", v)]) ∧ Fun K "law" "law" t285.st fa fd := by
  have e := hfa.symm.trans (PySem.W.mg_of X G a285)
  cases e
  refine ⟨fun c => (([(11, C11), (10, C10)] : List (Nat × Addr)).lookup c).getD 0, ⟨fun x hx => ?_, fun g d hg => ?_, fun f F hf => ?_, fun f x hx => ?_, fun c x hx => ?_, fun c m f hx => ?_, fun c m f hx => ?_, fun c f hx => ?_, fun g x hx => ?_, fun c x hx => ?_, fun c x hx => ?_, fun f t hx => ?_, fun c d b hx => ?_, fun c x hx => ?_⟩, PySem.W.fnOf "law" "law" (defArgs t285.st) (defBody t285.st) (defScope t285.st) .none kV285 dc285 pm285 an285 cd285 ct285, fun s v => .of_eq rfl, fun_mk (st := t285.st) l285 c285 k285⟩
  · simp only [bltNames, List.mem_cons, List.not_mem_nil, or_false] at hx
    rcases hx with rfl | rfl | rfl | rfl | rfl | rfl | rfl | rfl | rfl | rfl | rfl | rfl | rfl | rfl | rfl | rfl | rfl | rfl | rfl | rfl
    · exact PySem.W.mg_none_of X G z0
    · exact PySem.W.mg_none_of X G z1
    · exact PySem.W.mg_none_of X G z2
    · exact PySem.W.mg_none_of X G z3
    · exact PySem.W.mg_none_of X G z4
    · exact PySem.W.mg_none_of X G z5
    · exact PySem.W.mg_none_of X G z6
    · exact PySem.W.mg_none_of X G z7
    · exact PySem.W.mg_none_of X G z8
    · exact PySem.W.mg_none_of X G z9
    · exact PySem.W.mg_none_of X G z10
    · exact PySem.W.mg_none_of X G z11
    · exact PySem.W.mg_none_of X G z12
    · exact PySem.W.mg_none_of X G z13
    · exact PySem.W.mg_none_of X G z14
    · exact PySem.W.mg_none_of X G z15
    · exact PySem.W.mg_none_of X G z16
    · exact PySem.W.mg_none_of X G z17
    · exact PySem.W.mg_none_of X G z18
    · exact PySem.W.mg_none_of X G z19
  · refine look_all (G := fun g d => ∃ u v, mg (T.gname g) = some u ∧ RelV v u ∧ ∀ cs F, Rep K cs F v d) ?_ hg
    exact trivial
  · refine look_all (G := fun f F => ∃ t a fd qual, ts f = some t ∧ Fun K t.name qual t.st a fd ∧ agF T t F = true ∧ Binds K fd t.ps [] ∧ ∀ x, T.fname f = some x → mg x = some (.ref a) ∧ PySem.W.keepIn K (.ref a) = true) ?_ hf
    have g19 : (fun f F => ∃ t a fd qual, ts f = some t ∧ Fun K t.name qual t.st a fd ∧ agF T t F = true ∧ Binds K fd t.ps [] ∧ ∀ x, T.fname f = some x → mg x = some (.ref a) ∧ PySem.W.keepIn K (.ref a) = true) 19 ⟨2, 8, Hd.b_law_draws⟩ := by
      have F := fun_mk (st := t19.st) l19 c19 k19
      exact ⟨t19, _, _, _, rfl, F, ag19, F.binds (ps := ["_law_script", "_law_many"]) fun _ _ _ _ _ _ us hl => match us, hl with | [_, _], _ => rfl, fun x hx => by cases hx; exact ⟨PySem.W.mg_of X G a19, k19⟩⟩
    have g20 : (fun f F => ∃ t a fd qual, ts f = some t ∧ Fun K t.name qual t.st a fd ∧ agF T t F = true ∧ Binds K fd t.ps [] ∧ ∀ x, T.fname f = some x → mg x = some (.ref a) ∧ PySem.W.keepIn K (.ref a) = true) 20 ⟨2, 4, Hd.b_law_take⟩ := by
      have F := fun_mk (st := t20.st) l20 c20 k20
      exact ⟨t20, _, _, _, rfl, F, ag20, F.binds (ps := ["_law_hand", "_law_many"]) fun _ _ _ _ _ _ us hl => match us, hl with | [_, _], _ => rfl, fun x hx => by cases hx; exact ⟨PySem.W.mg_of X G a20, k20⟩⟩
    have g148 : (fun f F => ∃ t a fd qual, ts f = some t ∧ Fun K t.name qual t.st a fd ∧ agF T t F = true ∧ Binds K fd t.ps [] ∧ ∀ x, T.fname f = some x → mg x = some (.ref a) ∧ PySem.W.keepIn K (.ref a) = true) 148 ⟨1, 4, Nm.b_law_names⟩ := by
      have F := fun_mk (st := t148.st) l148 c148 k148
      exact ⟨t148, _, _, _, rfl, F, ag148, F.binds (ps := ["_law_hand"]) fun _ _ _ _ _ _ us hl => match us, hl with | [_], _ => rfl, fun x hx => by cases hx; exact ⟨PySem.W.mg_of X G a148, k148⟩⟩
    have g258 : (fun f F => ∃ t a fd qual, ts f = some t ∧ Fun K t.name qual t.st a fd ∧ agF T t F = true ∧ Binds K fd t.ps [] ∧ ∀ x, T.fname f = some x → mg x = some (.ref a) ∧ PySem.W.keepIn K (.ref a) = true) 258 ⟨10, 10, Pc.b_Procedure___init__⟩ := by
      have F := fun_mk (st := t258.st) l258 c258 k258
      exact ⟨t258, _, _, _, rfl, F, ag258, F.binds (ps := ["self", "row", "name", "parameters", "needs", "gives", "moves", "falls", "lets", "body"]) fun _ _ _ _ _ _ us hl => match us, hl with | [_, _, _, _, _, _, _, _, _, _], _ => rfl, fun x hx => by cases hx⟩
    have g259 : (fun f F => ∃ t a fd qual, ts f = some t ∧ Fun K t.name qual t.st a fd ∧ agF T t F = true ∧ Binds K fd t.ps [] ∧ ∀ x, T.fname f = some x → mg x = some (.ref a) ∧ PySem.W.keepIn K (.ref a) = true) 259 ⟨1, 3, Pc.b_Procedure_list_names⟩ := by
      have F := fun_mk (st := t259.st) l259 c259 k259
      exact ⟨t259, _, _, _, rfl, F, ag259, F.binds (ps := ["self"]) fun _ _ _ _ _ _ us hl => match us, hl with | [_], _ => rfl, fun x hx => by cases hx⟩
    have g260 : (fun f F => ∃ t a fd qual, ts f = some t ∧ Fun K t.name qual t.st a fd ∧ agF T t F = true ∧ Binds K fd t.ps [] ∧ ∀ x, T.fname f = some x → mg x = some (.ref a) ∧ PySem.W.keepIn K (.ref a) = true) 260 ⟨2, 2, Pc.b_Program___init__⟩ := by
      have F := fun_mk (st := t260.st) l260 c260 k260
      exact ⟨t260, _, _, _, rfl, F, ag260, F.binds (ps := ["self", "procedures"]) fun _ _ _ _ _ _ us hl => match us, hl with | [_, _], _ => rfl, fun x hx => by cases hx⟩
    have g261 : (fun f F => ∃ t a fd qual, ts f = some t ∧ Fun K t.name qual t.st a fd ∧ agF T t F = true ∧ Binds K fd t.ps [] ∧ ∀ x, T.fname f = some x → mg x = some (.ref a) ∧ PySem.W.keepIn K (.ref a) = true) 261 ⟨2, 3, Pc.b_Program_called⟩ := by
      have F := fun_mk (st := t261.st) l261 c261 k261
      exact ⟨t261, _, _, _, rfl, F, ag261, F.binds (ps := ["self", "name"]) fun _ _ _ _ _ _ us hl => match us, hl with | [_, _], _ => rfl, fun x hx => by cases hx⟩
    have g262 : (fun f F => ∃ t a fd qual, ts f = some t ∧ Fun K t.name qual t.st a fd ∧ agF T t F = true ∧ Binds K fd t.ps [] ∧ ∀ x, T.fname f = some x → mg x = some (.ref a) ∧ PySem.W.keepIn K (.ref a) = true) 262 ⟨1, 3, Ch.b_statements_in⟩ := by
      have F := fun_mk (st := t262.st) l262 c262 k262
      exact ⟨t262, _, _, _, rfl, F, ag262, F.binds (ps := ["block"]) fun _ _ _ _ _ _ us hl => match us, hl with | [_], _ => rfl, fun x hx => by cases hx; exact ⟨PySem.W.mg_of X G a262, k262⟩⟩
    have g263 : (fun f F => ∃ t a fd qual, ts f = some t ∧ Fun K t.name qual t.st a fd ∧ agF T t F = true ∧ Binds K fd t.ps [] ∧ ∀ x, T.fname f = some x → mg x = some (.ref a) ∧ PySem.W.keepIn K (.ref a) = true) 263 ⟨1, 1, Ch.b_statements_of⟩ := by
      have F := fun_mk (st := t263.st) l263 c263 k263
      exact ⟨t263, _, _, _, rfl, F, ag263, F.binds (ps := ["procedure"]) fun _ _ _ _ _ _ us hl => match us, hl with | [_], _ => rfl, fun x hx => by cases hx; exact ⟨PySem.W.mg_of X G a263, k263⟩⟩
    have g264 : (fun f F => ∃ t a fd qual, ts f = some t ∧ Fun K t.name qual t.st a fd ∧ agF T t F = true ∧ Binds K fd t.ps [] ∧ ∀ x, T.fname f = some x → mg x = some (.ref a) ∧ PySem.W.keepIn K (.ref a) = true) 264 ⟨3, 8, Ch.b_handed_lists⟩ := by
      have F := fun_mk (st := t264.st) l264 c264 k264
      exact ⟨t264, _, _, _, rfl, F, ag264, F.binds (ps := ["program", "procedure", "block"]) fun _ _ _ _ _ _ us hl => match us, hl with | [_, _, _], _ => rfl, fun x hx => by cases hx; exact ⟨PySem.W.mg_of X G a264, k264⟩⟩
    have g265 : (fun f F => ∃ t a fd qual, ts f = some t ∧ Fun K t.name qual t.st a fd ∧ agF T t F = true ∧ Binds K fd t.ps [] ∧ ∀ x, T.fname f = some x → mg x = some (.ref a) ∧ PySem.W.keepIn K (.ref a) = true) 265 ⟨3, 9, Ch.b_changed_in⟩ := by
      have F := fun_mk (st := t265.st) l265 c265 k265
      exact ⟨t265, _, _, _, rfl, F, ag265, F.binds (ps := ["program", "procedure", "block"]) fun _ _ _ _ _ _ us hl => match us, hl with | [_, _, _], _ => rfl, fun x hx => by cases hx; exact ⟨PySem.W.mg_of X G a265, k265⟩⟩
    have g266 : (fun f F => ∃ t a fd qual, ts f = some t ∧ Fun K t.name qual t.st a fd ∧ agF T t F = true ∧ Binds K fd t.ps [] ∧ ∀ x, T.fname f = some x → mg x = some (.ref a) ∧ PySem.W.keepIn K (.ref a) = true) 266 ⟨2, 9, Ch.b_changed_names⟩ := by
      have F := fun_mk (st := t266.st) l266 c266 k266
      exact ⟨t266, _, _, _, rfl, F, ag266, F.binds (ps := ["program", "procedure"]) fun _ _ _ _ _ _ us hl => match us, hl with | [_, _], _ => rfl, fun x hx => by cases hx; exact ⟨PySem.W.mg_of X G a266, k266⟩⟩
    have g267 : (fun f F => ∃ t a fd qual, ts f = some t ∧ Fun K t.name qual t.st a fd ∧ agF T t F = true ∧ Binds K fd t.ps [] ∧ ∀ x, T.fname f = some x → mg x = some (.ref a) ∧ PySem.W.keepIn K (.ref a) = true) 267 ⟨2, 4, Ch.b_changed_lists⟩ := by
      have F := fun_mk (st := t267.st) l267 c267 k267
      exact ⟨t267, _, _, _, rfl, F, ag267, F.binds (ps := ["program", "procedure"]) fun _ _ _ _ _ _ us hl => match us, hl with | [_, _], _ => rfl, fun x hx => by cases hx; exact ⟨PySem.W.mg_of X G a267, k267⟩⟩
    have g268 : (fun f F => ∃ t a fd qual, ts f = some t ∧ Fun K t.name qual t.st a fd ∧ agF T t F = true ∧ Binds K fd t.ps [] ∧ ∀ x, T.fname f = some x → mg x = some (.ref a) ∧ PySem.W.keepIn K (.ref a) = true) 268 ⟨2, 5, Ga.b_law_gen_plain⟩ := by
      have F := fun_mk (st := t268.st) l268 c268 k268
      exact ⟨t268, _, _, _, rfl, F, ag268, F.binds (ps := ["_law_hand", "_law_ctx"]) fun _ _ _ _ _ _ us hl => match us, hl with | [_, _], _ => rfl, fun x hx => by cases hx; exact ⟨PySem.W.mg_of X G a268, k268⟩⟩
    have g269 : (fun f F => ∃ t a fd qual, ts f = some t ∧ Fun K t.name qual t.st a fd ∧ agF T t F = true ∧ Binds K fd t.ps [] ∧ ∀ x, T.fname f = some x → mg x = some (.ref a) ∧ PySem.W.keepIn K (.ref a) = true) 269 ⟨3, 4, Ga.b_law_gen_index⟩ := by
      have F := fun_mk (st := t269.st) l269 c269 k269
      exact ⟨t269, _, _, _, rfl, F, ag269, F.binds (ps := ["_law_hand", "_law_ctx", "_law_name"]) fun _ _ _ _ _ _ us hl => match us, hl with | [_, _, _], _ => rfl, fun x hx => by cases hx; exact ⟨PySem.W.mg_of X G a269, k269⟩⟩
    have g270 : (fun f F => ∃ t a fd qual, ts f = some t ∧ Fun K t.name qual t.st a fd ∧ agF T t F = true ∧ Binds K fd t.ps [] ∧ ∀ x, T.fname f = some x → mg x = some (.ref a) ∧ PySem.W.keepIn K (.ref a) = true) 270 ⟨2, 4, Ga.b_law_gen_term⟩ := by
      have F := fun_mk (st := t270.st) l270 c270 k270
      exact ⟨t270, _, _, _, rfl, F, ag270, F.binds (ps := ["_law_hand", "_law_ctx"]) fun _ _ _ _ _ _ us hl => match us, hl with | [_, _], _ => rfl, fun x hx => by cases hx; exact ⟨PySem.W.mg_of X G a270, k270⟩⟩
    have g271 : (fun f F => ∃ t a fd qual, ts f = some t ∧ Fun K t.name qual t.st a fd ∧ agF T t F = true ∧ Binds K fd t.ps [] ∧ ∀ x, T.fname f = some x → mg x = some (.ref a) ∧ PySem.W.keepIn K (.ref a) = true) 271 ⟨2, 3, Ga.b_law_gen_cmp⟩ := by
      have F := fun_mk (st := t271.st) l271 c271 k271
      exact ⟨t271, _, _, _, rfl, F, ag271, F.binds (ps := ["_law_hand", "_law_ctx"]) fun _ _ _ _ _ _ us hl => match us, hl with | [_, _], _ => rfl, fun x hx => by cases hx; exact ⟨PySem.W.mg_of X G a271, k271⟩⟩
    have g272 : (fun f F => ∃ t a fd qual, ts f = some t ∧ Fun K t.name qual t.st a fd ∧ agF T t F = true ∧ Binds K fd t.ps [] ∧ ∀ x, T.fname f = some x → mg x = some (.ref a) ∧ PySem.W.keepIn K (.ref a) = true) 272 ⟨2, 7, Ga.b_law_gen_condition⟩ := by
      have F := fun_mk (st := t272.st) l272 c272 k272
      exact ⟨t272, _, _, _, rfl, F, ag272, F.binds (ps := ["_law_hand", "_law_ctx"]) fun _ _ _ _ _ _ us hl => match us, hl with | [_, _], _ => rfl, fun x hx => by cases hx; exact ⟨PySem.W.mg_of X G a272, k272⟩⟩
    have g273 : (fun f F => ∃ t a fd qual, ts f = some t ∧ Fun K t.name qual t.st a fd ∧ agF T t F = true ∧ Binds K fd t.ps [] ∧ ∀ x, T.fname f = some x → mg x = some (.ref a) ∧ PySem.W.keepIn K (.ref a) = true) 273 ⟨2, 12, Ga.b_law_gen_call⟩ := by
      have F := fun_mk (st := t273.st) l273 c273 k273
      exact ⟨t273, _, _, _, rfl, F, ag273, F.binds (ps := ["_law_hand", "_law_ctx"]) fun _ _ _ _ _ _ us hl => match us, hl with | [_, _], _ => rfl, fun x hx => by cases hx; exact ⟨PySem.W.mg_of X G a273, k273⟩⟩
    have g274 : (fun f F => ∃ t a fd qual, ts f = some t ∧ Fun K t.name qual t.st a fd ∧ agF T t F = true ∧ Binds K fd t.ps [] ∧ ∀ x, T.fname f = some x → mg x = some (.ref a) ∧ PySem.W.keepIn K (.ref a) = true) 274 ⟨2, 6, Ga.b_law_gen_simple⟩ := by
      have F := fun_mk (st := t274.st) l274 c274 k274
      exact ⟨t274, _, _, _, rfl, F, ag274, F.binds (ps := ["_law_hand", "_law_ctx"]) fun _ _ _ _ _ _ us hl => match us, hl with | [_, _], _ => rfl, fun x hx => by cases hx; exact ⟨PySem.W.mg_of X G a274, k274⟩⟩
    have g275 : (fun f F => ∃ t a fd qual, ts f = some t ∧ Fun K t.name qual t.st a fd ∧ agF T t F = true ∧ Binds K fd t.ps [] ∧ ∀ x, T.fname f = some x → mg x = some (.ref a) ∧ PySem.W.keepIn K (.ref a) = true) 275 ⟨6, 22, Ga.b_law_gen_block⟩ := by
      have F := fun_mk (st := t275.st) l275 c275 k275
      exact ⟨t275, _, _, _, rfl, F, ag275, F.binds (ps := ["_law_hand", "_law_ctx", "_law_depth", "_law_whiles", "_law_many", "_law_budget"]) fun _ _ _ _ _ _ us hl => match us, hl with | [_, _, _, _, _, _], _ => rfl, fun x hx => by cases hx; exact ⟨PySem.W.mg_of X G a275, k275⟩⟩
    have g276 : (fun f F => ∃ t a fd qual, ts f = some t ∧ Fun K t.name qual t.st a fd ∧ agF T t F = true ∧ Binds K fd t.ps [] ∧ ∀ x, T.fname f = some x → mg x = some (.ref a) ∧ PySem.W.keepIn K (.ref a) = true) 276 ⟨3, 20, Ga.b_law_gen⟩ := by
      have F := fun_mk (st := t276.st) l276 c276 k276
      exact ⟨t276, _, _, _, rfl, F, ag276, F.binds (ps := ["_law_hand", "_law_n", "_law_moved"]) fun _ _ _ _ _ _ us hl => match us, hl with | [_, _, _], _ => rfl, fun x hx => by cases hx; exact ⟨PySem.W.mg_of X G a276, k276⟩⟩
    have g277 : (fun f F => ∃ t a fd qual, ts f = some t ∧ Fun K t.name qual t.st a fd ∧ agF T t F = true ∧ Binds K fd t.ps [] ∧ ∀ x, T.fname f = some x → mg x = some (.ref a) ∧ PySem.W.keepIn K (.ref a) = true) 277 ⟨2, 8, Gb.b_law_rows⟩ := by
      have F := fun_mk (st := t277.st) l277 c277 k277
      exact ⟨t277, _, _, _, rfl, F, ag277, F.binds (ps := ["_law_block", "_law_row"]) fun _ _ _ _ _ _ us hl => match us, hl with | [_, _], _ => rfl, fun x hx => by cases hx; exact ⟨PySem.W.mg_of X G a277, k277⟩⟩
    have g278 : (fun f F => ∃ t a fd qual, ts f = some t ∧ Fun K t.name qual t.st a fd ∧ agF T t F = true ∧ Binds K fd t.ps [] ∧ ∀ x, T.fname f = some x → mg x = some (.ref a) ∧ PySem.W.keepIn K (.ref a) = true) 278 ⟨1, 15, Gb.b_law_parts⟩ := by
      have F := fun_mk (st := t278.st) l278 c278 k278
      exact ⟨t278, _, _, _, rfl, F, ag278, F.binds (ps := ["_law_procs"]) fun _ _ _ _ _ _ us hl => match us, hl with | [_], _ => rfl, fun x hx => by cases hx; exact ⟨PySem.W.mg_of X G a278, k278⟩⟩
    have g279 : (fun f F => ∃ t a fd qual, ts f = some t ∧ Fun K t.name qual t.st a fd ∧ agF T t F = true ∧ Binds K fd t.ps [] ∧ ∀ x, T.fname f = some x → mg x = some (.ref a) ∧ PySem.W.keepIn K (.ref a) = true) 279 ⟨1, 1, Gb.b_law_made⟩ := by
      have F := fun_mk (st := t279.st) l279 c279 k279
      exact ⟨t279, _, _, _, rfl, F, ag279, F.binds (ps := ["_law_one"]) fun _ _ _ _ _ _ us hl => match us, hl with | [_], _ => rfl, fun x hx => by cases hx; exact ⟨PySem.W.mg_of X G a279, k279⟩⟩
    have g280 : (fun f F => ∃ t a fd qual, ts f = some t ∧ Fun K t.name qual t.st a fd ∧ agF T t F = true ∧ Binds K fd t.ps [] ∧ ∀ x, T.fname f = some x → mg x = some (.ref a) ∧ PySem.W.keepIn K (.ref a) = true) 280 ⟨1, 2, Gb.b_law_program⟩ := by
      have F := fun_mk (st := t280.st) l280 c280 k280
      exact ⟨t280, _, _, _, rfl, F, ag280, F.binds (ps := ["_law_parts_here"]) fun _ _ _ _ _ _ us hl => match us, hl with | [_], _ => rfl, fun x hx => by cases hx; exact ⟨PySem.W.mg_of X G a280, k280⟩⟩
    have g281 : (fun f F => ∃ t a fd qual, ts f = some t ∧ Fun K t.name qual t.st a fd ∧ agF T t F = true ∧ Binds K fd t.ps [] ∧ ∀ x, T.fname f = some x → mg x = some (.ref a) ∧ PySem.W.keepIn K (.ref a) = true) 281 ⟨2, 6, K08.b_law_touched⟩ := by
      have F := fun_mk (st := t281.st) l281 c281 k281
      exact ⟨t281, _, _, _, rfl, F, ag281, F.binds (ps := ["_law_block", "_law_changes_here"]) fun _ _ _ _ _ _ us hl => match us, hl with | [_, _], _ => rfl, fun x hx => by cases hx; exact ⟨PySem.W.mg_of X G a281, k281⟩⟩
    have g282 : (fun f F => ∃ t a fd qual, ts f = some t ∧ Fun K t.name qual t.st a fd ∧ agF T t F = true ∧ Binds K fd t.ps [] ∧ ∀ x, T.fname f = some x → mg x = some (.ref a) ∧ PySem.W.keepIn K (.ref a) = true) 282 ⟨1, 6, K08.b_law_changes⟩ := by
      have F := fun_mk (st := t282.st) l282 c282 k282
      exact ⟨t282, _, _, _, rfl, F, ag282, F.binds (ps := ["_law_parts_here"]) fun _ _ _ _ _ _ us hl => match us, hl with | [_], _ => rfl, fun x hx => by cases hx; exact ⟨PySem.W.mg_of X G a282, k282⟩⟩
    have g283 : (fun f F => ∃ t a fd qual, ts f = some t ∧ Fun K t.name qual t.st a fd ∧ agF T t F = true ∧ Binds K fd t.ps [] ∧ ∀ x, T.fname f = some x → mg x = some (.ref a) ∧ PySem.W.keepIn K (.ref a) = true) 283 ⟨1, 3, K08.b_law_blocks⟩ := by
      have F := fun_mk (st := t283.st) l283 c283 k283
      exact ⟨t283, _, _, _, rfl, F, ag283, F.binds (ps := ["_law_block"]) fun _ _ _ _ _ _ us hl => match us, hl with | [_], _ => rfl, fun x hx => by cases hx; exact ⟨PySem.W.mg_of X G a283, k283⟩⟩
    have g284 : (fun f F => ∃ t a fd qual, ts f = some t ∧ Fun K t.name qual t.st a fd ∧ agF T t F = true ∧ Binds K fd t.ps [] ∧ ∀ x, T.fname f = some x → mg x = some (.ref a) ∧ PySem.W.keepIn K (.ref a) = true) 284 ⟨2, 2, K08.b_law_is_list⟩ := by
      have F := fun_mk (st := t284.st) l284 c284 k284
      exact ⟨t284, _, _, _, rfl, F, ag284, F.binds (ps := ["_law_found", "_law_expected"]) fun _ _ _ _ _ _ us hl => match us, hl with | [_, _], _ => rfl, fun x hx => by cases hx; exact ⟨PySem.W.mg_of X G a284, k284⟩⟩
    have g285 : (fun f F => ∃ t a fd qual, ts f = some t ∧ Fun K t.name qual t.st a fd ∧ agF T t F = true ∧ Binds K fd t.ps [] ∧ ∀ x, T.fname f = some x → mg x = some (.ref a) ∧ PySem.W.keepIn K (.ref a) = true) 285 ⟨1, 17, K08.b_law⟩ := by
      have F := fun_mk (st := t285.st) l285 c285 k285
      exact ⟨t285, _, _, _, rfl, F, ag285, F.binds (ps := ["_law_script"]) fun _ _ _ _ _ _ us hl => match us, hl with | [_], _ => rfl, fun x hx => by cases hx; exact ⟨PySem.W.mg_of X G a285, k285⟩⟩
    exact (And.intro g19 (And.intro g20 (And.intro g148 (And.intro g258 (And.intro g259 (And.intro g260 (And.intro g261 (And.intro g262 (And.intro g263 (And.intro g264 (And.intro g265 (And.intro g266 (And.intro g267 (And.intro g268 (And.intro g269 (And.intro g270 (And.intro g271 (And.intro g272 (And.intro g273 (And.intro g274 (And.intro g275 (And.intro g276 (And.intro g277 (And.intro g278 (And.intro g279 (And.intro g280 (And.intro g281 (And.intro g282 (And.intro g283 (And.intro g284 (And.intro g285 trivial)))))))))))))))))))))))))))))))
  · refine look_all (G := fun f x => (∃ F, P.fns.lookup f = some F) ∨ ∃ t, P.tryf.lookup f = some t) ?_ hx
    exact (And.intro (.inl ⟨_, rfl⟩) (And.intro (.inl ⟨_, rfl⟩) (And.intro (.inl ⟨_, rfl⟩) (And.intro (.inl ⟨_, rfl⟩) (And.intro (.inl ⟨_, rfl⟩) (And.intro (.inl ⟨_, rfl⟩) (And.intro (.inl ⟨_, rfl⟩) (And.intro (.inl ⟨_, rfl⟩) (And.intro (.inl ⟨_, rfl⟩) (And.intro (.inl ⟨_, rfl⟩) (And.intro (.inl ⟨_, rfl⟩) (And.intro (.inl ⟨_, rfl⟩) (And.intro (.inl ⟨_, rfl⟩) (And.intro (.inl ⟨_, rfl⟩) (And.intro (.inl ⟨_, rfl⟩) (And.intro (.inl ⟨_, rfl⟩) (And.intro (.inl ⟨_, rfl⟩) (And.intro (.inl ⟨_, rfl⟩) (And.intro (.inl ⟨_, rfl⟩) (And.intro (.inl ⟨_, rfl⟩) (And.intro (.inl ⟨_, rfl⟩) (And.intro (.inl ⟨_, rfl⟩) (And.intro (.inl ⟨_, rfl⟩) (And.intro (.inl ⟨_, rfl⟩) (And.intro (.inl ⟨_, rfl⟩) (And.intro (.inl ⟨_, rfl⟩) (And.intro (.inl ⟨_, rfl⟩) trivial)))))))))))))))))))))))))))
  · refine look_all (G := fun c x => ∃ f F t a fd qual, P.init.lookup c = some f ∧ P.fns.lookup f = some F ∧ ts f = some t ∧ Fun K t.name qual t.st a fd ∧ agF T t F = true ∧ Binds K fd t.ps [] ∧ mg x = some (.ref ((([(11, C11), (10, C10)] : List (Nat × Addr)).lookup c).getD 0)) ∧ Mk K ((([(11, C11), (10, C10)] : List (Nat × Addr)).lookup c).getD 0) a) ?_ hx
    have g11 : (fun c x => ∃ f F t a fd qual, P.init.lookup c = some f ∧ P.fns.lookup f = some F ∧ ts f = some t ∧ Fun K t.name qual t.st a fd ∧ agF T t F = true ∧ Binds K fd t.ps [] ∧ mg x = some (.ref ((([(11, C11), (10, C10)] : List (Nat × Addr)).lookup c).getD 0)) ∧ Mk K ((([(11, C11), (10, C10)] : List (Nat × Addr)).lookup c).getD 0) a) 11 "Procedure" := ⟨258, _, t258, _, _, _, rfl, rfl, rfl, fun_mk (st := t258.st) l258 c258 k258, ag258, (fun_mk (st := t258.st) l258 c258 k258).binds (ps := ["self", "row", "name", "parameters", "needs", "gives", "moves", "falls", "lets", "body"]) fun _ _ _ _ _ _ us hl => match us, hl with | [_, _, _, _, _, _, _, _, _, _], _ => rfl, PySem.W.mg_of X G aC11, ⟨mk11, a258, i258, kc11⟩⟩
    have g10 : (fun c x => ∃ f F t a fd qual, P.init.lookup c = some f ∧ P.fns.lookup f = some F ∧ ts f = some t ∧ Fun K t.name qual t.st a fd ∧ agF T t F = true ∧ Binds K fd t.ps [] ∧ mg x = some (.ref ((([(11, C11), (10, C10)] : List (Nat × Addr)).lookup c).getD 0)) ∧ Mk K ((([(11, C11), (10, C10)] : List (Nat × Addr)).lookup c).getD 0) a) 10 "Program" := ⟨260, _, t260, _, _, _, rfl, rfl, rfl, fun_mk (st := t260.st) l260 c260 k260, ag260, (fun_mk (st := t260.st) l260 c260 k260).binds (ps := ["self", "procedures"]) fun _ _ _ _ _ _ us hl => match us, hl with | [_, _], _ => rfl, PySem.W.mg_of X G aC10, ⟨mk10, a260, i260, kc10⟩⟩
    exact (And.intro g11 (And.intro g10 trivial))
  · refine look_all (G := fun (cm : Nat × Str) f => ∃ F t a fd qual, P.fns.lookup f = some F ∧ ts f = some t ∧ Fun K t.name qual t.st a fd ∧ agF T t F = true ∧ Binds K fd t.ps [] ∧ Cls K ((([(11, C11), (10, C10)] : List (Nat × Addr)).lookup cm.1).getD 0) ∧ Meth K ((([(11, C11), (10, C10)] : List (Nat × Addr)).lookup cm.1).getD 0) cm.2 a) (k := (c, m)) ?_ hx
    have g0 : (fun (cm : Nat × Str) f => ∃ F t a fd qual, P.fns.lookup f = some F ∧ ts f = some t ∧ Fun K t.name qual t.st a fd ∧ agF T t F = true ∧ Binds K fd t.ps [] ∧ Cls K ((([(11, C11), (10, C10)] : List (Nat × Addr)).lookup cm.1).getD 0) ∧ Meth K ((([(11, C11), (10, C10)] : List (Nat × Addr)).lookup cm.1).getD 0) cm.2 a) (10, "called") 261 := ⟨_, t261, _, _, _, rfl, rfl, fun_mk (st := t261.st) l261 c261 k261, ag261, (fun_mk (st := t261.st) l261 c261 k261).binds (ps := ["self", "name"]) fun _ _ _ _ _ _ us hl => match us, hl with | [_, _], _ => rfl, ⟨pg10, hd10, po10, sa10⟩, ⟨a261, i261, k261⟩⟩
    exact (And.intro g0 trivial)
  · refine look_all (G := fun (cm : Nat × Str) f => ∃ F t p a fd qual, P.fns.lookup f = some F ∧ ts f = some t ∧ Fun K t.name qual t.st a fd ∧ agF T t F = true ∧ Binds K fd t.ps [] ∧ Cls K ((([(11, C11), (10, C10)] : List (Nat × Addr)).lookup cm.1).getD 0) ∧ PropOf K ((([(11, C11), (10, C10)] : List (Nat × Addr)).lookup cm.1).getD 0) cm.2 p a) (k := (c, m)) ?_ hx
    have g0 : (fun (cm : Nat × Str) f => ∃ F t p a fd qual, P.fns.lookup f = some F ∧ ts f = some t ∧ Fun K t.name qual t.st a fd ∧ agF T t F = true ∧ Binds K fd t.ps [] ∧ Cls K ((([(11, C11), (10, C10)] : List (Nat × Addr)).lookup cm.1).getD 0) ∧ PropOf K ((([(11, C11), (10, C10)] : List (Nat × Addr)).lookup cm.1).getD 0) cm.2 p a) (11, "list_names") 259 := ⟨_, t259, _, _, _, _, rfl, rfl, fun_mk (st := t259.st) l259 c259 k259, ag259, (fun_mk (st := t259.st) l259 c259 k259).binds (ps := ["self"]) fun _ _ _ _ _ _ us hl => match us, hl with | [_], _ => rfl, ⟨pg11, hd11, po11, sa11⟩, ⟨a259, pq259, pt259, _, pr259⟩⟩
    exact (And.intro g0 trivial)
  · have hx := List.contains_iff_mem.mp hx
    simp only [P, List.mem_cons, List.not_mem_nil, or_false, Prod.mk.injEq] at hx
    rcases hx with ⟨rfl, rfl⟩ | ⟨rfl, rfl⟩ | ⟨rfl, rfl⟩ | ⟨rfl, rfl⟩ | ⟨rfl, rfl⟩ | ⟨rfl, rfl⟩ | ⟨rfl, rfl⟩ | ⟨rfl, rfl⟩ | ⟨rfl, rfl⟩ | ⟨rfl, rfl⟩
    · exact ⟨⟨pg11, hd11, po11, sa11⟩, fl0⟩
    · exact ⟨⟨pg11, hd11, po11, sa11⟩, fl1⟩
    · exact ⟨⟨pg11, hd11, po11, sa11⟩, fl2⟩
    · exact ⟨⟨pg11, hd11, po11, sa11⟩, fl3⟩
    · exact ⟨⟨pg11, hd11, po11, sa11⟩, fl4⟩
    · exact ⟨⟨pg11, hd11, po11, sa11⟩, fl5⟩
    · exact ⟨⟨pg11, hd11, po11, sa11⟩, fl6⟩
    · exact ⟨⟨pg11, hd11, po11, sa11⟩, fl7⟩
    · exact ⟨⟨pg11, hd11, po11, sa11⟩, fl8⟩
    · exact ⟨⟨pg10, hd10, po10, sa10⟩, fl9⟩
  · refine look_all (G := fun g x => ∃ kvs d, P.gdct.lookup g = some kvs ∧ mg x = some (.ref d) ∧ GDict K w d kvs) ?_ hx
    exact trivial
  · refine look_all (G := fun c x => mg x = some (.ref ((([(11, C11), (10, C10)] : List (Nat × Addr)).lookup c).getD 0)) ∧ _root_.C8.InsC K ((([(11, C11), (10, C10)] : List (Nat × Addr)).lookup c).getD 0)) ?_ hx
    exact trivial
  · cases hx
  · cases hx
  · cases hx
  · cases hx
theorem walk {l : PySem.W.OpenLaw} {q : Program} {loose : List Str} {XP : (Str → Option Value) → Heap → Prop} {YP : World → Heap → Prop} {d : DefRec} {K : Params → PySem.W.Frag} (hn : l.most = some 63) (hdf : d.params.defaults = [])
    (hY : ∀ (w : World) (h : Heap), YP w h → (K w.params).In h)
    (F : ∀ (w : World) (mg : Str → Option Value) (fa : Addr) (h : Heap), (K w.params).In h → h.Ns mainGlobals mg → mg d.name = some (.ref fa) → ∃ Cl : Nat → Addr, PFacts w P T Cl ts (K w.params) mg ∧ ∃ fd : FuncData, (∀ (s : Shared) (v : Value), BindsTo s fd ⟨[v], []⟩ [("_law_script", v)]) ∧ Fun (K w.params) "law" "law" t285.st fa fd) :
    PySem.W.WalkO q loose XP YP l.row.toRowW d [] (fun f vs => PySem.call f vs) :=
  walk_G (n := 63) (k := 4 * 24) (x := "_law_script") hn (by decide) hdf ⟨rfl, by decide, by decide⟩ hY fun w mg fa h KX G hm => by
    obtain ⟨Cl, PF, fd, hb, hf⟩ := F w mg fa h KX G hm
    exact ⟨fd, _, hb, fun base _ _ => fn_all PF 24 285 ⟨1, 17, K08.b_law⟩ rfl t285 fa fd _ rfl hf ag285, law_sp law_pure⟩
end K08
open PySem PySem.W PyProof.Rows in
set_option maxRecDepth 100000 in
set_option maxHeartbeats 0 in
theorem PySem.Challenge.cw_swornrun_k08_lists_that_are_changed_holds : PySem.Challenge.rw_swornrun_k08_lists_that_are_changed.Holds := by
  w_on; o_law; k_head; (case hw => w_witness2)
  k_fill
  refine K08.walk (l := PySem.Challenge.rw_swornrun_k08_lists_that_are_changed) rfl rfl (fun w h Y => PySem.W.kIn_of Y) ?F
  case F =>
    intro w mg fa h KX G hmg
    refine' K08.all_mk KX G hmg ?a19 ?l19 ?c19 ?k19 ?a20 ?l20 ?c20 ?k20 ?a148 ?l148 ?c148 ?k148 ?a258 ?i258 ?l258 ?c258 ?k258 ?a259 ?pq259 ?pt259 ?pr259 ?l259 ?c259 ?k259 ?a260 ?i260 ?l260 ?c260 ?k260 ?a261 ?i261 ?l261 ?c261 ?k261 ?a262 ?l262 ?c262 ?k262 ?a263 ?l263 ?c263 ?k263 ?a264 ?l264 ?c264 ?k264 ?a265 ?l265 ?c265 ?k265 ?a266 ?l266 ?c266 ?k266 ?a267 ?l267 ?c267 ?k267 ?a268 ?l268 ?c268 ?k268 ?a269 ?l269 ?c269 ?k269 ?a270 ?l270 ?c270 ?k270 ?a271 ?l271 ?c271 ?k271 ?a272 ?l272 ?c272 ?k272 ?a273 ?l273 ?c273 ?k273 ?a274 ?l274 ?c274 ?k274 ?a275 ?l275 ?c275 ?k275 ?a276 ?l276 ?c276 ?k276 ?a277 ?l277 ?c277 ?k277 ?a278 ?l278 ?c278 ?k278 ?a279 ?l279 ?c279 ?k279 ?a280 ?l280 ?c280 ?k280 ?a281 ?l281 ?c281 ?k281 ?a282 ?l282 ?c282 ?k282 ?a283 ?l283 ?c283 ?k283 ?a284 ?l284 ?c284 ?k284 ?a285 ?l285 ?c285 ?k285 ?aC11 ?pg11 ?hd11 ?po11 ?sa11 ?mk11 ?kc11 ?aC10 ?pg10 ?hd10 ?po10 ?sa10 ?mk10 ?kc10 ?fl0 ?fl1 ?fl2 ?fl3 ?fl4 ?fl5 ?fl6 ?fl7 ?fl8 ?fl9 ?z0 ?z1 ?z2 ?z3 ?z4 ?z5 ?z6 ?z7 ?z8 ?z9 ?z10 ?z11 ?z12 ?z13 ?z14 ?z15 ?z16 ?z17 ?z18 ?z19
    (case aC11 => k_is)
    (case aC10 => k_is)
    (case a19 => k_is)
    (case l19 => k_is)
    (case c19 => k_is)
    (case k19 => k_is)
    (case a20 => k_is)
    (case l20 => k_is)
    (case c20 => k_is)
    (case k20 => k_is)
    (case a148 => k_is)
    (case l148 => k_is)
    (case c148 => k_is)
    (case k148 => k_is)
    (case a258 => k_is)
    (case i258 => k_is)
    (case l258 => k_is)
    (case c258 => k_is)
    (case k258 => k_is)
    (case a259 => k_is)
    (case pq259 => k_is)
    (case pt259 => k_is)
    (case pr259 => k_is)
    (case l259 => k_is)
    (case c259 => k_is)
    (case k259 => k_is)
    (case a260 => k_is)
    (case i260 => k_is)
    (case l260 => k_is)
    (case c260 => k_is)
    (case k260 => k_is)
    (case a261 => k_is)
    (case i261 => k_is)
    (case l261 => k_is)
    (case c261 => k_is)
    (case k261 => k_is)
    (case a262 => k_is)
    (case l262 => k_is)
    (case c262 => k_is)
    (case k262 => k_is)
    (case a263 => k_is)
    (case l263 => k_is)
    (case c263 => k_is)
    (case k263 => k_is)
    (case a264 => k_is)
    (case l264 => k_is)
    (case c264 => k_is)
    (case k264 => k_is)
    (case a265 => k_is)
    (case l265 => k_is)
    (case c265 => k_is)
    (case k265 => k_is)
    (case a266 => k_is)
    (case l266 => k_is)
    (case c266 => k_is)
    (case k266 => k_is)
    (case a267 => k_is)
    (case l267 => k_is)
    (case c267 => k_is)
    (case k267 => k_is)
    (case a268 => k_is)
    (case l268 => k_is)
    (case c268 => k_is)
    (case k268 => k_is)
    (case a269 => k_is)
    (case l269 => k_is)
    (case c269 => k_is)
    (case k269 => k_is)
    (case a270 => k_is)
    (case l270 => k_is)
    (case c270 => k_is)
    (case k270 => k_is)
    (case a271 => k_is)
    (case l271 => k_is)
    (case c271 => k_is)
    (case k271 => k_is)
    (case a272 => k_is)
    (case l272 => k_is)
    (case c272 => k_is)
    (case k272 => k_is)
    (case a273 => k_is)
    (case l273 => k_is)
    (case c273 => k_is)
    (case k273 => k_is)
    (case a274 => k_is)
    (case l274 => k_is)
    (case c274 => k_is)
    (case k274 => k_is)
    (case a275 => k_is)
    (case l275 => k_is)
    (case c275 => k_is)
    (case k275 => k_is)
    (case a276 => k_is)
    (case l276 => k_is)
    (case c276 => k_is)
    (case k276 => k_is)
    (case a277 => k_is)
    (case l277 => k_is)
    (case c277 => k_is)
    (case k277 => k_is)
    (case a278 => k_is)
    (case l278 => k_is)
    (case c278 => k_is)
    (case k278 => k_is)
    (case a279 => k_is)
    (case l279 => k_is)
    (case c279 => k_is)
    (case k279 => k_is)
    (case a280 => k_is)
    (case l280 => k_is)
    (case c280 => k_is)
    (case k280 => k_is)
    (case a281 => k_is)
    (case l281 => k_is)
    (case c281 => k_is)
    (case k281 => k_is)
    (case a282 => k_is)
    (case l282 => k_is)
    (case c282 => k_is)
    (case k282 => k_is)
    (case a283 => k_is)
    (case l283 => k_is)
    (case c283 => k_is)
    (case k283 => k_is)
    (case a284 => k_is)
    (case l284 => k_is)
    (case c284 => k_is)
    (case k284 => k_is)
    (case a285 => k_is)
    (case l285 => k_is)
    (case c285 => k_is)
    (case k285 => k_is)
    (case pg11 => k_is)
    (case hd11 => k_is)
    (case po11 => k_is)
    (case sa11 => k_is)
    (case mk11 => k_is)
    (case kc11 => k_is)
    (case pg10 => k_is)
    (case hd10 => k_is)
    (case po10 => k_is)
    (case sa10 => k_is)
    (case mk10 => k_is)
    (case kc10 => k_is)
    (case fl0 => k_is)
    (case fl1 => k_is)
    (case fl2 => k_is)
    (case fl3 => k_is)
    (case fl4 => k_is)
    (case fl5 => k_is)
    (case fl6 => k_is)
    (case fl7 => k_is)
    (case fl8 => k_is)
    (case fl9 => k_is)
    (case z0 => k_is)
    (case z1 => k_is)
    (case z2 => k_is)
    (case z3 => k_is)
    (case z4 => k_is)
    (case z5 => k_is)
    (case z6 => k_is)
    (case z7 => k_is)
    (case z8 => k_is)
    (case z9 => k_is)
    (case z10 => k_is)
    (case z11 => k_is)
    (case z12 => k_is)
    (case z13 => k_is)
    (case z14 => k_is)
    (case z15 => k_is)
    (case z16 => k_is)
    (case z17 => k_is)
    (case z18 => k_is)
    (case z19 => k_is)

