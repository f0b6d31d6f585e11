import PyProof.Rows.All
import Wide.All
import OpenK.AllK
import Wide.FinOn
import HandS.ForMost
import HandS.Evl
import HandS.Wide
import HandS.IsInst
import HandS.Conv
import HandS.Codes
import HandS.Style
import HandS.TupAny
import HandS.Walk
import HandS.Text
import HandS.HeadHook3
import HandS.More
import HandS.SortInts
import HandS.NoneIn
import HandS.Iter
import PyProof.LongRange
import PyProof.ListRange
import HandS.ExcInit
import HandS.ExcField
import HandS.ExcOwn
import KE.KExcIs
import PyProof.Rows.TupTab
import PyProof.DictRoadsH
import PyProof.TupleKey
import HandS.Zip
import KE.GoesMore
import KE.GoesEnum
import PySem.Challenge.RW_swornrun_k17_ways_cover
set_option Elab.async false
set_option linter.all false
set_option maxRecDepth 100000
set_option maxHeartbeats 4000000
set_option maxRecDepth 100000
set_option maxHeartbeats 2000000
/-! VL: values without a heap, an own syntax of the defs, predicate transformers by recursion. -/
namespace VL
open PySem L2

/-- a value: immutable things as they are; what is changed stands in a cell -/
inductive AV where
  | non | bl (b : Bool) | int (i : Int) | str (s : Str)
  | tup (xs : List AV) | lst (xs : List AV) | ro (xs : List AV) | dct (kvs : List (Key × AV))
  | adr (n : Nat)
/-- a key that is a tuple: of ints, and of tuples of ints -/
abbrev NI := Int ⊕ List Int
abbrev NK := List NI
/-- what is changed -/
inductive Cell where
  | lst (xs : List AV) | dct (kvs : List (Key × AV)) | dctN (kvs : List (NK × AV)) | obj (c : Nat) (fs : List (Str × AV)) | dead
abbrev AHeap := List Cell
inductive Slot where
  | no | val (d : AV) | own (c : Cell)
abbrev Env := List Slot

inductive Tg where
  | nm (i : Nat) | tup (is : List Nat)
inductive Blt where
  | len | abs | int | str | max2 | min2 | maxL | minL | sum | all | any | tuple | repr
deriving DecidableEq
inductive Sm where
  | join
deriving DecidableEq
mutual
inductive E where
  | var (i : Nat) | vw (i : Nat)
  | cint (i : Int) | cstr (s : Str) | cbl (b : Bool) | cnon
  | glob (g : Nat)
  | bin (op : Operator) (a b : E)
  | neg (a : E)
  | cmp (op : CmpOp) (a b : E)
  | chain (o1 o2 : CmpOp) (a b c : E)
  | and (a b : E) | or (a b : E) | not (a : E)
  | ite (c a b : E)
  | tup (es : Es)
  | fz (n : Nw) | new (n : Nw)
  | sub (a i : E)
  | slice (a : E) (lo hi : Oe)
  | call (f : Nat) (es : Es)
  | blt (b : Blt) (es : Es)
  | isi (a : E) (t : String)
  | smt (m : Sm) (o : E) (a : E)
  | attr (a : E) (f : Str)
  | mcall (o : E) (m : Str) (es : Es)
  | make (c : Nat) (es : Es)
  | tru (a : E)
  | isC (a : E) (c : Nat)
  | gIn (neg : Bool) (a : E) (g : Nat)
  | gGet (g : Nat) (a : E)
  | idx (l a : E)
  | revT (a : E)
  | popE (o : E)
inductive Es where
  | nil | cons (e : E) (es : Es)
inductive Nw where
  | lst (es : Es)
  | comp (elt : E) (tg : Tg) (it : It) (cond : Oe) (own : List Nat)
  | slice (a : E) (lo hi : Oe)
  | listOf (a : E)
  | cat (a b : E)
  | rep (a b : E)
  | rev (a : E)
  | dct1 (k v : E)
  | dctL (kvs : Es)
  | split (o a : E)
  | dct0 | dctN0 | dictOf (a : E) | sorted (a : E) | rngL (a b : E)
inductive It where
  | rng1 (a : E) | rng2 (a b : E) | seq (a : E) | own (i : Nat) | chars (a : E)
  | keys (a : E) | zip (a b : E)
inductive Oe where
  | no | so (e : E)
end
mutual
inductive S where
  | asg (tg : Tg) (e : E)
  | asgO (i : Nat) (n : Nw)
  | frz (i : Nat)
  | par (i j : Nat) (a b : E)
  | aug (i : Nat) (op : Operator) (e : E)
  | app (i : Nat) (e : E)
  | appE (o e : E)
  | ext (i : Nat) (e : E)
  | extE (o e : E)
  | popS (i : Nat)
  | popA (tg : Tg) (i : Nat)
  | put (i : Nat) (k e : E)
  | putE (o k e : E)
  | fld (o : E) (f : Str) (e : E)
  | expr (e : E)
  | ret (e : E) | retN
  | ite (c : E) (a b : Ss)
  | wh (c : E) (b : Ss)
  | for (tg : Tg) (it : It) (b : Ss)
  | pass | brk | cont | bad
  | rse (c : Nat) (e : E)
inductive Ss where
  | nil | cons (s : S) (r : Ss)
end

/-! ### operations -/
abbrev KA := AV → Prop
def cells (h : AHeap) (n : Nat) : Cell := (h[n]?).getD .dead
/-- the items of a list -/
def view (h : AHeap) : AV → Option (List AV)
  | .lst xs => some xs
  | .ro xs => some xs
  | .adr n => match cells h n with
    | .lst xs => some xs
    | _ => none
  | _ => none
/-- a list that may be glued -/
def viewW (h : AHeap) : AV → Option (List AV)
  | .lst xs => some xs
  | .adr n => match cells h n with
    | .lst xs => some xs
    | _ => none
  | _ => none
def viewT (h : AHeap) : AV → Option (List AV)
  | .tup xs => some xs
  | x => view h x
def viewD (h : AHeap) : AV → Option (List (Key × AV))
  | .dct xs => some xs
  | .adr n => match cells h n with
    | .dct xs => some xs
    | _ => none
  | _ => none
def keyOf : AV → Option Key
  | .int i => some (.inl i)
  | .str s => some (.inr s)
  | _ => none
def keyA : Key → AV
  | .inl i => .int i
  | .inr s => .str s
def getD (kvs : List (Key × AV)) (k : Key) : Option AV := (kvs.find? fun kv => decide (kv.1 = k)).map (·.2)
def putD (kvs : List (Key × AV)) (k : Key) (v : AV) : List (Key × AV) :=
  if (kvs.any fun kv => decide (kv.1 = k)) = true then kvs.map (fun kv => if kv.1 = k then (kv.1, v) else kv) else kvs ++ [(k, v)]
def viewN (h : AHeap) : AV → Option (List (NK × AV))
  | .adr n => match cells h n with
    | .dctN xs => some xs
    | _ => none
  | _ => none
def asInts : List AV → Option (List Int)
  | [] => some []
  | .int i :: r => (asInts r).map (i :: ·)
  | _ => none
def niOf : AV → Option NI
  | .int i => some (.inl i)
  | .tup xs => (asInts xs).map .inr
  | _ => none
def nisOf : List AV → Option NK
  | [] => some []
  | x :: r => match niOf x, nisOf r with
    | some k, some ks => some (k :: ks)
    | _, _ => none
def nkOf : AV → Option NK
  | .tup xs => nisOf xs
  | _ => none
def niA : NI → AV
  | .inl i => .int i
  | .inr ks => .tup (ks.map .int)
def nkA (k : NK) : AV := .tup (k.map niA)
def getN (kvs : List (NK × AV)) (k : NK) : Option AV := (kvs.find? fun kv => decide (kv.1 = k)).map (·.2)
def putNK (kvs : List (NK × AV)) (k : NK) (v : AV) : List (NK × AV) :=
  if (kvs.any fun kv => decide (kv.1 = k)) = true then kvs.map (fun kv => if kv.1 = k then (kv.1, v) else kv) else kvs ++ [(k, v)]
def asBools : List AV → Option (List Bool)
  | [] => some []
  | .bl i :: r => (asBools r).map (i :: ·)
  | _ => none
def asStrs : List AV → Option (List Str)
  | [] => some []
  | .str i :: r => (asStrs r).map (i :: ·)
  | _ => none
def cut {α : Type} (xs : List α) (lo hi : Option Int) : List α := (xs.drop (HT.sIx xs.length 0 lo)).take (HT.sIx xs.length xs.length hi - HT.sIx xs.length 0 lo)

mutual
def pd : AV → Option PyData
  | .non => some .none
  | .bl b => some (.bool b)
  | .int i => some (.int i)
  | .str s => some (.str s)
  | .tup xs => (pds xs).map .tuple
  | .lst xs => (pds xs).map .list
  | .ro xs => (pds xs).map .list
  | .dct _ => none
  | .adr _ => none
def pds : List AV → Option (List PyData)
  | [] => some []
  | x :: r => (pd x).bind fun d => (pds r).map (d :: ·)
end
mutual
def pdH (h : AHeap) : AV → Option PyData
  | .non => some .none
  | .bl b => some (.bool b)
  | .int i => some (.int i)
  | .str s => some (.str s)
  | .tup xs => (pdHs h xs).map .tuple
  | .lst xs => (pdHs h xs).map .list
  | .ro xs => (pdHs h xs).map .list
  | .dct _ => none
  | .adr n => match cells h n with
    | .lst xs => (pds xs).map .list
    | _ => none
def pdHs (h : AHeap) : List AV → Option (List PyData)
  | [] => some []
  | x :: r => (pdH h x).bind fun d => (pdHs h r).map (d :: ·)
end

def isNon : AV → Bool
  | .non => true
  | _ => false
def eqGen (h : AHeap) (neg : Bool) (x y : AV) (Q : KA) : Prop :=
  match pdH h x, pdH h y with
  | some d, some e => SeqAt.shaped d = true ∧ SeqAt.shaped e = true ∧ Q (.bl (if neg then !PyData.eqv d e else PyData.eqv d e))
  | _, _ => False
/-- the same ints, or lists of them -/
def eqv1 (a b : AV) : Prop := (∃ i, a = .int i ∧ b = .int i) ∨ ∃ ns : List Int, a = .lst (ns.map .int) ∧ b = .lst (ns.map .int)
/-- equal dicts -/
def dEq (xs ys : List (Key × AV)) : Prop := xs.length = ys.length ∧ ∀ p ∈ xs, ∃ u, getD ys p.1 = some u ∧ eqv1 p.2 u
def eqK (h : AHeap) (x y : AV) (Q : KA) : Prop :=
  match x, y with
  | .int i, .int j => Q (.bl (decide (i = j)))
  | .str i, .str j => Q (.bl (decide (i = j)))
  | .bl i, .bl j => Q (.bl (decide (i = j)))
  | .non, .non => Q (.bl true)
  | .int _, .str _ => Q (.bl false)
  | .str _, .int _ => Q (.bl false)
  | .dct xs, .dct ys => dEq xs ys ∧ Q (.bl true)
  | x, y => eqGen h false x y Q
def neK (h : AHeap) (x y : AV) (Q : KA) : Prop :=
  match x, y with
  | .int i, .int j => Q (.bl (!decide (i = j)))
  | .str i, .str j => Q (.bl (!decide (i = j)))
  | .bl i, .bl j => Q (.bl (!decide (i = j)))
  | .non, .non => Q (.bl false)
  | .int _, .str _ => Q (.bl true)
  | .str _, .int _ => Q (.bl true)
  | .dct xs, .dct ys => dEq xs ys ∧ Q (.bl false)
  | x, y => eqGen h true x y Q
def flatA : AV → Bool
  | .non => true
  | .bl _ => true
  | .int _ => true
  | .str _ => true
  | _ => false
def eqF : AV → AV → Bool
  | .non, .non => true
  | .bl a, .bl b => a == b
  | .bl a, .int b => (if a then 1 else 0) == b
  | .int a, .bl b => a == (if b then 1 else 0)
  | .int a, .int b => a == b
  | .str a, .str b => a == b
  | _, _ => false
def inK (h : AHeap) (neg : Bool) (x y : AV) (Q : KA) : Prop :=
  match y with
  | .str z => match x with
    | .str w => match w.cps.toList with
      | [c] => Q (.bl (if neg then !decide (c ∈ z.cps.toList) else decide (c ∈ z.cps.toList)))
      | _ => False
    | _ => False
  | y => match viewT h y with
    | some xs => (flatA x = true ∧ xs.all flatA = true ∧ Q (.bl (if neg then !(xs.any fun y => eqF y x) else xs.any fun y => eqF y x))) ∨
      ∃ d ds, pdH h x = some d ∧ pdHs h xs = some ds ∧ SeqAt.shaped d = true ∧ ds.all SeqAt.shaped = true ∧ Q (.bl (if neg then !(ds.any fun y => PyData.eqv y d) else ds.any fun y => PyData.eqv y d))
    | none => match viewD h y, keyOf x with
      | some kvs, some k => Q (.bl (if neg then !(getD kvs k).isSome else (getD kvs k).isSome))
      | _, _ => match viewN h y, nkOf x with
        | some kvs, some k => Q (.bl (if neg then !(getN kvs k).isSome else (getN kvs k).isSome))
        | _, _ => False
def cmpK (h : AHeap) (op : CmpOp) (x y : AV) (Q : KA) : Prop :=
  match op with
  | .Eq => eqK h x y Q
  | .NotEq => neK h x y Q
  | .Lt => match x, y with
    | .int i, .int j => Q (.bl (decide (i < j)))
    | _, _ => False
  | .LtE => match x, y with
    | .int i, .int j => Q (.bl (decide (i ≤ j)))
    | _, _ => False
  | .Gt => match x, y with
    | .int i, .int j => Q (.bl (decide (j < i)))
    | _, _ => False
  | .GtE => match x, y with
    | .int i, .int j => Q (.bl (decide (j ≤ i)))
    | _, _ => False
  | .Is => match y with
    | .non => Q (.bl (isNon x))
    | .bl k => match x with
      | .bl j => Q (.bl (decide (j = k)))
      | _ => False
    | _ => False
  | .IsNot => match y with
    | .non => Q (.bl (!isNon x))
    | .bl k => match x with
      | .bl j => Q (.bl (!decide (j = k)))
      | _ => False
    | _ => False
  | .In => inK h false x y Q
  | .NotIn => inK h true x y Q
def CDivA (j : Int) : Prop := 0 < j ∧ j.natAbs.log2 < 9000
def CMulA (i j : Int) : Prop := CMul i j ∨ CMulW i j
def addK (h : AHeap) (x y : AV) (Q : KA) : Prop :=
  match x, y with
  | .int i, .int j => Q (.int (i + j))
  | .str i, .str j => i.length + j.length ≤ sizeLine ∧ Q (.str (i ++ j))
  | .tup xs, .tup ys => xs.length + ys.length ≤ sizeLine ∧ Q (.tup (xs ++ ys))
  | _, _ => False
def strRep (x : Str) (n : Int) : Str := if n < 1 then Str.empty else if (n == 1 || x.length == 0) = true then x else ⟨(List.replicate n.toNat x.cps).foldl (· ++ ·) #[]⟩
def binK (h : AHeap) (op : Operator) (x y : AV) (Q : KA) : Prop :=
  match op with
  | .Add => addK h x y Q
  | .Sub => match x, y with
    | .int i, .int j => Q (.int (i - j))
    | _, _ => False
  | .Mult => match x, y with
    | .int i, .int j => CMulA i j ∧ Q (.int (i * j))
    | .str z, .int j => (-(2 ^ 60) < j ∧ j < 2 ^ 60 ∧ z.length * j.toNat ≤ 1000000) ∧ Q (.str (strRep z j))
    | _, _ => False
  | .FloorDiv => match x, y with
    | .int i, .int j => CDivA j ∧ Q (.int (i / j))
    | _, _ => False
  | .Mod => match x, y with
    | .int i, .int j => 0 < j ∧ Q (.int (i % j))
    | _, _ => False
  | .Pow => match x, y with
    | .int i, .int j => CPow i j ∧ Q (.int (i ^ j.toNat))
    | _, _ => False
  | _ => False
def negK (x : AV) (Q : KA) : Prop :=
  match x with
  | .int i => Q (.int (-i))
  | _ => False
def subK (h : AHeap) (x y : AV) (Q : KA) : Prop :=
  match x with
  | .str z => match y with
    | .int i => z.length ≤ sizeLine ∧ match atI z.cps.toList i with
      | some c => Q (.str ⟨#[c]⟩)
      | none => False
    | _ => False
  | x => match viewT h x with
    | some xs => match y with
      | .int i => match atI xs i with
        | some d => Q d
        | none => False
      | _ => False
    | none => match viewD h x, keyOf y with
      | some kvs, some k => match getD kvs k with
        | some d => Q d
        | none => False
      | _, _ => match viewN h x, nkOf y with
        | some kvs, some k => match getN kvs k with
          | some d => Q d
          | none => False
        | _, _ => False
def sliceK (h : AHeap) (x : AV) (lo hi : Option Int) (Q : KA) : Prop :=
  match x with
  | .str z => z.length ≤ sizeLine ∧ Q (.str (cutS z lo hi))
  | .tup xs => Q (.tup (cut xs lo hi))
  | _ => False
def truK (h : AHeap) (x : AV) (Q : Bool → Prop) : Prop :=
  match x with
  | .bl b => Q b
  | .non => Q false
  | .int i => Q (i != 0)
  | .str y => y.length ≤ sizeLine ∧ Q ((y.length : Int) != 0)
  | x => match viewT h x with
    | some xs => Q (!xs.isEmpty)
    | none => False
def bltK (h : AHeap) (b : Blt) (vs : List AV) (Q : KA) : Prop :=
  match b, vs with
  | .len, [.str z] => z.length ≤ sizeLine ∧ Q (.int z.length)
  | .len, [x] => match viewT h x with
    | some xs => Q (.int xs.length)
    | none => match viewD h x with
      | some kvs => Q (.int kvs.length)
      | none => False
  | .abs, [.int i] => Q (.int (if i < 0 then -i else i))
  | .int, [.int i] => Q (.int i)
  | .int, [.bl k] => Q (.int (if k then 1 else 0))
  | .int, [.str z] => match PySem.intText? z with
    | some n => z.length ≤ 640 ∧ Q (.int n)
    | none => False
  | .str, [.int i] => i.natAbs.log2 < 1920 ∧ Q (.str (toString i))
  | .max2, [.int i, .int j] => Q (.int (if j > i then j else i))
  | .min2, [.int i, .int j] => Q (.int (if j < i then j else i))
  | .maxL, [x] => match (view h x).bind asInts with
    | some ns => 0 < ns.length ∧ ∀ m, m ∈ ns → (∀ y, y ∈ ns → y ≤ m) → Q (.int m)
    | none => False
  | .minL, [x] => match (view h x).bind asInts with
    | some ns => 0 < ns.length ∧ ∀ m, m ∈ ns → (∀ y, y ∈ ns → m ≤ y) → Q (.int m)
    | none => False
  | .sum, [x] => match (view h x).bind asInts with
    | some ns => Q (.int ns.sum)
    | none => False
  | .all, [x] => match (view h x).bind asBools with
    | some bs => Q (.bl (bs.all id))
    | none => False
  | .any, [x] => match (view h x).bind asBools with
    | some bs => Q (.bl (bs.any id))
    | none => False
  | .repr, [x] => match pdH h x with
    | some d => (d.showable = true ∧ d.hasDict = false ∧ d.depth ≤ 50 ∧ d.shown.length ≤ sizeLine) ∧ Q (.str d.shown)
    | none => False
  | .tuple, [.tup xs] => Q (.tup xs)
  | .tuple, [x] => match view h x with
    | some xs => Q (.tup xs)
    | none => False
  | _, _ => False
/-- what zip goes through -/
def zs : AV → Option (List AV)
  | .lst xs => some xs
  | .tup xs => some xs
  | _ => none
/-- isinstance against a built-in type -/
def isiK (x : AV) (t : String) (h : AHeap) (Q : KA) : Prop :=
  match x with
  | .non => (t = "int" ∨ t = "bool" ∨ t = "str" ∨ t = "list" ∨ t = "tuple") ∧ Q (.bl false)
  | .bl _ => (t = "int" ∧ Q (.bl true)) ∨ (t = "bool" ∧ Q (.bl true)) ∨ ((t = "str" ∨ t = "list" ∨ t = "tuple") ∧ Q (.bl false))
  | .int _ => (t = "int" ∧ Q (.bl true)) ∨ ((t = "bool" ∨ t = "str" ∨ t = "list" ∨ t = "tuple") ∧ Q (.bl false))
  | .str _ => (t = "str" ∧ Q (.bl true)) ∨ ((t = "bool" ∨ t = "int" ∨ t = "list" ∨ t = "tuple") ∧ Q (.bl false))
  | .tup _ => (t = "tuple" ∧ Q (.bl true)) ∨ ((t = "bool" ∨ t = "int" ∨ t = "list" ∨ t = "str") ∧ Q (.bl false))
  | .dct _ => False
  | x => match view h x with
    | some _ => (t = "list" ∧ Q (.bl true)) ∨ ((t = "bool" ∨ t = "int" ∨ t = "tuple" ∨ t = "str") ∧ Q (.bl false))
    | none => False
def smtK (h : AHeap) (m : Sm) (z : Str) (a : AV) (Q : KA) : Prop :=
  match m with
  | .join => match (viewT h a).bind asStrs with
    | some ys => (ys.map (·.length)).sum + ys.length * z.length ≤ 16777216 ∧ Q (.str (Txt.join z ys))
    | none => False

/-- keys and values of a display -/
def pairsOf : List AV → Option (List (Key × AV))
  | [] => some []
  | [_] => none
  | x :: y :: r => match keyOf x, pairsOf r with
    | some k, some ks => some ((k, y) :: ks)
    | _, _ => none
def mergeA (acc : List (Key × AV)) : List (Key × AV) → List (Key × AV)
  | [] => acc
  | (k, v) :: r => mergeA (putD acc k v) r
/-- the place of an item in a list -/
def idxK (h : AHeap) (x y : AV) (Q : KA) : Prop :=
  match view h x with
  | some xs => flatA y = true ∧ xs.all flatA = true ∧ match xs.findIdx? (fun z => eqF z y) with
    | some j => Q (.int (j : Int))
    | none => False
  | none => False
/-- a key of a dict of the module -/
def gInK (kvs : Option (List (Str × Int))) (neg : Bool) (x : AV) (Q : Bool → Prop) : Prop :=
  match kvs with
  | some kvs => match x with
    | .str z => Q (if neg then !(kvs.lookup z).isSome else (kvs.lookup z).isSome)
    | _ => False
  | none => False
def gGetK (kvs : Option (List (Str × Int))) (x : AV) (Q : KA) : Prop :=
  match kvs with
  | some kvs => match x with
    | .str z => match kvs.lookup z with
      | some i => Q (.int i)
      | none => False
    | _ => False
  | none => False
def isCK (h : AHeap) (c : Nat) (x : AV) (Q : KA) : Prop :=
  match x with
  | .adr n => match cells h n with
    | .obj c' _ => c' = c ∧ Q (.bl true)
    | _ => False
  | _ => False

/-! ### the transformers -/
structure Ctx where
  glob : Nat → Option AV
  call : Nat → List AV → AHeap → (AV → AHeap → Prop) → Prop
  meth : Nat → Str → Option Nat
  init : Nat → Option Nat
  fld : Nat → Str → Bool
  gdct : Nat → Option (List (Str × Int))

def getS : Env → Nat → Slot
  | [], _ => .no
  | x :: _, 0 => x
  | _ :: r, n + 1 => getS r n
def setS : Env → Nat → Slot → Env
  | [], _, _ => []
  | _ :: r, 0, v => v :: r
  | x :: r, n + 1, v => x :: setS r n v
def wipeS (ρ : Env) : List Nat → Env
  | [] => ρ
  | v :: vs => setS (wipeS ρ vs) v .no
def setsS : Env → List Nat → List AV → Option Env
  | ρ, [], [] => some ρ
  | ρ, i :: is, x :: xs => setsS (setS ρ i (.val x)) is xs
  | _, _, _ => none
def tgK (tg : Tg) (x : AV) (ρ : Env) (Q : Env → Prop) : Prop :=
  match tg with
  | .nm i => Q (setS ρ i (.val x))
  | .tup is => match x with
    | .tup xs => match setsS ρ is xs with
      | some ρ' => Q ρ'
      | none => False
    | .lst xs => match setsS ρ is xs with
      | some ρ' => Q ρ'
      | none => False
    | _ => False

/-- a comprehension's loop: B gives an item, or none -/
def compL (B : AV → AHeap → (Option AV → AHeap → Prop) → Prop) (chk : AHeap → Prop) : List AV → List AV → AHeap → (List AV → AHeap → Prop) → Prop
  | [], acc, h, Q => chk h ∧ Q acc h
  | x :: xs, acc, h, Q => chk h ∧ B x h fun r h' => compL B chk xs (match r with | some y => acc ++ [y] | none => acc) h' Q

mutual
def WpE (C : Ctx) : Bool → E → Env → AHeap → (AV → AHeap → Prop) → Prop
  | _, .var i, ρ, h, Q => match getS ρ i with
    | .val d => Q d h
    | _ => False
  | true, .vw i, ρ, h, Q => match getS ρ i with
    | .own (.lst xs) => Q (.lst xs) h
    | .own (.dct xs) => Q (.dct xs) h
    | _ => False
  | false, .vw _, _, _, _ => False
  | _, .tru _, _, _, _ => False
  | _, .cint i, _, h, Q => Q (.int i) h
  | _, .cstr s, _, h, Q => Q (.str s) h
  | _, .cbl b, _, h, Q => Q (.bl b) h
  | _, .cnon, _, h, Q => Q .non h
  | _, .glob g, _, h, Q => match C.glob g with
    | some d => Q d h
    | none => False
  | _, .bin op a b, ρ, h, Q => WpE C false a ρ h fun x h1 => WpE C false b ρ h1 fun y h2 => binK h2 op x y fun z => Q z h2
  | _, .neg a, ρ, h, Q => WpE C false a ρ h fun x h1 => negK x fun z => Q z h1
  | _, .cmp op a b, ρ, h, Q => WpE C true a ρ h fun x h1 => WpE C true b ρ h1 fun y h2 => cmpK h2 op x y fun z => Q z h2
  | _, .chain o1 o2 a b c, ρ, h, Q => WpE C false a ρ h fun x h1 => WpE C false b ρ h1 fun y h2 => cmpK h2 o1 x y fun z => match z with
    | .bl true => WpE C false c ρ h2 fun w h3 => cmpK h3 o2 y w fun z => Q z h3
    | .bl false => Q (.bl false) h2
    | _ => False
  | _, .and a b, ρ, h, Q => WpE C false a ρ h fun x h1 => match x with
    | .bl true => WpE C false b ρ h1 Q
    | .bl false => Q (.bl false) h1
    | _ => False
  | _, .or a b, ρ, h, Q => WpE C false a ρ h fun x h1 => match x with
    | .bl false => WpE C false b ρ h1 Q
    | .bl true => Q (.bl true) h1
    | _ => False
  | _, .not a, ρ, h, Q => WpE C false a ρ h fun x h1 => match x with
    | .bl b => Q (.bl (!b)) h1
    | _ => False
  | _, .ite c a b, ρ, h, Q => WpT C c ρ h fun k h1 => if k = true then WpE C false a ρ h1 Q else WpE C false b ρ h1 Q
  | _, .tup es, ρ, h, Q => WpEs C es ρ h fun xs h1 => xs.length ≤ sizeLine ∧ Q (.tup xs) h1
  | _, .fz n, ρ, h, Q => WpN C n ρ h fun c h1 => match c with
    | .lst xs => Q (.lst xs) h1
    | .dct xs => Q (.dct xs) h1
    | _ => False
  | _, .new n, ρ, h, Q => WpN C n ρ h fun c h1 => Q (.adr h1.length) (h1 ++ [c])
  | _, .sub a i, ρ, h, Q => WpE C true a ρ h fun x h1 => WpE C false i ρ h1 fun y h2 => subK h2 x y fun z => Q z h2
  | _, .slice a lo hi, ρ, h, Q => WpE C false a ρ h fun x h1 => WpO C lo ρ h1 fun l h2 => WpO C hi ρ h2 fun u h3 => sliceK h3 x l u fun z => Q z h3
  | _, .call f es, ρ, h, Q => WpEs C es ρ h fun xs h1 => C.call f xs h1 Q
  | _, .blt b es, ρ, h, Q => WpBs C es ρ h fun xs h1 => bltK h1 b xs fun z => Q z h1
  | _, .isi a t, ρ, h, Q => WpE C true a ρ h fun x h1 => isiK x t h1 fun z => Q z h1
  | _, .smt m o a, ρ, h, Q => WpE C false o ρ h fun x h1 => match x with
    | .str z => WpE C true a ρ h1 fun y h2 => smtK h2 m z y fun z => Q z h2
    | _ => False
  | _, .attr a f, ρ, h, Q => WpE C false a ρ h fun x h1 => match x with
    | .adr n => match cells h1 n with
      | .obj c fs => C.fld c f = true ∧ match fs.lookup f with
        | some d => Q d h1
        | none => False
      | _ => False
    | _ => False
  | _, .mcall o m es, ρ, h, Q => WpE C false o ρ h fun x h1 => match x with
    | .adr n => match cells h1 n with
      | .obj c fs => match fs.lookup m with
        | some _ => False
        | none => match C.meth c m with
          | some f => WpEs C es ρ h1 fun xs h2 => C.call f (x :: xs) h2 Q
          | none => False
      | _ => False
    | _ => False
  | _, .make c es, ρ, h, Q => WpEs C es ρ h fun xs h1 => match C.init c with
    | some f => C.call f (.adr h1.length :: xs) (h1 ++ [.obj c []]) fun r h2 => match r with
      | .non => Q (.adr h1.length) h2
      | _ => False
    | none => False
  | _, .isC a c, ρ, h, Q => WpE C false a ρ h fun x h1 => isCK h1 c x fun z => Q z h1
  | _, .gIn neg a g, ρ, h, Q => WpE C false a ρ h fun x h1 => gInK (C.gdct g) neg x fun k => Q (.bl k) h1
  | _, .gGet g a, ρ, h, Q => WpE C false a ρ h fun x h1 => gGetK (C.gdct g) x fun z => Q z h1
  | _, .idx l a, ρ, h, Q => WpE C true l ρ h fun x h1 => (view h1 x).isSome = true ∧ WpE C false a ρ h1 fun y h2 => idxK h2 x y fun z => Q z h2
  | _, .popE o, ρ, h, Q => WpE C false o ρ h fun x h1 => match x with
    | .adr n => match cells h1 n with
      | .lst xs => match xs.getLast? with
        | some d => Q d (h1.set n (.lst xs.dropLast))
        | none => False
      | _ => False
    | _ => False
  | _, .revT a, ρ, h, Q => WpE C false a ρ h fun x h1 => match x with
    | .tup xs => Q (.tup xs.reverse) h1
    | _ => False
def WpEs (C : Ctx) : Es → Env → AHeap → (List AV → AHeap → Prop) → Prop
  | .nil, _, h, Q => Q [] h
  | .cons e es, ρ, h, Q => WpE C false e ρ h fun x h1 => WpEs C es ρ h1 fun xs h2 => Q (x :: xs) h2
def WpBs (C : Ctx) : Es → Env → AHeap → (List AV → AHeap → Prop) → Prop
  | .nil, _, h, Q => Q [] h
  | .cons e es, ρ, h, Q => WpE C true e ρ h fun x h1 => WpBs C es ρ h1 fun xs h2 => Q (x :: xs) h2
def WpO (C : Ctx) : Oe → Env → AHeap → (Option Int → AHeap → Prop) → Prop
  | .no, _, h, Q => Q none h
  | .so e, ρ, h, Q => WpE C false e ρ h fun x h1 => match x with
    | .int i => Q (some i) h1
    | _ => False
def WpN (C : Ctx) : Nw → Env → AHeap → (Cell → AHeap → Prop) → Prop
  | .lst es, ρ, h, Q => WpEs C es ρ h fun xs h1 => xs.length ≤ sizeLine ∧ Q (.lst xs) h1
  | .comp elt tg it cond own, ρ, h, Q => WpI C it ρ h fun xs chk h1 => xs.length ≤ sizeLine ∧ compL (fun x h2 R => tgK tg x (wipeS ρ own) fun ρ2 => WpC C cond ρ2 h2 fun k h3 => if k = true then WpE C false elt ρ2 h3 fun y h4 => R (some y) h4 else R none h3) chk xs [] h1 fun acc h2 => Q (.lst acc) h2
  | .slice a lo hi, ρ, h, Q => WpE C true a ρ h fun x h1 => WpO C lo ρ h1 fun l h2 => WpO C hi ρ h2 fun u h3 => match view h3 x with
    | some xs => Q (.lst (cut xs l u)) h3
    | none => False
  | .listOf a, ρ, h, Q => WpE C true a ρ h fun x h1 => match viewT h1 x with
    | some xs => Q (.lst xs) h1
    | none => match viewN h1 x with
      | some kvs => Q (.lst (kvs.map fun kv => nkA kv.1)) h1
      | none => False
  | .dctN0, _, h, Q => Q (.dctN []) h
  | .cat a b, ρ, h, Q => WpE C true a ρ h fun x h1 => WpE C true b ρ h1 fun y h2 => match viewW h2 x, viewW h2 y with
    | some xs, some ys => xs.length + ys.length ≤ sizeLine ∧ Q (.lst (xs ++ ys)) h2
    | _, _ => False
  | .rep a b, ρ, h, Q => WpE C true a ρ h fun x h1 => WpE C false b ρ h1 fun y h2 => match viewW h2 x, y with
    | some xs, .int k => (-(2 ^ 63) ≤ k ∧ k < 2 ^ 63) ∧ xs.length * k.toNat ≤ sizeLine ∧ Q (.lst (List.replicate k.toNat xs).flatten) h2
    | _, _ => False
  | .rev a, ρ, h, Q => WpE C true a ρ h fun x h1 => match view h1 x with
    | some xs => Q (.lst xs.reverse) h1
    | none => False
  | .dct1 k v, ρ, h, Q => WpE C false k ρ h fun x h1 => WpE C false v ρ h1 fun y h2 => match keyOf x with
    | some k => Q (.dct [(k, y)]) h2
    | none => False
  | .dctL es, ρ, h, Q => WpEs C es ρ h fun xs h1 => match pairsOf xs with
    | some ps => ps.length ≤ 15 ∧ ps ≠ [] ∧ Q (.dct (mergeA [] ps)) h1
    | none => False
  | .split o a, ρ, h, Q => WpE C false o ρ h fun x h1 => match x with
    | .str z => WpE C false a ρ h1 fun y h2 => match y with
      | .str s => (s.length == 0) = false ∧ z.length + 2 ≤ sizeLine ∧ Q (.lst ((Txt.split z s).map .str)) h2
      | _ => False
    | _ => False
  | .dct0, _, h, Q => Q (.dct []) h
  | .dictOf a, ρ, h, Q => WpE C false a ρ h fun x h1 => match viewD h1 x with
    | some kvs => Q (.dct kvs) h1
    | none => False
  | .sorted a, ρ, h, Q => WpE C false a ρ h fun x h1 => match (view h1 x).bind asInts with
    | some ns => ∀ ns' : List Int, ns'.Perm ns → ns'.Pairwise (· ≤ ·) → Q (.lst (ns'.map .int)) h1
    | none => False
  | .rngL a b, ρ, h, Q => WpE C false a ρ h fun x h1 => WpE C false b ρ h1 fun y h2 => match x, y with
    | .int i, .int n => (n - i).toNat ≤ 16777216 ∧ Q (.lst ((List.range (n - i).toNat).map fun (k : Nat) => .int (i + (k : Int)))) h2
    | _, _ => False
/-- what is walked: the items; what must stay so while they are -/
def WpI (C : Ctx) : It → Env → AHeap → (List AV → (AHeap → Prop) → AHeap → Prop) → Prop
  | .rng1 a, ρ, h, Q => WpE C false a ρ h fun x h1 => match x with
    | .int n => (-(2 ^ 62) ≤ n ∧ n < 2 ^ 62) ∧ Q ((List.range n.toNat).map fun (k : Nat) => .int (k : Int)) (fun _ => True) h1
    | _ => False
  | .rng2 a b, ρ, h, Q => WpE C false a ρ h fun x h1 => WpE C false b ρ h1 fun y h2 => match x, y with
    | .int i, .int n => (n ≤ i ∨ (-(2 ^ 62) ≤ i ∧ i < 2 ^ 62 ∧ -(2 ^ 62) ≤ n ∧ n < 2 ^ 62)) ∧ Q ((List.range (n - i).toNat).map fun (k : Nat) => .int (i + (k : Int))) (fun _ => True) h2
    | _, _ => False
  | .own i, ρ, h, Q => match getS ρ i with
    | .own (.lst xs) => Q xs (fun _ => True) h
    | _ => False
  | .seq a, ρ, h, Q => WpE C false a ρ h fun x h1 => match viewT h1 x with
    | some xs => Q xs (fun h' => viewT h' x = some xs) h1
    | none => False
  | .chars a, ρ, h, Q => WpE C false a ρ h fun x h1 => match x with
    | .str z => Q (z.cps.toList.map fun c => .str ⟨#[c]⟩) (fun _ => True) h1
    | _ => False
  | .keys a, ρ, h, Q => WpE C false a ρ h fun x h1 => match x with
    | .dct kvs => Q (kvs.map fun kv => keyA kv.1) (fun _ => True) h1
    | _ => False
  | .zip a b, ρ, h, Q => WpE C false a ρ h fun x h1 => WpE C false b ρ h1 fun y h2 => match zs x, zs y with
    | some xs, some ys => Q ((xs.zip ys).map fun p => .tup [p.1, p.2]) (fun _ => True) h2
    | _, _ => False
def WpC (C : Ctx) : Oe → Env → AHeap → (Bool → AHeap → Prop) → Prop
  | .no, _, h, Q => Q true h
  | .so e, ρ, h, Q => WpT C e ρ h Q
/-- a test -/
def WpT (C : Ctx) : E → Env → AHeap → (Bool → AHeap → Prop) → Prop
  | .and a b, ρ, h, Q => WpT C a ρ h fun k h1 => if k = true then WpT C b ρ h1 Q else Q false h1
  | .or a b, ρ, h, Q => WpT C a ρ h fun k h1 => if k = true then Q true h1 else WpT C b ρ h1 Q
  | .not a, ρ, h, Q => WpT C a ρ h fun k h1 => Q (!k) h1
  | .cmp op a b, ρ, h, Q => WpE C true a ρ h fun x h1 => WpE C true b ρ h1 fun y h2 => cmpK h2 op x y fun z => match z with
    | .bl k => Q k h2
    | _ => False
  | .chain o1 o2 a b c, ρ, h, Q => WpE C false a ρ h fun x h1 => WpE C false b ρ h1 fun y h2 => cmpK h2 o1 x y fun z => match z with
    | .bl true => WpE C false c ρ h2 fun w h3 => cmpK h3 o2 y w fun z => match z with
      | .bl k => Q k h3
      | _ => False
    | .bl false => Q false h2
    | _ => False
  | .cbl b, _, h, Q => Q b h
  | .gIn neg a g, ρ, h, Q => WpE C false a ρ h fun x h1 => gInK (C.gdct g) neg x fun k => Q k h1
  | .tru e, ρ, h, Q => WpE C false e ρ h fun x h1 => truK h1 x fun k => Q k h1
  | _, _, _, _ => False
end

/-! ### statements -/
structure Kt where
  nx : Env → AHeap → Prop
  rt : AV → AHeap → Prop
  bk : Env → AHeap → Prop := fun _ _ => False
  ct : Env → AHeap → Prop := fun _ _ => False
  ex : Nat → Int → AHeap → Prop := fun _ _ _ => False
def forL (B : AV → Kt → Env → AHeap → Prop) (chk : AHeap → Prop) (D : Kt) : List AV → Env → AHeap → Prop
  | [], ρ, h => chk h ∧ D.nx ρ h
  | x :: xs, ρ, h => chk h ∧ B x { D with nx := forL B chk D xs, ct := forL B chk D xs, bk := D.nx } ρ h
def whL (T : Env → AHeap → (Bool → AHeap → Prop) → Prop) (B : Kt → Env → AHeap → Prop) (D : Kt) (ρ : Env) (h : AHeap) : Prop :=
  ∃ W : Nat → Env → AHeap → Prop, (∃ m, W m ρ h) ∧ ∀ m ρ h, W m ρ h → T ρ h fun b h1 =>
    if b = true then B { D with nx := fun ρ' h' => ∃ m', m' < m ∧ W m' ρ' h', ct := fun ρ' h' => ∃ m', m' < m ∧ W m' ρ' h', bk := D.nx } ρ h1 else D.nx ρ h1
def putFA (f : Str) (v : AV) : List (Str × AV) → List (Str × AV)
  | [] => [(f, v)]
  | (g, u) :: r => if g = f then (g, v) :: r else (g, u) :: putFA f v r
/-- a cell's item stored: o[k] = d -/
def putC (c : Cell) (k d : AV) (Q : Cell → Prop) : Prop :=
  match c with
  | .lst xs => match k with
    | .int i => match ixN xs.length i with
      | some j => Q (.lst (xs.set j d))
      | none => False
    | _ => False
  | .dct kvs => match keyOf k with
    | some k => kvs.length < 100000 ∧ Q (.dct (putD kvs k d))
    | none => False
  | .dctN kvs => match nkOf k with
    | some k => kvs.length < 100000 ∧ Q (.dctN (putNK kvs k d))
    | none => False
  | _ => False
def appC (c : Cell) (d : AV) (Q : Cell → Prop) : Prop :=
  match c with
  | .lst xs => xs.length < sizeLine ∧ Q (.lst (xs ++ [d]))
  | _ => False
def augK (op : Operator) (x y : AV) (Q : KA) : Prop :=
  match op, x, y with
  | .Add, .int i, .int j => Q (.int (i + j))
  | .Sub, .int i, .int j => Q (.int (i - j))
  | _, _, _ => False
mutual
def WpS (C : Ctx) : S → Kt → Env → AHeap → Prop
  | .asg tg e, D, ρ, h => WpE C false e ρ h fun x h1 => tgK tg x ρ fun ρ' => D.nx ρ' h1
  | .asgO i n, D, ρ, h => WpN C n ρ h fun c h1 => D.nx (setS ρ i (.own c)) h1
  | .frz i, D, ρ, h => match getS ρ i with
    | .own (.lst xs) => D.nx (setS ρ i (.val (.lst xs))) h
    | .own (.dct xs) => D.nx (setS ρ i (.val (.dct xs))) h
    | _ => False
  | .par i j a b, D, ρ, h => WpE C false a ρ h fun x h1 => WpE C false b ρ h1 fun y h2 => D.nx (setS (setS ρ i (.val x)) j (.val y)) h2
  | .aug i op e, D, ρ, h => match getS ρ i with
    | .val x => WpE C false e ρ h fun y h1 => augK op x y fun z => D.nx (setS ρ i (.val z)) h1
    | _ => False
  | .app i e, D, ρ, h => match getS ρ i with
    | .own (.lst xs) => WpE C false e ρ h fun d h1 => xs.length < sizeLine ∧ D.nx (setS ρ i (.own (.lst (xs ++ [d])))) h1
    | _ => False
  | .appE o e, D, ρ, h => WpE C false o ρ h fun x h1 => match x with
    | .adr n => match cells h1 n with
      | .lst _ => WpE C false e ρ h1 fun d h2 => appC (cells h2 n) d fun c' => D.nx ρ (h2.set n c')
      | _ => False
    | _ => False
  | .ext i e, D, ρ, h => match getS ρ i with
    | .own (.lst xs) => WpE C true e ρ h fun d h1 => match viewW h1 d with
      | some ys => xs.length + ys.length ≤ sizeLine ∧ D.nx (setS ρ i (.own (.lst (xs ++ ys)))) h1
      | none => False
    | _ => False
  | .extE o e, D, ρ, h => WpE C false o ρ h fun x h1 => match x with
    | .adr n => match cells h1 n with
      | .lst _ => WpE C true e ρ h1 fun d h2 => match cells h2 n with
        | .lst xs => match viewW h2 d with
          | some ys => xs.length + ys.length ≤ sizeLine ∧ D.nx ρ (h2.set n (.lst (xs ++ ys)))
          | none => False
        | _ => False
      | _ => False
    | _ => False
  | .popS i, D, ρ, h => match getS ρ i with
    | .own (.lst xs) => xs ≠ [] ∧ D.nx (setS ρ i (.own (.lst xs.dropLast))) h
    | _ => False
  | .popA tg i, D, ρ, h => match getS ρ i with
    | .own (.lst xs) => match xs.getLast? with
      | some d => tgK tg d (setS ρ i (.own (.lst xs.dropLast))) fun ρ' => D.nx ρ' h
      | none => False
    | _ => False
  | .put i k e, D, ρ, h => match getS ρ i with
    | .own c => WpE C false e ρ h fun d h1 => WpE C false k ρ h1 fun y h2 => putC c y d fun c' => D.nx (setS ρ i (.own c')) h2
    | _ => False
  | .putE o k e, D, ρ, h => WpE C false e ρ h fun d h1 => WpE C false o ρ h1 fun x h2 => WpE C false k ρ h2 fun y h3 => match x with
    | .adr n => putC (cells h3 n) y d fun c' => D.nx ρ (h3.set n c')
    | _ => False
  | .fld o f e, D, ρ, h => WpE C false e ρ h fun d h1 => WpE C false o ρ h1 fun x h2 => match x with
    | .adr n => match cells h2 n with
      | .obj c fs => C.fld c f = true ∧ fs.length < 1000 ∧ D.nx ρ (h2.set n (.obj c (putFA f d fs)))
      | _ => False
    | _ => False
  | .expr e, D, ρ, h => WpE C false e ρ h fun _ h1 => D.nx ρ h1
  | .ret e, D, ρ, h => WpE C false e ρ h fun d h1 => D.rt d h1
  | .retN, D, _, h => D.rt .non h
  | .ite c a b, D, ρ, h => WpT C c ρ h fun k h1 => if k = true then WpSs C a D ρ h1 else WpSs C b D ρ h1
  | .wh c b, D, ρ, h => whL (WpT C c) (WpSs C b) D ρ h
  | .for tg it b, D, ρ, h => WpI C it ρ h fun xs chk h1 => forL (fun x D ρ h => tgK tg x ρ fun ρ' => WpSs C b D ρ' h) chk D xs ρ h1
  | .pass, D, ρ, h => D.nx ρ h
  | .brk, D, ρ, h => D.bk ρ h
  | .cont, D, ρ, h => D.ct ρ h
  | .bad, _, _, _ => False
  | .rse c e, D, ρ, h => WpE C false e ρ h fun x h1 => match x with
    | .int n => D.ex c n h1
    | _ => False
def WpSs (C : Ctx) : Ss → Kt → Env → AHeap → Prop
  | .nil, D, ρ, h => D.nx ρ h
  | .cons s r, D, ρ, h => WpS C s { D with nx := WpSs C r D } ρ h
end

/-! ### a program -/
structure Fn where
  np : Nat
  ns : Nat
  body : Ss
/-! a def that tries a call: what the clause tells of the exception -/
inductive HB where
  | isC (c : Nat) | isT (cs : List Nat) | isVE | row
  | and (a b : HB) | or (a b : HB) | not (a : HB)
inductive HE where
  | non | bl (b : Bool) | row | hb (b : HB) | pair (s : Str)
inductive AT where
  | v (i : Nat) | s (z : Str)
structure TryF where
  g : Nat
  np : Nat
  ns : Nat
  args : List AT
  c : Nat
  i : Nat
  ok : Option (Option Str)
  gs : List (HB × HE)
  fin : Option HE
  aft : Option AV
structure Prg where
  fns : List (Nat × Fn)
  glob : List (Nat × AV) := []
  meth : List ((Nat × Str) × Nat) := []
  init : List (Nat × Nat) := []
  flds : List (Nat × Str) := []
  gdct : List (Nat × List (Str × Int)) := []
  tryf : List (Nat × TryF) := []
  sub : List ((Nat × Nat) × Bool) := []
def startS (F : Fn) (args : List AV) : Env := args.map .val ++ List.replicate (F.ns - args.length) .no
def ctxOf (P : Prg) (call : Nat → List AV → AHeap → (AV → AHeap → Prop) → Prop) : Ctx where
  glob g := P.glob.lookup g
  call := call
  meth c m := P.meth.lookup (c, m)
  init c := P.init.lookup c
  fld c f := P.flds.contains (c, f)
  gdct g := P.gdct.lookup g
/-- what the clause's tests say of an exception of the class c -/
def hbV (P : Prg) (c : Nat) : HB → Option Bool
  | .isC d => P.sub.lookup (c, d)
  | .isT ds => anyT P c ds
  | .isVE => some true
  | .row => some false
  | .and a b => match hbV P c a with
    | some true => hbV P c b
    | some false => some false
    | none => none
  | .or a b => match hbV P c a with
    | some true => some true
    | some false => hbV P c b
    | none => none
  | .not a => (hbV P c a).map (!·)
where anyT (P : Prg) (c : Nat) : List Nat → Option Bool
  | [] => some false
  | d :: r => match P.sub.lookup (c, d) with
    | some true => some true
    | some false => anyT P c r
    | none => none
def heV (P : Prg) (c : Nat) (n : Int) : HE → Option AV
  | .non => some .non
  | .bl b => some (.bl b)
  | .row => some (.int n)
  | .hb b => (hbV P c b).map .bl
  | .pair s => some (.tup [.str s, .int n])
def gsV (P : Prg) (c : Nat) (n : Int) (t : TryF) : List (HB × HE) → Option AV
  | [] => match t.fin with
    | some e => heV P c n e
    | none => t.aft
  | (b, e) :: r => match hbV P c b with
    | some true => heV P c n e
    | some false => gsV P c n t r
    | none => none
/-- what the clause returns -/
def tryV (P : Prg) (c : Nat) (n : Int) (t : TryF) : Option AV := match P.sub.lookup (c, t.c) with
  | some true => gsV P c n t t.gs
  | _ => none
def okV (t : TryF) (v : AV) : Option AV := match t.ok with
  | none => t.aft
  | some none => some v
  | some (some s) => some (.tup [.str s, v])
def argV (ds : List AV) : List AT → Option (List AV)
  | [] => some []
  | .v i :: r => match ds[i]?, argV ds r with
    | some d, some xs => some (d :: xs)
    | _, _ => none
  | .s z :: r => (argV ds r).map (.str z :: ·)
def bodyW (P : Prg) (rec : Nat → List AV → AHeap → (AV → AHeap → Prop) → Prop) (g : Nat) (args : List AV) (h : AHeap) (Q : AV → AHeap → Prop) (E : Nat → Int → AHeap → Prop) : Prop :=
  match P.fns.lookup g with
  | none => False
  | some F => args.length = F.np ∧ WpSs (ctxOf P rec) F.body { nx := fun _ h => Q .non h, rt := Q, ex := E } (startS F args) h
def tryW (P : Prg) (rec : Nat → List AV → AHeap → (AV → AHeap → Prop) → Prop) (t : TryF) (args : List AV) (h : AHeap) (Q : AV → AHeap → Prop) : Prop :=
  args.length = t.np ∧ match argV args t.args with
    | some xs => bodyW P rec t.g xs h (fun v h2 => match okV t v with
      | some d => Q d h2
      | none => False) (fun c n h2 => match tryV P c n t with
      | some d => Q d h2
      | none => False)
    | none => False
def callN (P : Prg) : Nat → Nat → List AV → AHeap → (AV → AHeap → Prop) → Prop
  | 0, _, _, _, _ => False
  | n + 1, f, args, h, Q => match P.fns.lookup f with
    | none => match P.tryf.lookup f with
      | some t => tryW P (callN P n) t args h Q
      | none => False
    | some F => args.length = F.np ∧ WpSs (ctxOf P (callN P n)) F.body { nx := fun _ h => Q .non h, rt := Q } (startS F args) h
end VL

set_option maxRecDepth 100000
set_option maxHeartbeats 2000000
/-! VL: dicts whose keys are tuples of ints, or of ints and such tuples. -/
namespace VL
open PySem L2 PySem.Spec PyProof.Rows
section
variable {prog : Program} {w : World}
def itN (prog : Program) (w : World) (h : Heap) : NI → Value → Prop
  | .inl i, v => ∃ t, v = .int i t
  | .inr ks, v => ∃ b, v = .ref b ∧ IsTupleKey (intKind prog w) h ks b
inductive ItsN (prog : Program) (w : World) (h : Heap) : NK → List Value → Prop
  | nil : ItsN prog w h [] []
  | cons {k : NI} {v : Value} {ks : NK} {vs : List Value} : itN prog w h k v → ItsN prog w h ks vs → ItsN prog w h (k :: ks) (v :: vs)
def IsNK (prog : Program) (w : World) (h : Heap) (ks : NK) (a : Addr) : Prop := ∃ o items n, h.get? a = some o ∧ o.cls = .type "tuple" ∧ o.data = .seq items n ∧ ItsN prog w h ks items.toList
def hashNI : NI → Int
  | .inl i => hashInt i
  | .inr ks => reduceHash (Builtin.Tuple.tupleHashOf (ks.map hashInt))
def hashNK (ks : NK) : Int := reduceHash (Builtin.Tuple.tupleHashOf (ks.map hashNI))
def drawNI : NI → Nat
  | .inl _ => 1
  | .inr ks => ks.length + 1
def drawNK (ks : NK) : Nat := (ks.map drawNI).sum + 1
theorem itN_inj {h : Heap} {a b : NI} {v : Value} (ha : itN prog w h a v) (hb : itN prog w h b v) : a = b := by
  cases a with
  | inl i =>
    obtain ⟨t, rfl⟩ := ha
    cases b with
    | inl j => obtain ⟨u, e⟩ := hb; cases e; rfl
    | inr ls => obtain ⟨c, e, _⟩ := hb; cases e
  | inr ks =>
    obtain ⟨c, rfl, hk⟩ := ha
    cases b with
    | inl j => obtain ⟨u, e⟩ := hb; cases e
    | inr ls =>
      obtain ⟨c', e, hl⟩ := hb
      cases e
      rw [hk.inj hl]
theorem ItsN.inj {h : Heap} : ∀ {x y : NK} {vs : List Value}, ItsN prog w h x vs → ItsN prog w h y vs → x = y
  | _, _, _, .nil, .nil => rfl
  | _, _, _, .cons a r, .cons b t => by rw [itN_inj a b, ItsN.inj r t]
theorem IsNK.typeIs {s : Shared} {ks : NK} {a : Addr} (x : IsNK prog w s.heap ks a) : s.TypeIs (.ref a) "tuple" := let ⟨o, _, _, ho, hc, _⟩ := x; ⟨o, ho, hc⟩
theorem IsNK.inj {h : Heap} {a : Addr} {x y : NK} (hx : IsNK prog w h x a) (hy : IsNK prog w h y a) : x = y := by
  obtain ⟨o, items, n, ho, _, hd, hi⟩ := hx
  obtain ⟨o', items', n', ho', _, hd', hi'⟩ := hy
  obtain rfl : o = o' := Option.some.inj (ho.symm.trans ho')
  rw [hd] at hd'
  injection hd' with h1 _
  subst h1
  exact hi.inj hi'
theorem ItsN.keeps {h h' : Heap} {d : Addr} {o : Obj} {es ep} (ho : h.get? d = some o) (hd : o.data = .dict es ep) (hs : Heap.SameBut d h h') : ∀ {ks : NK} {vs : List Value}, ItsN prog w h ks vs → ItsN prog w h' ks vs
  | _, _, .nil => .nil
  | .inl _ :: _, _, .cons a r => .cons a (ItsN.keeps ho hd hs r)
  | .inr _ :: _, _, .cons ⟨b, e, hk⟩ r => .cons ⟨b, e, hk.keeps ho hd hs⟩ (ItsN.keeps ho hd hs r)
theorem IsNK.keeps {h h' : Heap} {ks : NK} {a d : Addr} {o : Obj} {es ep} (x : IsNK prog w h ks a) (ho : h.get? d = some o) (hd : o.data = .dict es ep) (hs : Heap.SameBut d h h') :
    IsNK prog w h' ks a := by
  obtain ⟨o', items, n, ho', hc, hd', hi⟩ := x
  have hne : a ≠ d := by
    rintro rfl
    obtain rfl : o' = o := Option.some.inj (ho'.symm.trans ho)
    rw [hd] at hd'; exact nomatch hd'
  exact ⟨o', items, n, (hs.2 a hne).trans ho', hc, hd', hi.keeps ho hd hs⟩
variable {A : Around} {E : Value → Shared → Prop} {s : Shared}
theorem hash_item {k : NI} {v : Value} {Q : Int → Shared → Prop} (hu : A.units < cLine) (hk : itN prog w s.heap k v) (h : Q (hashNI k) { s with toks := s.toks + drawNI k }) : wpAny (model prog w) A (pyHash v) Q E s := by
  cases k with
  | inl i =>
    obtain ⟨t, rfl⟩ := hk
    exact wpAny_pyHash_int h
  | inr ks =>
    obtain ⟨b, rfl, hb⟩ := hk
    exact wpAny_pyHash_tuple hu hb h
theorem units_in1 (A : Around) : A.in1.units = A.units ∨ A.in1.units = A.units + 1 := by
  first | exact .inr rfl | exact .inl rfl
theorem hash_nk {ks : NK} {a : Addr} {Q : Int → Shared → Prop} (hu : A.units + 1 < cLine) (hk : IsNK prog w s.heap ks a) (h : Q (hashNK ks) { s with toks := s.toks + drawNK ks }) :
    wpAny (model prog w) A (pyHash (.ref a)) Q E s := by
  have hT := hk.typeIs
  have hu1 : A.in1.units < cLine := by rcases units_in1 A with e | e <;> omega
  obtain ⟨o, items, n, ho, _, hd, hi⟩ := hk
  unfold pyHash
  first | unfold pyHashByItsType | skip
  first | refine wpAny_bind (wpAny_cRoomFor_or (.inr (by omega)) ?_) | skip
  refine wpAny_bind (wpAny_specialOf hT PySem.F.slot_tuple_hash.lookup ?_)
  show wpAny _ _ (if (some (Value.builtin "tuple.__hash__") == some Value.none) = true then _ else _) Q E s
  rw [if_neg (by rw [beq_builtin_none]; exact Bool.false_ne_true)]
  refine wpAny_bind (wpAny_specialOf hT PySem.F.slot_tuple_hash.lookup ?_)
  show wpAny _ _ (callSpecialIfBoundUnlessNone? (.ref a) "__hash__" _ >>= _) Q E s
  refine wpAny_bind (wpAny_callSpecialIfBoundUnlessNone?_slot hT PySem.F.slot_tuple_hash (wpAny_call_entry PySem.F.slot_tuple_hash hT PySem.F.entry_tuple_hash ?_ (PySem.F.args_tuple_hash_1 _)))
  show wpAny _ _ (Builtin.Tuple.tupleItemsOf (.ref a) >>= _) _ _ s
  refine wpAny_bind (wpAny_tupleItemsOf ho hd ?_)
  refine wpAny_bind ?_
  rw [← Array.forIn_toList]
  refine wpAny_forIn_list _
    (fun rest (b : Array Int) s' => ∃ done left, ks = done ++ left ∧ ItsN prog w s.heap left rest ∧ b.toList = done.map hashNI ∧ s' = { s with toks := s.toks + (done.map drawNI).sum })
    _ ?_ ?_ _ _ ⟨[], ks, rfl, hi, rfl, rfl⟩
  · rintro x rest b s' ⟨done, left, rfl, hl, hb, rfl⟩
    cases hl with
    | @cons k _ ks' _ h1 hl' =>
      refine wpAny_bind (hash_item hu1 h1 ?_)
      first
        | exact wpAny_pure ⟨done ++ [k], ks', by simp, hl', by simp [hb], by simp [Nat.add_assoc]⟩
        | exact wpAny_bind (wpAny_pure (wpAny_pure ⟨done ++ [k], ks', by simp, hl', by simp [hb], by simp [Nat.add_assoc]⟩))
  · rintro b s' ⟨done, left, rfl, hl, hb, rfl⟩
    cases hl
    rw [List.append_nil] at h
    show wpAny _ _ (retInt (Builtin.Tuple.tupleHashOf b.toList)) _ _ _
    rw [hb]
    refine wpAny_ret_mkInt ?_
    show wpAny _ _ (if (decide (-(2 : Int) ^ 63 ≤ Builtin.Tuple.tupleHashOf (done.map hashNI)) && decide (Builtin.Tuple.tupleHashOf (done.map hashNI) < 2 ^ 63)) = true then _ else _) Q E _
    unfold hashNK reduceHash drawNK at h
    by_cases hr : (decide (-(2 : Int) ^ 63 ≤ Builtin.Tuple.tupleHashOf (done.map hashNI)) && decide (Builtin.Tuple.tupleHashOf (done.map hashNI) < 2 ^ 63)) = true
    · rw [if_pos hr]
      rw [if_pos hr] at h
      exact wpAny_pure (by simpa [Nat.add_assoc] using h)
    · rw [if_neg hr]
      rw [if_neg hr] at h
      exact wpAny_bind (wpAny_rule (wpAny_pure (by simpa [Nat.add_assoc] using h)))
theorem eq_item {a b : NI} {u v : Value} {Q : Bool → Shared → Prop} (hu : A.units < cLine) (ha : itN prog w s.heap a u) (hb : itN prog w s.heap b v) (h : Q (decide (a = b)) s) : wpAny (model prog w) A (eqBool u v) Q E s := by
  cases a with
  | inl i =>
    obtain ⟨t, rfl⟩ := ha
    cases b with
    | inl j =>
      obtain ⟨t', rfl⟩ := hb
      refine wpAny_eqBool_int ?_
      have e : (i == j) = decide ((Sum.inl i : NI) = Sum.inl j) := by
        by_cases c : i = j
        · subst c; simp
        · have c' : ¬ (Sum.inl i : NI) = Sum.inl j := fun z => c (Sum.inl.inj z)
          rw [decide_eq_false c']; exact beq_eq_false_iff_ne.mpr c
      rw [e]; exact h
    | inr ks =>
      obtain ⟨c, rfl, o, its, n, h1, h2, h3, _⟩ := hb
      have e : decide ((Sum.inl i : NI) = Sum.inr ks) = false := decide_eq_false (fun q => nomatch q)
      rw [e] at h
      exact SeqAt.EqAt.int_tuple i t (l := c) (items := its) ⟨o, h1, h2, n, h3⟩ hu _ _ _ _ h
  | inr ks =>
    obtain ⟨c, rfl, hk⟩ := ha
    cases b with
    | inl j =>
      obtain ⟨t', rfl⟩ := hb
      obtain ⟨o, its, n, h1, h2, h3, _⟩ := hk
      have e : decide ((Sum.inr ks : NI) = Sum.inl j) = false := decide_eq_false (fun q => nomatch q)
      rw [e] at h
      exact SeqAt.EqAt.tuple_int j t' (l := c) (items := its) ⟨o, h1, h2, n, h3⟩ hu _ _ _ _ h
    | inr ls =>
      obtain ⟨c', rfl, hl⟩ := hb
      refine wpAny_eqBool_tuple hu hk hl ?_
      have e : decide (ks = ls) = decide ((Sum.inr ks : NI) = Sum.inr ls) := by
        by_cases c : ks = ls
        · subst c; simp
        · have c' : ¬ (Sum.inr ks : NI) = Sum.inr ls := fun z => c (Sum.inr.inj z)
          rw [decide_eq_false c', decide_eq_false c]
      rw [e]; exact h
theorem ItsN.length {h : Heap} : ∀ {x : NK} {vs : List Value}, ItsN prog w h x vs → x.length = vs.length
  | _, _, .nil => rfl
  | _, _, .cons _ r => by simp [ItsN.length r]
theorem nk_eq_tree {x y : NK} {a b : Addr} {P : Fin → Shared → Prop} (hu : A.units < cLine) (hx : IsNK prog w s.heap x a) (hy : IsNK prog w s.heap y b) (h : P (.done (.ret (.bool (decide (x = y))))) s) :
    wpAny (model prog w) A (Builtin.«tuple.__eq__» ⟨[.ref a, .ref b], []⟩) P E s := by
  have hTb := hy.typeIs
  obtain ⟨oa, xs, na, hoa, _, hda, hia⟩ := hx
  obtain ⟨ob, ys, nb, hob, _, hdb, hib⟩ := hy
  show wpAny _ _ (isInstance (.ref b) (.type "tuple") >>= _) _ _ s
  refine wpAny_bind (wpAny_isInstance hTb isSubtype_tuple_tuple ?_)
  simp only [Bool.not_true, Bool.false_eq_true, if_false]
  refine wpAny_bind (wpAny_tupleItemsOf hoa hda ?_)
  refine wpAny_bind (wpAny_tupleItemsOf hob hdb ?_)
  refine wpAny_bind ?_
  refine wpAny_forIn_list _
    (fun rest r s' => r.1 = none ∧ s' = s ∧ ∃ x' y' xs' ys', rest = List.zip xs' ys' ∧ ItsN prog w s.heap x' xs' ∧ ItsN prog w s.heap y' ys' ∧ decide (x' = y') = decide (x = y) ∧ (xs'.length == ys'.length) = (xs.size == ys.size))
    _ ?_ ?_ _ _ ⟨rfl, rfl, x, y, xs.toList, ys.toList, rfl, hia, hib, rfl, by simp⟩
  · rintro ⟨u, v⟩ rest r s' ⟨hr, rfl, x', y', xs', ys', hz, hx', hy', hdec, hlen⟩
    cases hx' with
    | nil => simp at hz
    | @cons k1 u' x'' xs'' h1 hx'' =>
      cases hy' with
      | nil => simp at hz
      | @cons k2 v' y'' ys'' h2 hy'' =>
        simp only [List.zip_cons_cons, List.cons.injEq, Prod.mk.injEq] at hz
        obtain ⟨⟨rfl, rfl⟩, rfl⟩ := hz
        refine wpAny_bind (eq_item hu h1 h2 ?_)
        by_cases hk : k1 = k2
        · subst hk
          rw [decide_eq_true rfl]
          simp only [Bool.not_true, Bool.false_eq_true, if_false]
          refine wpAny_pure ⟨rfl, rfl, x'', y'', xs'', ys'', rfl, hx'', hy'', ?_, by simpa using hlen⟩
          rw [← hdec]
          by_cases hxy : x'' = y''
          · simp [hxy]
          · simp [hxy]
        · rw [decide_eq_false hk]
          simp only [Bool.not_false, if_true]
          have hf : decide (x = y) = false := by rw [← hdec]; simp [hk]
          rw [hf] at h
          exact wpAny_bind (wpAny_pure (wpAny_pure (wpAny_pure h)))
  · rintro ⟨r1, r2⟩ s' ⟨hr, rfl, x', y', xs', ys', hz, hx', hy', hdec, hlen⟩
    simp only at hr
    subst hr
    refine wpAny_pure ?_
    have hfin : (xs.size == ys.size) = decide (x = y) := by
      rw [← hdec, ← hlen]
      cases hx' with
      | nil =>
        cases hy' with
        | nil => simp
        | cons _ _ => simp
      | cons _ _ =>
        cases hy' with
        | nil => simp
        | cons _ _ => simp at hz
    show P (.done (.ret (.bool (xs.size == ys.size)))) s'
    rw [hfin]; exact h
theorem eq_nk {x y : NK} {a b : Addr} {Q : Bool → Shared → Prop} (hu : A.units + 1 < cLine) (hx : IsNK prog w s.heap x a) (hy : IsNK prog w s.heap y b) (h : Q (decide (x = y)) s) :
    wpAny (model prog w) A (eqBool (.ref a) (.ref b)) Q E s := by
  have hu1 : A.in1.units < cLine := by rcases units_in1 A with e | e <;> omega
  unfold eqBool
  try with_reducible refine wpAny_holding ?_
  show wpAny _ _ (if (Value.ref a == Value.ref b) = true then _ else _) Q E s
  by_cases hab : (Value.ref a == Value.ref b) = true
  · rw [if_pos hab]
    have e : a = b := by have := eq_of_beq hab; injection this
    subst e
    obtain rfl := hx.inj hy
    exact wpAny_bind (wpAny_rule (wpAny_pure (by simpa using h)))
  · rw [if_neg hab]
    exact wpAny_bind (wpAny_richCompare_same_room (op := .Eq) hx.typeIs hy.typeIs PySem.F.slot_tuple_eq
      (wpAny_call_entry PySem.F.slot_tuple_eq hx.typeIs PySem.F.entry_tuple_eq (nk_eq_tree hu1 hx hy ⟨_, rfl, (fun e => nomatch e), wpAny_truthy_bool h⟩) (PySem.F.args_tuple_eq_2 _ _)) (by omega))
theorem quiet_flat {n : Nat} {ks : List Int} {a : Addr} {Q : Bool → Shared → Prop} (hk : IsTupleKey (intKind prog w) s.heap ks a) (h : Q true s) : wpAny (model prog w) A (eqIsQuiet (n + 1) (.ref a)) Q E s := by
  have hT := hk.typeIs
  obtain ⟨o, items, m, ho, _, hd, hi⟩ := hk
  unfold eqIsQuiet
  refine wpAny_bind (wpAny_specialOf hT PySem.F.slot_tuple_eq.lookup ?_)
  show wpAny _ _ (isInstance (.ref a) (.type "tuple") >>= _) _ _ s
  refine wpAny_bind (wpAny_isInstance hT isSubtype_tuple_tuple ?_)
  simp only [Bool.not_true, Bool.false_eq_true, if_false]
  refine wpAny_bind (wpAny_seqItems ho hd ?_)
  refine wpAny_bind ?_
  show wpAny _ _ (forIn items _ _) _ _ s
  rw [← Array.forIn_toList]
  refine wpAny_forIn_list _ (fun rest r s' => r.1 = none ∧ s' = s ∧ ∀ v ∈ rest, carriedByValue v = true) _ ?_ ?_ _ _ ⟨rfl, rfl, hi.byValue⟩
  · rintro v rest r s' ⟨hr, rfl, hall⟩
    rw [eqIsQuiet_byValue _ (hall v List.mem_cons_self)]
    refine wpAny_bind (wpAny_pure ?_)
    simp only [Bool.not_true, Bool.false_eq_true, if_false]
    exact wpAny_pure ⟨rfl, rfl, fun u hu' => hall u (List.mem_cons_of_mem _ hu')⟩
  · rintro ⟨r1, r2⟩ s' ⟨hr, rfl, _⟩
    simp only at hr
    subst hr
    exact wpAny_pure h
theorem quiet_item {n : Nat} {k : NI} {v : Value} {Q : Bool → Shared → Prop} (hk : itN prog w s.heap k v) (h : Q true s) : wpAny (model prog w) A (eqIsQuiet (n + 1) v) Q E s := by
  cases k with
  | inl i =>
    obtain ⟨t, rfl⟩ := hk
    rw [eqIsQuiet_byValue _ rfl]
    exact wpAny_pure h
  | inr ks =>
    obtain ⟨b, rfl, hb⟩ := hk
    exact quiet_flat hb h
theorem quiet_nk {ks : NK} {a : Addr} {Q : Bool → Shared → Prop} (hk : IsNK prog w s.heap ks a) (h : Q true s) : wpAny (model prog w) A (eqIsQuiet 8 (.ref a)) Q E s := by
  have hT := hk.typeIs
  obtain ⟨o, items, m, ho, _, hd, hi⟩ := hk
  unfold eqIsQuiet
  refine wpAny_bind (wpAny_specialOf hT PySem.F.slot_tuple_eq.lookup ?_)
  show wpAny _ _ (isInstance (.ref a) (.type "tuple") >>= _) _ _ s
  refine wpAny_bind (wpAny_isInstance hT isSubtype_tuple_tuple ?_)
  simp only [Bool.not_true, Bool.false_eq_true, if_false]
  refine wpAny_bind (wpAny_seqItems ho hd ?_)
  refine wpAny_bind ?_
  show wpAny _ _ (forIn items _ _) _ _ s
  rw [← Array.forIn_toList]
  refine wpAny_forIn_list _ (fun rest r s' => r.1 = none ∧ s' = s ∧ ∃ left, ItsN prog w s.heap left rest) _ ?_ ?_ _ _ ⟨rfl, rfl, ks, hi⟩
  · rintro v rest r s' ⟨hr, rfl, left, hl⟩
    cases hl with
    | cons h1 hl' =>
      refine wpAny_bind (quiet_item (n := 6) h1 ?_)
      simp only [Bool.not_true, Bool.false_eq_true, if_false]
      exact wpAny_pure ⟨rfl, rfl, _, hl'⟩
  · rintro ⟨r1, r2⟩ s' ⟨hr, rfl, _⟩
    simp only at hr
    subst hr
    exact wpAny_pure h
end
def nkKind (prog : Program) (w : World) : HeapKind prog w NK where
  is := IsNK prog w
  hash := hashNK
  draws := drawNK
  room := fun A => A.units + 1 < cLine
  inj := fun hx hy => hx.inj hy
  keeps := fun x ho hd hs => x.keeps ho hd hs
  pyHash := fun hu hk h => hash_nk hu hk h
  eqBool := fun hu hx hy h => eq_nk hu hx hy h
  quiet := fun hk h => quiet_nk hk h
/-- the dict's entries as they stand -/
def PV (p : NK × Addr × V) (q : NK × Addr × Value) : Prop := p.1 = q.1 ∧ p.2.1 = q.2.1 ∧ RelV p.2.2 q.2.2
def enN (x : NK × Addr × Value) : DictEntry := ⟨hashNK x.1, .ref x.2.1, x.2.2⟩
def DN (d : Addr) (es : List (NK × Addr × V)) : Heap → Prop := fun h => es.length ≤ sizeLine ∧ (d == sysModules) = false ∧ ∃ xs : List (NK × Addr × Value), Paired PV es xs ∧
  ∃ o arr ep, h.get? d = some o ∧ o.ExactDict ∧ o.data = .dict arr ep ∧ arr.toList = xs.map enN ∧ (xs.map (·.1)).Nodup
theorem DN.stay {d : Addr} {es : List (NK × Addr × V)} {h1 h2 : Heap} (x : DN d es h1) (k : ∀ o, h1.get? d = some o → h2.get? d = some o) : DN d es h2 := by
  obtain ⟨a, b, xs, c, o, arr, ep, e, r⟩ := x
  exact ⟨a, b, xs, c, o, arr, ep, k o e, r⟩
/-- the tuple at b is this key -/
def itV (K : PySem.W.Frag) (H : Hp) : NI → V → Prop
  | .inl i, v => v = .int i
  | .inr ks, v => ∃ b, v = .ref b ∧ SqT K H b (ks.map V.int)
def KeyN (K : PySem.W.Frag) (H : Hp) (ks : NK) (b : Addr) : Prop := ∃ vs, SqT K H b vs ∧ Paired (itV K H) ks vs
theorem itV.mono {K : PySem.W.Frag} {F H : Hp} (e : ∀ b vs, SqT K F b vs → SqT K H b vs) : ∀ {k : NI} {v : V}, itV K F k v → itV K H k v
  | .inl _, _, h => h
  | .inr _, _, ⟨b, h, q⟩ => ⟨b, h, e _ _ q⟩
theorem KeyN.mono {K : PySem.W.Frag} {F H : Hp} (e : ∀ b vs, SqT K F b vs → SqT K H b vs) {ks : NK} {b : Addr} (h : KeyN K F ks b) : KeyN K H ks b := by
  obtain ⟨vs, h1, h2⟩ := h
  exact ⟨vs, e _ _ h1, Paired.mapP h2 fun _ _ q => itV.mono e q⟩
section
variable {X : Cx} {pins : List (Addr × Obj)} {σ : L2.St} {H : Hp} {s : Shared}
theorem flat_items {P : Program} {w : World} : ∀ {ks : List Int} {us : List Value}, Vals (ks.map V.int) us → ItemsAre (intKind P w) ks us
  | [], _, r => by rw [List.map_nil] at r; cases r; exact .nil
  | k :: ks, _, r => by
    rw [List.map_cons] at r
    cases r with
    | cons h t =>
      obtain ⟨t', rfl⟩ := h
      exact .cons (intKind_is P w k t') (flat_items t)
theorem keyN_is (I : Inv X pins σ H s) {ks : NK} {b : Addr} (h : KeyN X.K H ks b) : IsNK X.prog X.w s.heap ks b := by
  obtain ⟨vs, hb, hp⟩ := h
  obtain ⟨its, r, ⟨o, e, c, n, d⟩, hz⟩ := I.tuple hb
  refine ⟨o, its.toArray, n, e, c, d, ?_⟩
  show ItsN X.prog X.w s.heap ks its
  clear hb e d hz
  induction hp generalizing its with
  | nil => cases r; exact .nil
  | @cons k v ks vs h t ih =>
    cases r with
    | cons r1 r2 =>
      refine .cons ?_ (ih _ r2)
      cases k with
      | inl i =>
        have h : v = .int i := h
        subst h
        exact r1
      | inr ls =>
        obtain ⟨b', rfl, hq⟩ := h
        obtain ⟨its', r', ⟨o', e', c', n', d'⟩, _⟩ := I.tuple hq
        exact ⟨b', r1, o', its'.toArray, n', e', c', d', by simpa using flat_items r'⟩
/-- values by keys -/
def valN (es : List (NK × Addr × V)) (k : NK) : Option V := (es.find? fun x => decide (x.1 = k)).map (·.2.2)
def putN (es : List (NK × Addr × V)) (k : NK) (b : Addr) (v : V) : List (NK × Addr × V) :=
  if (es.any fun x => decide (x.1 = k)) = true then es.map (fun x => if x.1 = k then (x.1, x.2.1, v) else x) else es ++ [(k, b, v)]
theorem pv_val {es : List (NK × Addr × V)} {xs : List (NK × Addr × Value)} (r : Paired PV es xs) (k : NK) : RelO (valN es k) ((atKey xs k).map (·.2)) := by
  induction r with
  | nil => exact True.intro
  | @cons p q ps qs h t ih =>
    obtain ⟨h1, _, h2⟩ := h
    by_cases e : p.1 = k
    · have e' : q.1 = k := h1.symm.trans e
      have b : atKey (q :: qs) k = some q.2 := by simp [atKey, List.find?_cons, e']
      have c : valN (p :: ps) k = some p.2.2 := by simp [valN, List.find?_cons, e]
      rw [c, b]; exact h2
    · have e' : ¬ q.1 = k := fun z => e (h1.trans z)
      have b : atKey (q :: qs) k = atKey qs k := by simp [atKey, List.find?_cons, e']
      have c : valN (p :: ps) k = valN ps k := by simp [valN, List.find?_cons, e]
      rw [c, b]; exact ih
theorem pv_any {es : List (NK × Addr × V)} {xs : List (NK × Addr × Value)} (r : Paired PV es xs) (k : NK) : (es.any fun x => decide (x.1 = k)) = (atKey xs k).isSome := by
  induction r with
  | nil => rfl
  | @cons p q ps qs h t ih =>
    obtain ⟨h1, _, h2⟩ := h
    rw [List.any_cons, ih]
    by_cases e : p.1 = k
    · have e' : q.1 = k := h1.symm.trans e
      simp [atKey, List.find?_cons, e', e]
    · have e' : ¬ q.1 = k := fun z => e (h1.trans z)
      simp [atKey, List.find?_cons, e', e]
theorem pv_put {es : List (NK × Addr × V)} {xs : List (NK × Addr × Value)} (r : Paired PV es xs) (k : NK) (b : Addr) {v : V} {u : Value} (rv : RelV v u) : Paired PV (putN es k b v) (storedH xs k b u) := by
  unfold putN storedH
  rw [pv_any r k]
  by_cases q : (atKey xs k).isSome = true
  · rw [if_pos q, if_pos q]
    clear q
    induction r with
    | nil => exact .nil
    | @cons p q ps qs h t ih =>
      rw [List.map_cons, List.map_cons]
      refine .cons ?_ ih
      obtain ⟨h1, h2, h3⟩ := h
      unfold putAt
      by_cases e : p.1 = k
      · rw [if_pos e, if_pos (h1.symm.trans e)]; exact ⟨h1, h2, rv⟩
      · rw [if_neg e, if_neg (fun z => e (h1.trans z))]; exact ⟨h1, h2, h3⟩
  · rw [if_neg q, if_neg q]; exact Paired.snoc r ⟨rfl, rfl, rv⟩
theorem putN_len (es : List (NK × Addr × V)) (k : NK) (b : Addr) (v : V) : (putN es k b v).length ≤ es.length + 1 := by
  unfold putN
  split
  · simp
  · simp
theorem dn_ok {a : Addr} {es : List (NK × Addr × V)} (I : Inv X pins σ H s) (e : H a = some (.ext (DN a es))) (hk : ∀ x ∈ es, KeyN X.K H x.1 x.2.1) :
    es.length ≤ sizeLine ∧ (a == sysModules) = false ∧ ∃ xs, Paired PV es xs ∧ s.heap.DictOfH (nkKind X.prog X.w) a xs := by
  obtain ⟨⟨z, hd, xs, r, o, arr, ep, h1, h2, h3, h4, h5⟩, g1, g2⟩ := (show ObjOk X.prog X.w H s.heap a (.ext (DN a es)) from I.hok a _ e)
  refine ⟨z, hd, xs, r, o, arr, ep, h1, h2, h3, h4, ?_, h5⟩
  clear h4 h5 z e g1 g2
  induction r with
  | nil => intro x m; cases m
  | @cons p q ps qs h t ih =>
    intro x m
    rcases List.mem_cons.mp m with rfl | m
    · have := keyN_is I (hk p (by simp))
      rw [h.1, h.2.1] at this
      exact this
    · exact ih (fun y my => hk y (by simp [my])) x m
theorem dn_of {d : Addr} {es : List (NK × Addr × V)} {xs : List (NK × Addr × Value)} {h : Heap} {P : Program} {w : World} {H : Hp} (z : es.length ≤ sizeLine) (hd : (d == sysModules) = false) (r : Paired PV es xs) (dd : h.DictOfH (nkKind P w) d xs) : ObjOk P w H h d (.ext (DN d es)) := by
  obtain ⟨o, arr, ep, h1, h2, h3, h4, _, h5⟩ := dd
  exact ⟨⟨z, hd, xs, r, o, arr, ep, h1, h2, h3, h4, h5⟩, ⟨o, h1⟩, fun _ _ x k => x.stay k⟩
theorem n_getItem {A : Around} {E Q : Value → Shared → Prop} {a b : Addr} {es : List (NK × Addr × V)} {k : NK} {v : V} (hu : A.units + 2 < cLine) (I : Inv X pins σ H s) (e : H a = some (.ext (DN a es))) (hk : ∀ x ∈ es, KeyN X.K H x.1 x.2.1)
    (kb : KeyN X.K H k b) (hv : valN es k = some v) (h : ∀ w' s', Inv X pins σ H s' → RelV v w' → Q w' s') : wpAny (model X.prog X.w) A (getItem (.ref a) (.ref b)) Q E s := by
  have hu1 : A.in1.units + 1 < cLine := by rcases units_in1 A with q | q <;> omega
  obtain ⟨z, hd, xs, r, dd⟩ := dn_ok I e hk
  obtain ⟨w', hw, rw'⟩ := RelO.some_of (v := v) (o := (atKey xs k).map (·.2)) (by rw [← hv]; exact pv_val r k)
  obtain ⟨p, hp, hp2⟩ := Option.map_eq_some_iff.mp hw
  refine wpAny_getItem_heap hu1 (keyN_is I kb) dd hp ?_
  rw [hp2]
  exact h w' _ (I.tok _) rw'
theorem n_in {A : Around} {E Q : Value → Shared → Prop} {a b : Addr} {es : List (NK × Addr × V)} {k : NK} (hu : A.units + 2 < cLine) (I : Inv X pins σ H s) (e : H a = some (.ext (DN a es))) (hk : ∀ x ∈ es, KeyN X.K H x.1 x.2.1)
    (kb : KeyN X.K H k b) (h : ∀ s', Inv X pins σ H s' → Q (.bool (valN es k).isSome) s') : wpAny (model X.prog X.w) A (compareOp .In (.ref b) (.ref a)) Q E s := by
  have hu1 : A.in1.units + 1 < cLine := by rcases units_in1 A with q | q <;> omega
  obtain ⟨z, hd, xs, r, dd⟩ := dn_ok I e hk
  refine wpAny_in_heap hu1 (keyN_is I kb) hd dd ?_
  have q := (pv_val r k).isSome_eq
  rw [Option.isSome_map] at q
  rw [← q]
  exact h _ (I.tok _)
theorem n_notIn {A : Around} {E Q : Value → Shared → Prop} {a b : Addr} {es : List (NK × Addr × V)} {k : NK} (hu : A.units + 2 < cLine) (I : Inv X pins σ H s) (e : H a = some (.ext (DN a es))) (hk : ∀ x ∈ es, KeyN X.K H x.1 x.2.1)
    (kb : KeyN X.K H k b) (h : ∀ s', Inv X pins σ H s' → Q (.bool (!(valN es k).isSome)) s') : wpAny (model X.prog X.w) A (compareOp .NotIn (.ref b) (.ref a)) Q E s := by
  have hu1 : A.in1.units + 1 < cLine := by rcases units_in1 A with q | q <;> omega
  obtain ⟨z, hd, xs, r, dd⟩ := dn_ok I e hk
  refine wpAny_notIn_heap hu1 (keyN_is I kb) hd dd ?_
  have q := (pv_val r k).isSome_eq
  rw [Option.isSome_map] at q
  rw [← q]
  exact h _ (I.tok _)
theorem n_setItem {A : Around} {E : Value → Shared → Prop} {Q : Unit → Shared → Prop} {a b : Addr} {es : List (NK × Addr × V)} {k : NK} {v : V} {u : Value} (hu : A.units + 2 < cLine) (I : Inv X pins σ H s) (e : H a = some (.ext (DN a es))) (hk : ∀ x ∈ es, KeyN X.K H x.1 x.2.1)
    (kb : KeyN X.K H k b) (hl : es.length < sizeLine) (rv : RelV v u) (h : ∀ s', Inv X pins σ (upd H a (.ext (DN a (putN es k b v)))) s' → Q () s') : wpAny (model X.prog X.w) A (setItem (.ref a) (.ref b) u) Q E s := by
  have hu1 : A.in1.units + 1 < cLine := by rcases units_in1 A with q | q <;> omega
  obtain ⟨z, hd, xs, r, dd⟩ := dn_ok I e hk
  have hz : xs.length ≤ sizeLine := by rw [← Paired.length r]; exact z
  have hl : (putN es k b v).length ≤ sizeLine := by have := putN_len es k b v; omega
  refine wpAny_setItem_heap (hsz := hz) hu1 (keyN_is I kb) dd fun h' dd' hs => h _ ?_
  obtain ⟨q, arr, ep, hq, h2, h3, h4, hh, h5⟩ := id dd'
  exact d_write I (by rw [e]; exact True.intro) hs ⟨q, hq⟩ (dn_of hl hd (pv_put r k b rv) dd')
theorem dn_empty {P : Program} {w : World} {H : Hp} (h : Heap) (hb : sysModules < h.objs.size) : ObjOk P w H (h.push { cls := .type "dict", data := .dict #[] }) h.objs.size (.ext (DN h.objs.size [])) :=
  ⟨⟨Nat.zero_le _, beq_eq_false_iff_ne.mpr (Ne.symm (Nat.ne_of_lt hb)), [], .nil, _, #[], 0, Heap.get?_push_size _ rfl, ⟨rfl, rfl, rfl⟩, rfl, rfl, List.nodup_nil⟩, ⟨_, Heap.get?_push_size _ rfl⟩, fun _ _ x k => x.stay k⟩
theorem pe_dnewN {pos : Pos} : PE X (.Dict [] [] pos) (fun _ H Q => ∀ p, H p = none → Q (.ref p) (upd H p (.ext (DN p [])))) := ⟨fun pins s σ H Q I h =>
  wpAny_Dict_empty ⟨.ref s.heap.objs.size, _, I.laid (a := s.heap.objs.size) (o := .ext (DN s.heap.objs.size [])) (t' := s.toks) (fun _ _ q => Heap.get?_push_of_some _ q) (Nat.le_refl _) (dn_empty s.heap I.big), rfl, h _ (I.hok.fresh (Nat.le_refl _))⟩⟩
theorem pv_refs {es : List (NK × Addr × V)} {xs : List (NK × Addr × Value)} (r : Paired PV es xs) : Vals (es.map fun x => V.ref x.2.1) (xs.map fun x => Value.ref x.2.1) := by
  induction r with
  | nil => exact .nil
  | cons h t ih => exact .cons (by show Value.ref _ = Value.ref _; rw [h.2.1]) ih
theorem call_list_dN (hc : X.calm = true) : CallR X (.type "list") (fun xs H Q => ∃ d es, xs = [V.ref d] ∧ H d = some (.ext (DN d es)) ∧ ∀ p, H p = none → Q (.ref p) (upd H p (.lst (es.map fun x => V.ref x.2.1)))) := by
  intro pins s σ H xs us Q I r h
  obtain ⟨d, es, rfl, hd, q⟩ := h
  obtain ⟨u, rfl, rx⟩ := r.one
  cases rx
  obtain ⟨⟨z, hs, ks, pr, o, arr, ep, ho, hx, hdt, he, hn⟩, _, _⟩ := (show ObjOk X.prog X.w H s.heap d (.ext (DN d es)) from I.hok d _ hd)
  have l1 : arr.size = ks.length := by rw [← Array.length_toList, he, List.length_map]
  have l2 : es.length = ks.length := Paired.length pr
  refine PySem.W.kdl_call (kdl_raw hs hx hdt) (I.ok.hd hc) ho (by omega) fun h' tk acc' c' kp e it => ?_
  have ea : acc'.toList = ks.map fun x => Value.ref x.2.1 := by
    have hl : acc'.toList.length = ks.length := by rw [Array.length_toList, it.1]; exact l1
    apply List.ext_getElem?
    intro j
    rw [List.getElem?_map]
    cases hj : acc'.toList[j]? with
    | none =>
      have h1 := List.getElem?_eq_none_iff.mp hj
      rw [List.getElem?_eq_none (by omega)]
      all_goals rfl
    | some v =>
      obtain ⟨en, hen, hv⟩ := it.2 j v (by rw [← Array.getElem?_toList]; exact hj)
      have qe : arr[j]? = (ks[j]?).map enN := by rw [← Array.getElem?_toList, he, List.getElem?_map]
      rw [hen] at qe
      cases hb : ks[j]? with
      | none =>
        rw [hb] at qe
        exact nomatch (show some en = none from qe)
      | some b =>
        rw [hb] at qe
        have e2 : en = enN b := Option.some.inj qe
        rw [hv, e2]
        all_goals rfl
  have rv : Vals (es.map fun x => V.ref x.2.1) acc'.toList := by rw [ea]; exact pv_refs pr
  have hz : (es.map fun x => V.ref x.2.1).length ≤ sizeLine := by rw [List.length_map]; omega
  refine ⟨.ref s.heap.objs.size, _, I.laid (t' := tk) (o := .lst (es.map fun x => V.ref x.2.1)) kp (Nat.le_refl _) ?_, rfl, q _ (I.hok.fresh (Nat.le_refl _))⟩
  exact ⟨hz, acc'.toList, c', rv, by rw [Array.toArray_toList]; exact e⟩
end
end VL

set_option maxRecDepth 100000
set_option maxHeartbeats 2000000
/-! VL: how values stand in the heap. -/
namespace VL
open PySem L2 Evl

mutual
inductive Rep (K : PySem.W.Frag) (cs : List Addr) (F : Hp) : V → AV → Prop
  | non : Rep K cs F .non .non
  | bl (b : Bool) : Rep K cs F (.bl b) (.bl b)
  | int (i : Int) : Rep K cs F (.int i) (.int i)
  | str (s : Str) : Rep K cs F (.str s) (.str s)
  | tup {a : Addr} {vs : List V} {xs : List AV} : SqT K F a vs → Reps K cs F vs xs → Rep K cs F (.ref a) (.tup xs)
  | lst {a : Addr} {vs : List V} {xs : List AV} : F a = some (.lst vs) → Reps K cs F vs xs → Rep K cs F (.ref a) (.lst xs)
  | ro {a : Addr} {vs : List V} {xs : List AV} : SqL K F a vs → Reps K cs F vs xs → Rep K cs F (.ref a) (.ro xs)
  | dct {a : Addr} {o : Obj} {us : List (Key × V)} {xs : List (Key × AV)} : F a = some (.frz o (.dK us)) → RepK K cs F us xs → Rep K cs F (.ref a) (.dct xs)
  | adr {n : Nat} {a : Addr} : cs[n]? = some a → Rep K cs F (.ref a) (.adr n)
inductive Reps (K : PySem.W.Frag) (cs : List Addr) (F : Hp) : List V → List AV → Prop
  | nil : Reps K cs F [] []
  | cons {v : V} {vs : List V} {d : AV} {ds : List AV} : Rep K cs F v d → Reps K cs F vs ds → Reps K cs F (v :: vs) (d :: ds)
inductive RepK (K : PySem.W.Frag) (cs : List Addr) (F : Hp) : List (Key × V) → List (Key × AV) → Prop
  | nil : RepK K cs F [] []
  | cons {k : Key} {v : V} {vs : List (Key × V)} {d : AV} {ds : List (Key × AV)} : Rep K cs F v d → RepK K cs F vs ds → RepK K cs F ((k, v) :: vs) ((k, d) :: ds)
end
inductive RepN (K : PySem.W.Frag) (cs : List Addr) (F : Hp) : List (NK × Addr × V) → List (NK × AV) → Prop
  | nil : RepN K cs F [] []
  | cons {k : NK} {b : Addr} {v : V} {vs : List (NK × Addr × V)} {d : AV} {ds : List (NK × AV)} : KeyN K F k b → Rep K cs F v d → RepN K cs F vs ds → RepN K cs F ((k, b, v) :: vs) ((k, d) :: ds)
inductive RepF (K : PySem.W.Frag) (cs : List Addr) (F : Hp) : List (Str × V) → List (Str × AV) → Prop
  | nil : RepF K cs F [] []
  | cons {k : Str} {v : V} {vs : List (Str × V)} {d : AV} {ds : List (Str × AV)} : Rep K cs F v d → RepF K cs F vs ds → RepF K cs F ((k, v) :: vs) ((k, d) :: ds)

section
variable {K : PySem.W.Frag} {cs cs' : List Addr} {F F' : Hp}
theorem get_pre {r : List Addr} (hc : cs' = cs ++ r) {n : Nat} {a : Addr} (h : cs[n]? = some a) : cs'[n]? = some a := by
  subst hc
  rw [List.getElem?_append_left (List.getElem?_eq_some_iff.mp h).1]
  exact h
mutual
theorem Rep.mono (e : Ex F F') (hc : ∃ r, cs' = cs ++ r) : ∀ {v : V} {d : AV}, Rep K cs F v d → Rep K cs' F' v d
  | _, _, .non => .non
  | _, _, .bl b => .bl b
  | _, _, .int i => .int i
  | _, _, .str s => .str s
  | _, _, .tup h r => .tup (ex_t e h) (Reps.mono e hc r)
  | _, _, .lst h r => .lst (e _ _ h) (Reps.mono e hc r)
  | _, _, .ro h r => .ro (ex_l e h) (Reps.mono e hc r)
  | _, _, .dct h r => .dct (e _ _ h) (RepK.mono e hc r)
  | _, _, .adr h => .adr (let ⟨_, q⟩ := hc; get_pre q h)
theorem Reps.mono (e : Ex F F') (hc : ∃ r, cs' = cs ++ r) : ∀ {v : List V} {d : List AV}, Reps K cs F v d → Reps K cs' F' v d
  | _, _, .nil => .nil
  | _, _, .cons h r => .cons (Rep.mono e hc h) (Reps.mono e hc r)
theorem RepK.mono (e : Ex F F') (hc : ∃ r, cs' = cs ++ r) : ∀ {v : List (Key × V)} {d : List (Key × AV)}, RepK K cs F v d → RepK K cs' F' v d
  | _, _, .nil => .nil
  | _, _, .cons h r => .cons (Rep.mono e hc h) (RepK.mono e hc r)
end
theorem RepN.mono (e : Ex F F') (hc : ∃ r, cs' = cs ++ r) {v : List (NK × Addr × V)} {d : List (NK × AV)} (h : RepN K cs F v d) : RepN K cs' F' v d := by
  induction h with
  | nil => exact .nil
  | cons hk h _ ih => exact .cons (hk.mono fun _ _ q => ex_t e q) (h.mono e hc) ih
theorem RepN.keys {v : List (NK × Addr × V)} {d : List (NK × AV)} (h : RepN K cs F v d) : ∀ x ∈ v, KeyN K F x.1 x.2.1 := by
  induction h with
  | nil => intro x m; cases m
  | cons hk h _ ih =>
    intro x m
    rcases List.mem_cons.mp m with rfl | m
    · exact hk
    · exact ih x m
theorem RepN.length {v : List (NK × Addr × V)} {d : List (NK × AV)} (h : RepN K cs F v d) : v.length = d.length := by
  induction h with
  | nil => rfl
  | cons hk h _ ih => simp [ih]
theorem RepN.get {vs : List (NK × Addr × V)} {xs : List (NK × AV)} (h : RepN K cs F vs xs) {k : NK} : (∃ v d, valN vs k = some v ∧ getN xs k = some d ∧ Rep K cs F v d) ∨ (valN vs k = none ∧ getN xs k = none) := by
  induction h with
  | nil => exact .inr ⟨rfl, rfl⟩
  | @cons k' b' v' vs' d' ds' hk h _ ih =>
    unfold valN getN
    by_cases q : k' = k
    · subst q
      exact .inl ⟨v', d', by simp [List.find?_cons], by simp [List.find?_cons], h⟩
    · unfold valN getN at ih
      simpa [List.find?_cons, q] using ih
theorem RepN.any {vs : List (NK × Addr × V)} {xs : List (NK × AV)} (h : RepN K cs F vs xs) {k : NK} : (vs.any fun kv => decide (kv.1 = k)) = (xs.any fun kv => decide (kv.1 = k)) := by
  induction h with
  | nil => rfl
  | cons hk h _ ih => simp [ih]
theorem RepN.append {vs ws : List (NK × Addr × V)} {xs ys : List (NK × AV)} (h : RepN K cs F vs xs) (g : RepN K cs F ws ys) : RepN K cs F (vs ++ ws) (xs ++ ys) := by
  induction h with
  | nil => exact g
  | cons hk h _ ih => exact .cons hk h ih
theorem RepN.put {vs : List (NK × Addr × V)} {xs : List (NK × AV)} (h : RepN K cs F vs xs) {k : NK} {b : Addr} {v : V} {d : AV} (hb : KeyN K F k b) (r : Rep K cs F v d) : RepN K cs F (putN vs k b v) (putNK xs k d) := by
  unfold putN putNK
  rw [h.any]
  split
  · rename_i z
    clear z
    induction h with
    | nil => exact .nil
    | @cons k' b' v' vs' d' ds' hk h _ ih =>
      simp only [List.map_cons]
      by_cases q : k' = k
      · rw [if_pos q, if_pos q]; exact .cons hk r ih
      · rw [if_neg q, if_neg q]; exact .cons hk h ih
  · exact h.append (.cons hb r .nil)
theorem RepF.mono (e : Ex F F') (hc : ∃ r, cs' = cs ++ r) {v : List (Str × V)} {d : List (Str × AV)} (h : RepF K cs F v d) : RepF K cs' F' v d := by
  induction h with
  | nil => exact .nil
  | cons h _ ih => exact .cons (h.mono e hc) ih
theorem Reps.length {vs : List V} {xs : List AV} (h : Reps K cs F vs xs) : vs.length = xs.length := by
  revert xs
  induction vs with
  | nil => intro xs h; cases h; rfl
  | cons v vs ih => intro xs h; cases h with | cons h r => simp [ih r]
theorem Reps.get {vs : List V} {xs : List AV} (h : Reps K cs F vs xs) {i : Nat} {d : AV} (e : xs[i]? = some d) : ∃ v, vs[i]? = some v ∧ Rep K cs F v d := by
  revert xs i
  induction vs with
  | nil => intro xs h i e; cases h; simp at e
  | cons v vs ih =>
    intro xs h i e
    cases h with
    | cons h r =>
      cases i with
      | zero => simp at e; subst e; exact ⟨v, rfl, h⟩
      | succ i => simpa using ih r (by simpa using e)
theorem Reps.get' {vs : List V} {xs : List AV} (h : Reps K cs F vs xs) {i : Nat} {v : V} (e : vs[i]? = some v) : ∃ d, xs[i]? = some d ∧ Rep K cs F v d := by
  revert xs i
  induction vs with
  | nil => intro xs h i e; cases h; simp at e
  | cons w vs ih =>
    intro xs h i e
    cases h with
    | cons h r =>
      cases i with
      | zero => simp at e; subst e; exact ⟨_, rfl, h⟩
      | succ i => simpa using ih r (by simpa using e)
theorem Reps.append {vs ws : List V} {xs ys : List AV} (h : Reps K cs F vs xs) (g : Reps K cs F ws ys) : Reps K cs F (vs ++ ws) (xs ++ ys) := by
  revert xs
  induction vs with
  | nil => intro xs h; cases h; exact g
  | cons v vs ih => intro xs h; cases h with | cons h r => exact .cons h (ih r)
theorem Reps.drop {vs : List V} {xs : List AV} (h : Reps K cs F vs xs) (n : Nat) : Reps K cs F (vs.drop n) (xs.drop n) := by
  induction n generalizing vs xs with
  | zero => exact h
  | succ n ih => cases h with
    | nil => exact .nil
    | cons h r => exact ih r
theorem Reps.take {vs : List V} {xs : List AV} (h : Reps K cs F vs xs) (n : Nat) : Reps K cs F (vs.take n) (xs.take n) := by
  induction n generalizing vs xs with
  | zero => exact .nil
  | succ n ih => cases h with
    | nil => exact .nil
    | cons h r => exact .cons h (ih r)
theorem Reps.rev {vs : List V} {xs : List AV} (h : Reps K cs F vs xs) : Reps K cs F vs.reverse xs.reverse := by
  induction vs generalizing xs with
  | nil => cases h; exact .nil
  | cons v vs ih => cases h with
    | cons h r =>
      rw [List.reverse_cons, List.reverse_cons]
      exact (ih r).append (.cons h .nil)
theorem Reps.cut {vs : List V} {xs : List AV} (h : Reps K cs F vs xs) (lo hi : Option Int) : Reps K cs F (cutV vs lo hi) (cut xs lo hi) := by
  unfold cutV VL.cut
  rw [h.length]
  exact (h.drop _).take _
theorem Reps.set {vs : List V} {xs : List AV} (h : Reps K cs F vs xs) {v : V} {d : AV} (r : Rep K cs F v d) (i : Nat) : Reps K cs F (vs.set i v) (xs.set i d) := by
  induction i generalizing vs xs with
  | zero => cases h with
    | nil => exact .nil
    | cons h t => exact .cons r t
  | succ n ih => cases h with
    | nil => exact .nil
    | cons h t => exact .cons h (ih t)
theorem Reps.at {vs : List V} {xs : List AV} (h : Reps K cs F vs xs) {i : Int} {d : AV} (e : atI xs i = some d) : ∃ v, atI vs i = some v ∧ Rep K cs F v d := by
  unfold atI at e ⊢
  rw [h.length]
  cases q : ixN xs.length i with
  | none => rw [q] at e; cases e
  | some j => rw [q] at e; exact h.get e
theorem RepK.length {vs : List (Key × V)} {xs : List (Key × AV)} (h : RepK K cs F vs xs) : vs.length = xs.length := by
  revert xs
  induction vs with
  | nil => intro xs h; cases h; rfl
  | cons v vs ih => intro xs h; cases h with | cons h r => simp [ih r]
theorem RepK.get {vs : List (Key × V)} {xs : List (Key × AV)} (h : RepK K cs F vs xs) {k : Key} : (∃ v d, valV vs k = some v ∧ getD xs k = some d ∧ Rep K cs F v d) ∨ (valV vs k = none ∧ getD xs k = none) := by
  revert xs
  induction vs with
  | nil => intro xs h; cases h; exact .inr ⟨rfl, rfl⟩
  | cons v vs ih =>
    intro xs h
    cases h with
    | cons h r =>
      rename_i k' v' d' ds'
      unfold valV getD
      by_cases q : k' = k
      · subst q
        exact .inl ⟨v', d', by simp [List.find?_cons], by simp [List.find?_cons], h⟩
      · have := ih r
        unfold valV getD at this
        simpa [List.find?_cons, q] using this
theorem RepK.any {vs : List (Key × V)} {xs : List (Key × AV)} (h : RepK K cs F vs xs) {k : Key} : (vs.any fun kv => decide (kv.1 = k)) = (xs.any fun kv => decide (kv.1 = k)) := by
  revert xs
  induction vs with
  | nil => intro xs h; cases h; rfl
  | cons v vs ih =>
    intro xs h
    cases h with
    | cons h r => simp [ih r]
theorem RepK.append {vs ws : List (Key × V)} {xs ys : List (Key × AV)} (h : RepK K cs F vs xs) (g : RepK K cs F ws ys) : RepK K cs F (vs ++ ws) (xs ++ ys) := by
  revert xs
  induction vs with
  | nil => intro xs h; cases h; exact g
  | cons v vs ih => intro xs h; cases h with | cons h r => exact .cons h (ih r)
theorem RepK.mapPut {vs : List (Key × V)} {xs : List (Key × AV)} (h : RepK K cs F vs xs) {k : Key} {v : V} {d : AV} (r : Rep K cs F v d) :
    RepK K cs F (vs.map fun kv => if kv.1 = k then (kv.1, v) else kv) (xs.map fun kv => if kv.1 = k then (kv.1, d) else kv) := by
  revert xs
  induction vs with
  | nil => intro xs h; cases h; exact .nil
  | cons w vs ih =>
    intro xs h
    cases h with
    | cons h t =>
      rename_i k' v' d' ds'
      simp only [List.map_cons]
      by_cases q : k' = k
      · rw [if_pos q, if_pos q]; exact .cons r (ih t)
      · rw [if_neg q, if_neg q]; exact .cons h (ih t)
theorem RepK.put {vs : List (Key × V)} {xs : List (Key × AV)} (h : RepK K cs F vs xs) {k : Key} {v : V} {d : AV} (r : Rep K cs F v d) : RepK K cs F (putK vs k v) (putD xs k d) := by
  unfold putK putD
  rw [h.any]
  split
  · exact h.mapPut r
  · exact h.append (.cons r .nil)
theorem RepF.get {vs : List (Str × V)} {xs : List (Str × AV)} (h : RepF K cs F vs xs) {k : Str} {d : AV} (e : xs.lookup k = some d) : ∃ v, vs.lookup k = some v ∧ Rep K cs F v d := by
  induction h with
  | nil => simp at e
  | cons h r ih =>
    rw [List.lookup_cons] at e ⊢
    split at e
    · cases e
      exact ⟨_, rfl, h⟩
    · exact ih e
theorem RepF.none {vs : List (Str × V)} {xs : List (Str × AV)} (h : RepF K cs F vs xs) {k : Str} (e : xs.lookup k = none) : vs.lookup k = none := by
  induction h with
  | nil => rfl
  | cons h r ih =>
    rw [List.lookup_cons] at e ⊢
    split at e
    · cases e
    · exact ih e
theorem RepF.length {vs : List (Str × V)} {xs : List (Str × AV)} (h : RepF K cs F vs xs) : vs.length = xs.length := by
  induction h with
  | nil => rfl
  | cons h r ih => simp [ih]
theorem RepF.put {vs : List (Str × V)} {xs : List (Str × AV)} (h : RepF K cs F vs xs) {f : Str} {v : V} {d : AV} (r : Rep K cs F v d) : RepF K cs F (putF f v vs) (putFA f d xs) := by
  induction h with
  | nil => exact .cons r .nil
  | cons h t ih =>
    rename_i k v' vs' d' ds'
    show RepF K cs F (if k = f then (k, v) :: vs' else (k, v') :: putF f v vs') (if k = f then (k, d) :: ds' else (k, d') :: putFA f d ds')
    by_cases q : k = f
    · rw [if_pos q, if_pos q]; exact .cons r t
    · rw [if_neg q, if_neg q]; exact .cons h ih
theorem Reps.ints {vs : List V} {xs : List AV} (h : Reps K cs F vs xs) {ns : List Int} (e : asInts xs = some ns) : vs = ns.map V.int := by
  revert xs ns
  induction vs with
  | nil => intro xs h ns e; cases h; simp [asInts] at e; subst e; rfl
  | cons v vs ih =>
    intro xs h ns e
    cases h with
    | cons h r =>
      cases h <;> simp [asInts] at e
      obtain ⟨l, e1, e2⟩ := e
      subst e2
      rw [ih r e1]; rfl
theorem Reps.bools {vs : List V} {xs : List AV} (h : Reps K cs F vs xs) {ns : List Bool} (e : asBools xs = some ns) : vs = ns.map V.bl := by
  revert xs ns
  induction vs with
  | nil => intro xs h ns e; cases h; simp [asBools] at e; subst e; rfl
  | cons v vs ih =>
    intro xs h ns e
    cases h with
    | cons h r =>
      cases h <;> simp [asBools] at e
      obtain ⟨l, e1, e2⟩ := e
      subst e2
      rw [ih r e1]; rfl
theorem Reps.strs {vs : List V} {xs : List AV} (h : Reps K cs F vs xs) {ns : List Str} (e : asStrs xs = some ns) : vs = ns.map V.str := by
  revert xs ns
  induction vs with
  | nil => intro xs h ns e; cases h; simp [asStrs] at e; subst e; rfl
  | cons v vs ih =>
    intro xs h ns e
    cases h with
    | cons h r =>
      cases h <;> simp [asStrs] at e
      obtain ⟨l, e1, e2⟩ := e
      subst e2
      rw [ih r e1]; rfl
theorem ni_rep {v : V} {d : AV} {k : NI} (r : Rep K cs F v d) (e : niOf d = some k) : itV K F k v := by
  cases r <;> simp only [niOf] at e <;> try cases e
  · rfl
  · rename_i a vs xs h r
    obtain ⟨ns, e1, e2⟩ := Option.map_eq_some_iff.mp e
    subst e2
    have := r.ints e1
    subst this
    exact ⟨a, rfl, h⟩
theorem nis_rep : ∀ {vs : List V} {xs : List AV} {k : NK}, Reps K cs F vs xs → nisOf xs = some k → Paired (itV K F) k vs
  | _, _, _, .nil, e => by simp [nisOf] at e; subst e; exact .nil
  | _, _, k, .cons h r, e => by
    simp only [nisOf] at e
    split at e
    · rename_i k1 ks1 e1 e2
      cases e
      exact .cons (ni_rep h e1) (nis_rep r e2)
    · cases e
theorem nk_rep {v : V} {d : AV} {k : NK} (r : Rep K cs F v d) (e : nkOf d = some k) : ∃ b, v = .ref b ∧ KeyN K F k b := by
  cases r <;> simp only [nkOf] at e <;> try cases e
  rename_i a vs xs h r
  exact ⟨a, rfl, vs, h, nis_rep r e⟩
theorem ints_rep : ∀ ns : List Int, Reps K cs F (ns.map V.int) (ns.map AV.int)
  | [] => .nil
  | n :: ns => .cons (.int n) (ints_rep ns)
theorem rep_nk {k : NK} {b : Addr} (h : KeyN K F k b) : Rep K cs F (.ref b) (nkA k) := by
  obtain ⟨vs, h1, h2⟩ := h
  refine .tup h1 ?_
  clear h1
  induction h2 with
  | nil => exact .nil
  | @cons k v ks vs h t ih =>
    refine .cons ?_ ih
    cases k with
    | inl i =>
      have h : v = .int i := h
      subst h
      exact .int i
    | inr ls =>
      obtain ⟨b', rfl, hq⟩ := h
      exact .tup hq (ints_rep ls)
theorem RepN.list {vs : List (NK × Addr × V)} {xs : List (NK × AV)} (h : RepN K cs F vs xs) : Reps K cs F (vs.map fun x => V.ref x.2.1) (xs.map fun kv => nkA kv.1) := by
  induction h with
  | nil => exact .nil
  | cons hk h _ ih => exact .cons (rep_nk hk) ih
mutual
theorem Rep.dp {H : Hp} (e : Ex F H) : ∀ {v : V} {d : AV}, Rep K cs F v d → ∀ {p : PyData}, pd d = some p → Dp K H v p
  | _, _, .non, _, q => by simp [pd] at q; subst q; exact .non
  | _, _, .bl b, _, q => by simp [pd] at q; subst q; exact .bl b
  | _, _, .int i, _, q => by simp [pd] at q; subst q; exact .int i
  | _, _, .str s, _, q => by simp [pd] at q; subst q; exact .str s
  | _, _, .tup h r, _, q => by
    simp [pd] at q
    obtain ⟨l, e1, e2⟩ := q
    subst e2
    exact .tup (ex_t e h) (Reps.dp e r e1)
  | _, _, .lst h r, _, q => by
    simp [pd] at q
    obtain ⟨l, e1, e2⟩ := q
    subst e2
    exact .lst (sq_of (e _ _ h)) (Reps.dp e r e1)
  | _, _, .ro h r, _, q => by
    simp [pd] at q
    obtain ⟨l, e1, e2⟩ := q
    subst e2
    exact .lst (ex_l e h) (Reps.dp e r e1)
  | _, _, .dct h r, _, q => by simp [pd] at q
  | _, _, .adr h, _, q => by simp [pd] at q
theorem Reps.dp {H : Hp} (e : Ex F H) : ∀ {v : List V} {d : List AV}, Reps K cs F v d → ∀ {p : List PyData}, pds d = some p → DpAll K H v p
  | _, _, .nil, _, q => by simp [pds] at q; subst q; exact .nil
  | _, _, .cons h r, _, q => by
    simp [pds, Option.bind_eq_some_iff] at q
    obtain ⟨d1, e1, l, e2, e3⟩ := q
    subst e3
    exact .cons (Rep.dp e h e1) (Reps.dp e r e2)
end
end

/-! ### states -/
def COk (K : PySem.W.Frag) (Cl : Nat → Addr) (cs : List Addr) (F H : Hp) (a : Addr) : Cell → Prop
  | .lst xs => ∃ vs, H a = some (.lst vs) ∧ Reps K cs F vs xs
  | .dct xs => ∃ us, H a = some (.dK us) ∧ RepK K cs F us xs
  | .dctN xs => ∃ es, H a = some (.ext (DN a es)) ∧ RepN K cs F es xs
  | .obj c fs => ∃ dx fvs, H a = some (.ins (Cl c) dx fvs) ∧ RepF K cs F fvs fs
  | .dead => H a ≠ none
structure StOk (K : PySem.W.Frag) (Cl : Nat → Addr) (cs : List Addr) (F H : Hp) (h : AHeap) : Prop where
  sub : Ex F H
  len : cs.length = h.length
  nd : cs.Nodup
  cell : ∀ n a, cs[n]? = some a → COk K Cl cs F H a (cells h n)
  free : ∀ a, a ∈ cs → F a = none
structure Stp (cs : List Addr) (F H : Hp) (cs' : List Addr) (F' H' : Hp) : Prop where
  f : Ex F F'
  c : ∃ r, cs' = cs ++ r
  k : ∀ b o, H b = some o → b ∉ cs → H' b = some o
  d : ∀ b, H b ≠ none → H' b ≠ none
  n : ∀ b, F b = none → F' b ≠ none → H b = none
  m : ∀ b, b ∈ cs' → b ∉ cs → H b = none
structure EnvOk (K : PySem.W.Frag) (Cl : Nat → Addr) (cs : List Addr) (F H : Hp) (σ : L2.St) (ρ : Env) : Prop where
  len : ρ.length = σ.length
  val : ∀ i d, getS ρ i = .val d → ∃ v, σ[i]? = some (some v) ∧ Rep K cs F v d
  own : ∀ i c, getS ρ i = .own c → ∃ a, σ[i]? = some (some (.ref a)) ∧ a ∉ cs ∧ F a = none ∧ COk K Cl cs F H a c
  dis : ∀ i j c c' a, i ≠ j → getS ρ i = .own c → getS ρ j = .own c' → σ[i]? = some (some (.ref a)) → σ[j]? ≠ some (some (.ref a))

section
variable {K : PySem.W.Frag} {Cl : Nat → Addr} {cs cs' cs'' : List Addr} {F F' F'' H H' H'' : Hp} {σ : L2.St} {ρ : Env} {h h' : AHeap} {a : Addr} {c : Cell}
theorem COk.some (x : COk K Cl cs F H a c) : H a ≠ none := by
  cases c with
  | lst xs => obtain ⟨vs, e, _⟩ := x; rw [e]; simp
  | dct xs => obtain ⟨vs, e, _⟩ := x; rw [e]; simp
  | dctN xs => obtain ⟨vs, e, _⟩ := x; rw [e]; simp
  | obj c fs => obtain ⟨dx, vs, e, _⟩ := x; rw [e]; simp
  | dead => exact x
/-- the object at a as it was -/
theorem COk.mono (x : COk K Cl cs F H a c) (e : Ex F F') (hc : ∃ r, cs' = cs ++ r) (k : ∀ o, H a = Option.some o → H' a = Option.some o) : COk K Cl cs' F' H' a c := by
  cases c with
  | lst xs => obtain ⟨vs, q, r⟩ := x; exact ⟨vs, k _ q, r.mono e hc⟩
  | dct xs => obtain ⟨vs, q, r⟩ := x; exact ⟨vs, k _ q, r.mono e hc⟩
  | dctN xs => obtain ⟨vs, q, r⟩ := x; exact ⟨vs, k _ q, r.mono e hc⟩
  | obj c fs => obtain ⟨dx, vs, q, r⟩ := x; exact ⟨dx, vs, k _ q, r.mono e hc⟩
  | dead =>
    show H' a ≠ none
    have x' : H a ≠ none := x
    cases q : H a with
    | none => exact absurd q x'
    | some o => rw [k o q]; simp
theorem Stp.refl : Stp cs F H cs F H := ⟨fun _ _ h => h, ⟨[], by simp⟩, fun _ _ h _ => h, fun _ h => h, fun b h1 h2 => absurd h1 h2, fun b h1 h2 => absurd h1 h2⟩
theorem Stp.trans (x : Stp cs F H cs' F' H') (y : Stp cs' F' H' cs'' F'' H'') : Stp cs F H cs'' F'' H'' where
  f := x.f.trans y.f
  c := by
    obtain ⟨r, e⟩ := x.c
    obtain ⟨s, e2⟩ := y.c
    exact ⟨r ++ s, by rw [e2, e, List.append_assoc]⟩
  k := fun b o e n => y.k b o (x.k b o e n) fun z => by
    have := x.m b z n
    rw [e] at this; cases this
  d := fun b e => y.d b (x.d b e)
  n := fun b e1 e2 => by
    by_cases q : F' b = none
    · have z := y.n b q e2
      cases w : H b with
      | none => rfl
      | some o => exact absurd z (x.d b (by rw [w]; simp))
    · exact x.n b e1 q
  m := fun b e1 e2 => by
    by_cases q : b ∈ cs'
    · exact x.m b q e2
    · have z := y.m b e1 q
      cases w : H b with
      | none => rfl
      | some o => exact absurd z (x.d b (by rw [w]; simp))
theorem Stp.fresh (x : Stp cs F H cs' F' H') {b : Addr} (h : H' b = none) : H b = none := by
  cases w : H b with
  | none => rfl
  | some o => exact absurd h (x.d b (by rw [w]; simp))
theorem EnvOk.step (E : EnvOk K Cl cs F H σ ρ) (x : Stp cs F H cs' F' H') : EnvOk K Cl cs' F' H' σ ρ where
  len := E.len
  val := fun i d e => by
    obtain ⟨v, q, r⟩ := E.val i d e
    exact ⟨v, q, r.mono x.f x.c⟩
  own := fun i c e => by
    obtain ⟨a, q, n1, n2, r⟩ := E.own i c e
    have hs := r.some
    refine ⟨a, q, fun z => hs (x.m a z n1), ?_, r.mono x.f x.c fun o ho => x.k a o ho n1⟩
    cases w : F' a with
    | none => rfl
    | some o => exact absurd (x.n a n2 (by rw [w]; simp)) hs
  dis := E.dis

/-! ### cells, slots -/
theorem cells_app {n : Nat} (hn : n < h.length) : cells (h ++ h') n = cells h n := by
  unfold cells
  rw [List.getElem?_append_left hn]
theorem cells_new : cells (h ++ [c]) h.length = c := by
  unfold cells
  simp
theorem cells_set_same {n : Nat} (hn : n < h.length) : cells (h.set n c) n = c := by
  unfold cells
  simp [hn]
theorem cells_set_ne {n m : Nat} (hn : n ≠ m) : cells (h.set n c) m = cells h m := by
  unfold cells
  rw [List.getElem?_set_ne hn]
theorem getS_set_same {i : Nat} {v : Slot} (hi : i < ρ.length) : getS (setS ρ i v) i = v := by
  induction ρ generalizing i with
  | nil => cases hi
  | cons x r ih => cases i with
    | zero => rfl
    | succ i => exact ih (by simpa using hi)
theorem getS_set_ne {i j : Nat} {v : Slot} (hi : i ≠ j) : getS (setS ρ i v) j = getS ρ j := by
  induction ρ generalizing i j with
  | nil => rfl
  | cons x r ih => cases i with
    | zero => cases j with
      | zero => exact absurd rfl hi
      | succ j => rfl
    | succ i => cases j with
      | zero => rfl
      | succ j => exact ih (fun e => hi (by rw [e]))
theorem setS_length {i : Nat} {v : Slot} : (setS ρ i v).length = ρ.length := by
  induction ρ generalizing i with
  | nil => rfl
  | cons x r ih => cases i with
    | zero => rfl
    | succ i => simp [setS, ih]
theorem getS_lt {i : Nat} (h : getS ρ i ≠ .no) : i < ρ.length := by
  induction ρ generalizing i with
  | nil => exact absurd rfl h
  | cons x r ih => cases i with
    | zero => simp
    | succ i => simpa using ih h
theorem setS_out {i : Nat} {v : Slot} (hi : ρ.length ≤ i) : setS ρ i v = ρ := by
  induction ρ generalizing i with
  | nil => rfl
  | cons x r ih => cases i with
    | zero => simp at hi
    | succ i => simp only [setS]; rw [ih (by simpa using hi)]
/-- a slot is given a value -/
theorem EnvOk.setV (E : EnvOk K Cl cs F H σ ρ) {i : Nat} {v : V} {d : AV} (r : Rep K cs F v d) : EnvOk K Cl cs F H (σ.set i (some v)) (setS ρ i (.val d)) := by
  by_cases hi : i < ρ.length
  · have hs : i < σ.length := by rw [← E.len]; exact hi
    refine ⟨by rw [setS_length, List.length_set, E.len], fun j e h => ?_, fun j c h => ?_, fun j k c c' a ne h1 h2 h3 => ?_⟩
    · by_cases hj : i = j
      · subst hj
        rw [getS_set_same hi] at h
        cases h
        exact ⟨v, by rw [List.getElem?_set_self hs], r⟩
      · rw [getS_set_ne hj] at h
        rw [List.getElem?_set_ne hj]
        exact E.val j e h
    · by_cases hj : i = j
      · subst hj
        rw [getS_set_same hi] at h
        cases h
      · rw [getS_set_ne hj] at h
        rw [List.getElem?_set_ne hj]
        exact E.own j c h
    · have n1 : i ≠ j := fun z => by subst z; rw [getS_set_same hi] at h1; cases h1
      have n2 : i ≠ k := fun z => by subst z; rw [getS_set_same hi] at h2; cases h2
      rw [getS_set_ne n1] at h1
      rw [getS_set_ne n2] at h2
      rw [List.getElem?_set_ne n1] at h3
      rw [List.getElem?_set_ne n2]
      exact E.dis j k c c' a ne h1 h2 h3
  · have hi' : ρ.length ≤ i := by omega
    have hs : σ.length ≤ i := by rw [← E.len]; exact hi'
    rw [setS_out hi', List.set_eq_of_length_le hs]
    exact E
/-- a slot is forgotten -/
theorem EnvOk.setN (E : EnvOk K Cl cs F H σ ρ) {i : Nat} {v : Option V} : EnvOk K Cl cs F H (σ.set i v) (setS ρ i .no) := by
  by_cases hi : i < ρ.length
  · refine ⟨by rw [setS_length, List.length_set, E.len], fun j e h => ?_, fun j c h => ?_, fun j k c c' a ne h1 h2 h3 => ?_⟩
    · by_cases hj : i = j
      · subst hj
        rw [getS_set_same hi] at h
        cases h
      · rw [getS_set_ne hj] at h
        rw [List.getElem?_set_ne hj]
        exact E.val j e h
    · by_cases hj : i = j
      · subst hj
        rw [getS_set_same hi] at h
        cases h
      · rw [getS_set_ne hj] at h
        rw [List.getElem?_set_ne hj]
        exact E.own j c h
    · have n1 : i ≠ j := fun z => by subst z; rw [getS_set_same hi] at h1; cases h1
      have n2 : i ≠ k := fun z => by subst z; rw [getS_set_same hi] at h2; cases h2
      rw [getS_set_ne n1] at h1
      rw [getS_set_ne n2] at h2
      rw [List.getElem?_set_ne n1] at h3
      rw [List.getElem?_set_ne n2]
      exact E.dis j k c c' a ne h1 h2 h3
  · have hi' : ρ.length ≤ i := by omega
    have hs : σ.length ≤ i := by rw [← E.len]; exact hi'
    rw [setS_out hi', List.set_eq_of_length_le hs]
    exact E
theorem EnvOk.wipe (E : EnvOk K Cl cs F H σ ρ) (vs : List Nat) : EnvOk K Cl cs F H (wipe σ vs) (wipeS ρ vs) := by
  induction vs with
  | nil => exact E
  | cons v vs ih => exact ih.setN
/-- a slot's own cell: new, or changed -/
theorem EnvOk.setO (E : EnvOk K Cl cs F H σ ρ) {i : Nat} {a : Addr} {c : Cell} {o : HO} (n1 : a ∉ cs) (n2 : F a = none) (r : COk K Cl cs F (upd H a o) a c)
    (old : ∀ j c', j ≠ i → getS ρ j = .own c' → σ[j]? ≠ some (some (.ref a))) : EnvOk K Cl cs F (upd H a o) (σ.set i (some (.ref a))) (setS ρ i (.own c)) := by
  have key : ∀ {j c'} , j ≠ i → getS ρ j = .own c' → ∃ b, σ[j]? = some (some (.ref b)) ∧ b ∉ cs ∧ F b = none ∧ COk K Cl cs F (upd H a o) b c' := fun {j c'} hj h => by
    obtain ⟨b, e1, e2, e3, e4⟩ := E.own j c' h
    refine ⟨b, e1, e2, e3, e4.mono (fun _ _ q => q) ⟨[], by simp⟩ fun u hu => ?_⟩
    rw [upd_ne]
    · exact hu
    · intro z
      subst z
      exact old j c' hj h e1
  by_cases hi : i < ρ.length
  · have hs : i < σ.length := by rw [← E.len]; exact hi
    refine ⟨by rw [setS_length, List.length_set, E.len], fun j e h => ?_, fun j c h => ?_, fun j k c1 c2 b ne h1 h2 h3 => ?_⟩
    · by_cases hj : i = j
      · subst hj
        rw [getS_set_same hi] at h
        cases h
      · rw [getS_set_ne hj] at h
        rw [List.getElem?_set_ne hj]
        exact E.val j e h
    · by_cases hj : i = j
      · subst hj
        rw [getS_set_same hi] at h
        cases h
        exact ⟨a, by rw [List.getElem?_set_self hs], n1, n2, r⟩
      · rw [getS_set_ne hj] at h
        rw [List.getElem?_set_ne hj]
        exact key (Ne.symm hj) h
    · by_cases hj : i = j
      · subst hj
        rw [List.getElem?_set_self hs] at h3
        cases h3
        rw [getS_set_ne ne] at h2
        rw [List.getElem?_set_ne ne]
        exact old k c2 (Ne.symm ne) h2
      · by_cases hk : i = k
        · subst hk
          rw [List.getElem?_set_self hs]
          rw [getS_set_ne hj] at h1
          rw [List.getElem?_set_ne hj] at h3
          intro z
          cases z
          exact old j c1 (Ne.symm hj) h1 h3
        · rw [getS_set_ne hj] at h1
          rw [getS_set_ne hk] at h2
          rw [List.getElem?_set_ne hj] at h3
          rw [List.getElem?_set_ne hk]
          exact E.dis j k c1 c2 b ne h1 h2 h3
  · have hi' : ρ.length ≤ i := by omega
    have hs : σ.length ≤ i := by rw [← E.len]; exact hi'
    rw [setS_out hi', List.set_eq_of_length_le hs]
    refine ⟨E.len, E.val, fun j c h => ?_, E.dis⟩
    have hj : j ≠ i := fun z => by
      subst z
      exact absurd (getS_lt (ρ := ρ) (i := j) (by rw [h]; simp)) hi
    exact key hj h
end
end VL

set_option maxRecDepth 100000
set_option maxHeartbeats 2000000
/-! VL: ranges whose ends are of any size. -/
namespace PySem
section
variable {prog : Program} {w : World} {A : Around} {E : Value → Shared → Prop} {s : Shared}
theorem vl_extend_long {R : Result → Shared → Prop} {r : Addr} {a b c : Int} {t u v : Tok} {n : Nat} (hh : A.handled = none) (hr : IsRange s.heap r a b c t u v) (hbig : Builtin.Range.small a b c = false)
    (hn : Builtin.Range.rangeSize a b c = n) (hlen : n ≤ 2 ^ 24) (S : Addr) (res : Value) (c₀ : Nat) (hS : s.heap.get? S = some { cls := .type "list", data := .seq #[] c₀ })
    (hR : ∀ h' tk acc' c', (∀ b o, b ≠ S → s.heap.get? b = some o → h'.get? b = some o) → h'.get? S = some { cls := .type "list", dict := none, data := .seq acc' c', slots := #[] } →
      ItemsOf (fun i v => ∃ t, v = .int (a + i * c) t) acc' n → R (.ok (.ret res)) { s with heap := h', toks := tk }) :
    wpAny (model prog w) A.in1 (Builtin.List.listExtendWith (.ref S) (.ref r) res)
      (fun fin s' => match fin with | .done f => R (.ok f) s' | .again c' => c'.quiet = true ∧ codeAny (model prog w) A c' R s') (fun e s' => R (.error e) s') s := by
  have hSr : S ≠ r := fun e => by rw [e, hr] at hS; simp at hS
  have hSlt : S < s.heap.objs.size := Heap.lt_size hS
  have hSI : S ≠ s.heap.objs.size := Nat.ne_of_lt hSlt
  have hSf : S ∉ [s.heap.objs.size] := fun hm => hSI (List.mem_singleton.mp hm)
  have W := (Walks.longrange (prog := prog) (w := w) (A := A.in1) hh s.heap.objs.size a c n).toS
  have key : ∀ (h : Heap) (c₁ tk : Nat), IsLongIter h s.heap.objs.size (a + ((0 : Nat) : Int) * c) ((n : Int) - ((0 : Nat) : Int)) c → (∀ b o, b ≠ S → s.heap.get? b = some o → h.get? b = some o) →
      h.get? S = some { cls := .type "list", data := .seq #[] c₁ } → codeAny (model prog w) A (.builtin "list.extend.loop" ⟨[.ref S, .ref s.heap.objs.size, res], []⟩) R { s with heap := h, toks := tk } := by
    intro h c₁ tk hit hk hS₁
    refine codeAny_extend_loopS W (by rw [sizeLine_eq]; omega) S hSf res n 0 _ #[] c₁ rfl (Nat.zero_le _) hit hS₁ (ItemsOf.nil _) fun s' acc' c' hm hS' hacc => ?_
    rw [Moved.eq_with hm]
    refine hR s'.heap s'.toks acc' c' (fun b o hb e => hm.heap b o (fun hmem => ?_) (hk b o hb e)) hS' hacc
    rcases List.mem_cons.mp hmem with e' | hmem
    · exact hb e'
    · exact absurd (Heap.lt_size e) (by rw [List.mem_singleton.mp hmem]; exact Nat.lt_irrefl _)
  unfold Builtin.List.listExtendWith
  refine wpAny_bind (wpAny_typeOf (T := "range") ⟨_, hr, rfl⟩ ?_)
  have h1 : Builtin.List.listSameRef (.ref S) (.ref r) = false := by simp [Builtin.List.listSameRef, hSr]
  have h2 : (Value.type "range" == Value.type "list") = false := by decide
  have h3 : (Value.type "range" == Value.type "tuple") = false := by decide
  simp only [h1, h2, h3, Bool.or_false, Bool.false_eq_true, if_false]
  refine wpAny_bind (wpAny_pyIter_longrange hr hbig ?_)
  refine wpAny_bind (wpAny_holding (wpAny_hint_range (n := n) (Heap.get?_push_of_some _ hr) hn hlen ?_))
  have hit₁ : IsLongIter (s.heap.push { cls := .type "longrange_iterator", data := .fields #[rawInt a, rawInt (Builtin.Range.rangeSize a b c), rawInt c] }) s.heap.objs.size (a + ((0 : Nat) : Int) * c) ((n : Int) - ((0 : Nat) : Int)) c := by
    show IsLongIter _ _ _ _ _; rw [hn]; simpa using Heap.get?_push_size _ rfl
  have hS₁ := Heap.get?_push_of_some { cls := .type "longrange_iterator", data := .fields #[rawInt a, rawInt (Builtin.Range.rangeSize a b c), rawInt c] } hS
  refine wpAny_ite_split (fun _ => ?_) (fun _ => wpAny_pure ⟨plainId_quiet F.plain_extend_loop _, key _ c₀ _ hit₁ (fun b o _ e => Heap.get?_push_of_some _ e) hS₁⟩)
  refine wpAny_bind (wpAny_rule ?_)
  refine wpAny_bind ?_
  show wpAny _ _ (updateSeq S (·.push .none) >>= fun _ => updateSeq S (·.pop)) _ _ _
  refine wpAny_bind (wpAny_updateSeq hS₁ rfl ?_)
  have hS₂ := Heap.get?_update_self (Obj.mapSeq (·.push Value.none)) hS₁ rfl
  refine wpAny_updateSeq (hz := by seq_fits) hS₂ rfl ?_
  have hS₃ := Heap.get?_update_self (Obj.mapSeq (·.pop)) hS₂ rfl
  refine wpAny_pure ⟨plainId_quiet F.plain_extend_loop _, key _ _ _ ?_ (fun b o hb e => ?_) hS₃⟩
  · exact (Heap.get?_update_other _ _ hSI).trans ((Heap.get?_update_other _ _ hSI).trans hit₁)
  · exact (Heap.get?_update_other _ _ (Ne.symm hb)).trans ((Heap.get?_update_other _ _ (Ne.symm hb)).trans (Heap.get?_push_of_some _ e))
theorem vl_init_long {R : Result → Shared → Prop} {r : Addr} {a b c : Int} {t u v : Tok} {n : Nat} (hh : A.handled = none) (hr : IsRange s.heap r a b c t u v) (hbig : Builtin.Range.small a b c = false)
    (hn : Builtin.Range.rangeSize a b c = n) (hlen : n ≤ 2 ^ 24) (S : Addr) (hS : s.heap.get? S = some { cls := .type "list", data := .seq #[] })
    (hR : ∀ h' tk acc' c', (∀ b o, b ≠ S → s.heap.get? b = some o → h'.get? b = some o) → h'.get? S = some { cls := .type "list", dict := none, data := .seq acc' c', slots := #[] } →
      ItemsOf (fun i v => ∃ t, v = .int (a + i * c) t) acc' n → R (.ok (.ret .none)) { s with heap := h', toks := tk }) :
    wpAny (model prog w) A.in1 (Builtin.«list.__init__» ⟨[.ref S, .ref r], []⟩)
      (fun fin s' => match fin with | .done f => R (.ok f) s' | .again c' => c'.quiet = true ∧ codeAny (model prog w) A c' R s') (fun e s' => R (.error e) s') s := by
  have hSr : S ≠ r := fun e => by rw [e, hr] at hS; simp at hS
  show wpAny _ _ (do let old ← Builtin.List.listItems (.ref S); Builtin.List.listUpdate (.ref S) (fun _ => #[]); letGo old.toList.reverse; Builtin.List.listExtendWith (.ref S) (.ref r) .none) _ _ s
  refine wpAny_bind ?_
  unfold Builtin.List.listItems
  refine wpAny_bind (wpAny_seqItems hS rfl (wpAny_pure ?_))
  show wpAny _ _ (updateSeq S (fun _ => #[]) >>= fun _ => letGo (#[] : Array Value).toList.reverse >>= fun _ => Builtin.List.listExtendWith (.ref S) (.ref r) .none) _ _ s
  refine wpAny_bind (wpAny_updateSeq hS rfl ?_)
  have hS₂ := Heap.get?_update_self (Obj.mapSeq (fun _ => (#[] : Array Value))) hS rfl
  have oth : ∀ b o, b ≠ S → s.heap.get? b = some o → (s.heap.update S (Obj.mapSeq (fun _ => (#[] : Array Value)))).get? b = some o :=
    fun b o hb e => (Heap.get?_update_other _ _ (Ne.symm hb)).trans e
  refine wpAny_bind (wpAny_letGo ?_)
  refine vl_extend_long hh (oth r _ (Ne.symm hSr) hr) hbig hn hlen S .none _ hS₂ fun h' tk acc' c' hk hS' hacc => ?_
  exact hR h' tk acc' c' (fun b o hb e => hk b o hb (oth b o hb e)) hS' hacc
theorem vl_list_range {Q : Value → Shared → Prop} {r : Addr} {a b c : Int} {t u v : Tok} {n : Nat} (hh : A.handled = none) (hr : IsRange s.heap r a b c t u v) (hn : Builtin.Range.rangeSize a b c = n) (hlen : n ≤ 2 ^ 24)
    (hQ : ∀ h' tk acc' c', (∀ b o, s.heap.get? b = some o → h'.get? b = some o) →
      h'.get? s.heap.objs.size = some { cls := .type "list", dict := none, data := .seq acc' c', slots := #[] } → ItemsOf (fun i v => ∃ t, v = .int (a + i * c) t) acc' n → Q (.ref s.heap.objs.size) { s with heap := h', toks := tk }) :
    wpAny (model prog w) A (call (.type "list") [.ref r]) Q E s := by
  cases sm : Builtin.Range.small a b c with
  | true => exact call_list_range hh hr sm hn hlen hQ
  | false =>
    refine callType_codes (Q₁ := fun obj s₁ => obj = .ref s.heap.objs.size ∧ s₁ = { s with heap := s.heap.push { cls := .type "list", data := .seq #[] } }) F.called_list (F.typeCall_list_1 _) F.entry_list_init
      (code_list_new _ ⟨rfl, rfl⟩) fun obj s₁ h₁ => ?_
    obtain ⟨rfl, rfl⟩ := h₁
    have hS : (s.heap.push { cls := .type "list", data := .seq #[] }).get? s.heap.objs.size = some { cls := .type "list", data := .seq #[] } := Heap.get?_push_size _ rfl
    refine ⟨⟨_, hS, rfl⟩, F.args_list_init_2 _ _, vl_init_long (A := A.in1) hh (Heap.get?_push_of_some _ hr) sm hn hlen _ hS fun h' tk acc' c' hk hS' hacc => ?_⟩
    exact ⟨rfl, hQ h' tk acc' c' (fun b o e => hk b o (Nat.ne_of_lt (Heap.lt_size e)) (Heap.get?_push_of_some _ e)) hS' hacc⟩
end
end PySem
namespace L2
open PySem PySem.Spec PyProof.Rows
theorem vl_turn_long {P : Program} {w : World} {K : PySem.W.Frag} {tg : Expr} (it : Addr) (lo : Int) (n : Nat) : Turn P w K tg (Itr lo n) [it] it (fun i h => IsLongIter h it (lo + (i : Nat) * 1) ((n : Int) - (i : Nat)) 1) where
  mem := by simp
  obj := fun i h st b hb => by
    have e : b = it := by simpa using hb
    subst e
    exact ⟨_, st, fun v z => by
      have z' : Data.fields _ = Data.cell v := z
      cases z'⟩
  keep := fun i h h' st k => k it (by simp) _ st
  item := by
    intro X hP hw hK hc i pins s σ H E I hf st hg
    subst hP hw hK
    obtain ⟨f0, f1, f2, f3, f4, f5⟩ := hf it (by simp)
    have W := Walks.longrange (prog := X.prog) (w := X.w) (I.ok.hd hc) it lo 1 n
    refine W.item i s _ _ hg st fun v h' tk hv st' kk => ?_
    obtain ⟨t, rfl⟩ := hv
    have I1 : Inv X pins σ H { s with heap := h', toks := tk } := I.turned (fun b o hb e => kk b o (by simpa using hb) e) f0 f1 f3 f4 f5
    refine ⟨_, rfl, go_of (s := { s with heap := h', toks := tk }) (n := "longrange_iterator") st' rfl rfl (by decide) ⟨.int (lo + i), H, I1, ⟨t, ?_⟩, ⟨rfl, rfl⟩, st', fun b hb => (hf b hb).1⟩⟩
    rw [Int.mul_one]
  done := by
    intro X hP hw hK hc i pins s σ H E I hf st hg
    subst hP hw hK
    obtain ⟨f0, f1, f2, f3, f4, f5⟩ := hf it (by simp)
    exact wpAny_pyNext_long_end (I.ok.hd hc) st (by have : n ≤ i := hg; omega) fun h' eb => ⟨rfl, I.turned (t' := s.toks) (fun b o hb e => eb b o hb e) f0 f1 f3 f4 f5⟩
  self := fun _ _ _ _ _ st h => wpAny_pyIter_longiter st h
section
variable {X : Cx} {tg : Expr}
/-- a range object just made, walked, its ends of any size -/
theorem vl_range_it {pins : List (Addr × Obj)} {σ : St} {H : Hp} {s : Shared} {R : It → Hp → Prop} {E : Value → Shared → Prop} {lo hi : Int} {t u v : Tok} {tk : Nat} (I : Inv X pins σ H s)
    (q : R (Itr lo (hi - lo).toNat) H) : wpAny (model X.prog X.w) X.A (pyIter (.ref s.heap.objs.size)) (PIE X pins σ tg R) E { s with heap := s.heap.push { cls := .type "range", data := .fields #[.int lo t, .int hi u, .int 1 v] }, toks := tk } := by
  have e1 : lo + ((0 : Nat) : Int) * 1 = lo := by simp
  have e2 : (((hi - lo).toNat : Nat) : Int) - ((0 : Nat) : Int) = Builtin.Range.rangeSize lo hi 1 := by rw [rangeSize_one]; split <;> omega
  have I1 : Inv X pins σ H { s with heap := s.heap.push { cls := .type "range", data := .fields #[.int lo t, .int hi u, .int 1 v] }, toks := tk } := I.kept fun b o e => Heap.get?_push_of_some _ e
  cases sm : Builtin.Range.small lo hi 1 with
  | true =>
    refine wpAny_pyIter_range (IsRange.new ..) sm ?_
    refine ⟨(s.heap.push { cls := .type "range", data := .fields #[.int lo t, .int hi u, .int 1 v] }).objs.size, [(s.heap.push { cls := .type "range", data := .fields #[.int lo t, .int hi u, .int 1 v] }).objs.size], _, _, H, rfl,
      I1.kept (t' := tk) fun b o e => Heap.get?_push_of_some _ e, turn_range _ lo (hi - lo).toNat, ?_, fun b hb => ?_, q⟩
    · show IsRangeIter _ _ (lo + ((0 : Nat) : Int) * 1) ((((hi - lo).toNat : Nat) : Int) - ((0 : Nat) : Int)) 1
      rw [e1, e2]
      exact Heap.get?_push_size _ rfl
    · have e : b = (s.heap.push { cls := .type "range", data := .fields #[.int lo t, .int hi u, .int 1 v] }).objs.size := by simpa using hb
      subst e
      exact I1.fpOk (Nat.le_refl _) (I1.hok.fresh (Nat.le_refl _))
  | false =>
    refine wpAny_pyIter_longrange (IsRange.new ..) sm ?_
    refine ⟨(s.heap.push { cls := .type "range", data := .fields #[.int lo t, .int hi u, .int 1 v] }).objs.size, [(s.heap.push { cls := .type "range", data := .fields #[.int lo t, .int hi u, .int 1 v] }).objs.size], _, _, H, rfl,
      I1.kept (t' := tk) fun b o e => Heap.get?_push_of_some _ e, vl_turn_long _ lo (hi - lo).toNat, ?_, fun b hb => ?_, q⟩
    · show IsLongIter _ _ (lo + ((0 : Nat) : Int) * 1) ((((hi - lo).toNat : Nat) : Int) - ((0 : Nat) : Int)) 1
      rw [e1, e2]
      exact Heap.get?_push_size _ rfl
    · have e : b = (s.heap.push { cls := .type "range", data := .fields #[.int lo t, .int hi u, .int 1 v] }).objs.size := by simpa using hb
      subst e
      exact I1.fpOk (Nat.le_refl _) (I1.hok.fresh (Nat.le_refl _))
def iRng2W (ta : TA) : TI := fun σ H R => ta σ H fun vs H1 => ∃ i j : Int, vs = [.int i, .int j] ∧ R (Itr i (j - i).toNat) H1
theorem pi_range2W {a b : Expr} {ta : TA} {p pos : Pos} (hg : Gl X "range") (hm : X.mg "range" = none) (ha : PA X [a, b] ta) (hs : starEach [a, b] X.env = [(false, eval a X.env), (false, eval b X.env)] := by rfl) (hs2 : starEach [b] X.env = [(false, eval b X.env)] := by rfl) :
    PI X tg (.Call (.Name "range" p) [a, b] [] pos) (iRng2W ta) := by
  refine ⟨fun pins s σ H R I h => ?_⟩
  refine Call_ (ld_blt I hg hm boot_range (PyProof.Rows.callWith_type1 (thn (ha.run pos pins s σ H _ I h) fun us s1 ⟨vs, H1, I1, r1, q1⟩ => ?_) (by rw [hs, hs2]) (by rw [hs2]; rfl)))
  obtain ⟨i, j, e, q⟩ := q1
  subst e
  cases r1 with
  | cons r rr =>
    cases rr with
    | cons r' rr =>
      cases rr
      obtain ⟨t, rfl⟩ := r
      obtain ⟨t', rfl⟩ := r'
      exact call_range_2 (vl_range_it I1 q)
def tLstRgW (te : St → Hp → (Int → Int → Hp → Prop) → Prop) : TE := fun σ H Q => te σ H fun a b H1 => (b - a).toNat ≤ 2 ^ 24 ∧ ∀ q, H1 q = none → Q (.ref q) (upd H1 q (.lst (rgV a b)))
theorem pe_listRgW {e : Expr} {te : St → Hp → (Int → Int → Hp → Prop) → Prop} {p pos : Pos} (hc : X.calm = true) (hg : Gl X "list") (hm : X.mg "list" = none) (he : PRg X e te) (na : starEach [e] X.env = (false, eval e X.env) :: starEach [] X.env := by rfl) : PE X (.Call (.Name "list" p) [e] [] pos) (tLstRgW te) := by
  refine ⟨fun pins s σ H Q I h => ?_⟩
  refine Call_ (ld_blt I hg hm boot_list (PyProof.Rows.callWith_type1 (args_cons (thn (he pins s σ H _ I h) fun x s1 ⟨r, a, b, t, u, v, H1, ex, hr, I1, ok, q⟩ => args_nil ?_) na) na))
  subst ex
  refine vl_list_range (n := (b - a).toNat) (I1.ok.hd hc) hr (rangeSize_nat a b) ok fun h' tk acc c' hk e' hi => ?_
  refine ⟨.ref s1.heap.objs.size, upd H1 s1.heap.objs.size (.lst (rgV a b)), I1.laid hk (Nat.le_refl _) (show ObjOk X.prog X.w _ _ _ (.lst (rgV a b)) from ⟨?_, acc.toList, c', vals_rg hi, ?_⟩), rfl, q _ (I1.hok.fresh (Nat.le_refl _))⟩
  · rw [rgV_length, sizeLine_eq]; omega
  · rw [Array.toArray_toList]; exact e'
end
end L2

set_option maxRecDepth 100000
set_option maxHeartbeats 2000000
/-! VL: the operations. -/
namespace VL
open PySem L2 Evl PyProof.Rows PySem.Spec

theorem nd_inj {α : Type} {l : List α} (nd : l.Nodup) {i j : Nat} {x : α} (h : l[i]? = some x) (h2 : l[j]? = some x) : i = j :=
  (List.getElem?_inj (List.getElem?_eq_some_iff.mp h).1 nd).mp (h.trans h2.symm)
section
variable {K : PySem.W.Frag} {Cl : Nat → Addr} {cs cs' : List Addr} {F F' H H' : Hp} {σ : L2.St} {ρ : Env} {h h' : AHeap} {a p : Addr} {c : Cell} {o : HO}
/-- a new frozen object -/
theorem StOk.newF (S : StOk K Cl cs F H h) (hp : H p = none) : StOk K Cl cs (upd F p o) (upd H p o) h := by
  have hF : F p = none := by
    cases q : F p with
    | none => rfl
    | some u => rw [S.sub _ _ q] at hp; cases hp
  have e : Ex F (upd F p o) := Ex.new hF
  refine ⟨fun b u q => ?_, S.len, S.nd, fun n a q => ?_, fun a q => ?_⟩
  · by_cases hb : b = p
    · subst hb; rw [upd_same] at q ⊢; exact q
    · rw [upd_ne hb] at q ⊢; exact S.sub _ _ q
  · refine (S.cell n a q).mono e ⟨[], by simp⟩ fun u hu => ?_
    rw [upd_ne (ne_of_none hu hp)]
    exact hu
  · have hs := (List.mem_iff_getElem?.mp q)
    obtain ⟨n, hn⟩ := hs
    have hne : a ≠ p := fun z => by
      subst z
      exact (S.cell n a hn).some hp
    rw [upd_ne hne]
    exact S.free a q
theorem Stp.newF (S : StOk K Cl cs F H h) (hp : H p = none) : Stp cs F H cs (upd F p o) (upd H p o) := by
  have hF : F p = none := by
    cases q : F p with
    | none => rfl
    | some u => rw [S.sub _ _ q] at hp; cases hp
  refine ⟨Ex.new hF, ⟨[], by simp⟩, fun b u q _ => ?_, fun b q => ?_, fun b q1 q2 => ?_, fun b q1 q2 => absurd q1 q2⟩
  · rw [upd_ne (ne_of_none q hp)]; exact q
  · by_cases hb : b = p
    · subst hb; rw [upd_same]; simp
    · rw [upd_ne hb]; exact q
  · by_cases hb : b = p
    · subst hb; exact hp
    · rw [upd_ne hb] at q2; exact absurd q1 q2
/-- a new object that is nobody's yet -/
theorem StOk.newN (S : StOk K Cl cs F H h) (hp : H p = none) : StOk K Cl cs F (upd H p o) h := by
  refine ⟨fun b u q => ?_, S.len, S.nd, fun n a q => ?_, S.free⟩
  · rw [upd_ne (ne_of_none (S.sub _ _ q) hp)]; exact S.sub _ _ q
  · refine (S.cell n a q).mono (fun _ _ z => z) ⟨[], by simp⟩ fun u hu => ?_
    rw [upd_ne (ne_of_none hu hp)]
    exact hu
theorem Stp.newN (hp : H p = none) : Stp cs F H cs F (upd H p o) := by
  refine ⟨fun _ _ z => z, ⟨[], by simp⟩, fun b u q _ => ?_, fun b q => ?_, fun b q1 q2 => absurd q1 q2, fun b q1 q2 => absurd q1 q2⟩
  · rw [upd_ne (ne_of_none q hp)]; exact q
  · by_cases hb : b = p
    · subst hb; rw [upd_same]; simp
    · rw [upd_ne hb]; exact q
/-- nobody's object is changed -/
theorem StOk.chgN (S : StOk K Cl cs F H h) (hF : F p = none) (hc : p ∉ cs) : StOk K Cl cs F (upd H p o) h := by
  refine ⟨fun b u q => ?_, S.len, S.nd, fun n a q => ?_, S.free⟩
  · have hb : b ≠ p := fun z => by subst z; rw [hF] at q; cases q
    rw [upd_ne hb]; exact S.sub _ _ q
  · refine (S.cell n a q).mono (fun _ _ z => z) ⟨[], by simp⟩ fun u hu => ?_
    have hb : a ≠ p := fun z => by subst z; exact hc (List.mem_of_getElem? q)
    rw [upd_ne hb]
    exact hu
/-- nobody's object is frozen -/
theorem StOk.freeze (S : StOk K Cl cs F H h) (hF : F p = none) (hc : p ∉ cs) (hH : H p = some o) : StOk K Cl cs (upd F p o) H h := by
  refine ⟨fun b u q => ?_, S.len, S.nd, fun n a q => ?_, fun a q => ?_⟩
  · by_cases hb : b = p
    · subst hb; rw [upd_same] at q; rw [← q]; exact hH
    · rw [upd_ne hb] at q; exact S.sub _ _ q
  · exact (S.cell n a q).mono (Ex.new hF) ⟨[], by simp⟩ fun u hu => hu
  · have hb : a ≠ p := fun z => by subst z; exact hc q
    rw [upd_ne hb]; exact S.free a q
/-- nobody's object becomes a cell -/
theorem StOk.cellNew (S : StOk K Cl cs F H h) (hF : F p = none) (hc : p ∉ cs) (r : COk K Cl (cs ++ [p]) F H p c) : StOk K Cl (cs ++ [p]) F H (h ++ [c]) := by
  refine ⟨S.sub, by simp [S.len], ?_, fun n a q => ?_, fun a q => ?_⟩
  · rw [List.nodup_append]
    refine ⟨S.nd, by simp, fun x hx y hy => ?_⟩
    simp at hy
    subst hy
    exact fun z => hc (z ▸ hx)
  · by_cases hn : n < cs.length
    · rw [List.getElem?_append_left hn] at q
      rw [cells_app (by rw [← S.len]; exact hn)]
      exact (S.cell n a q).mono (fun _ _ z => z) ⟨[p], rfl⟩ fun _ z => z
    · have hn2 : n = cs.length := by
        have := (List.getElem?_eq_some_iff.mp q).1
        simp at this
        omega
      subst hn2
      rw [List.getElem?_append_right (Nat.le_refl _)] at q
      simp at q
      subst q
      rw [S.len, cells_new]
      exact r
  · simp at q
    rcases q with q | q
    · exact S.free a q
    · subst q; exact hF
/-- a cell is changed -/
theorem StOk.cellSet (S : StOk K Cl cs F H h) {n : Nat} (e : cs[n]? = some p) (r : COk K Cl cs F (upd H p o) p c) : StOk K Cl cs F (upd H p o) (h.set n c) := by
  have hn : n < h.length := by rw [← S.len]; exact (List.getElem?_eq_some_iff.mp e).1
  refine ⟨fun b u q => ?_, by simp [S.len], S.nd, fun m a q => ?_, S.free⟩
  · have hb : b ≠ p := fun z => by
      subst z
      rw [S.free b (List.mem_of_getElem? e)] at q
      cases q
    rw [upd_ne hb]; exact S.sub _ _ q
  · by_cases hm : n = m
    · subst hm
      rw [e] at q
      cases q
      rw [cells_set_same hn]
      exact r
    · rw [cells_set_ne hm]
      refine (S.cell m a q).mono (fun _ _ z => z) ⟨[], by simp⟩ fun u hu => ?_
      have hb : a ≠ p := fun z => by
        subst z
        have h1 := (List.getElem?_eq_some_iff.mp e)
        have h2 := (List.getElem?_eq_some_iff.mp q)
        exact hm (nd_inj S.nd e q)
      rw [upd_ne hb]
      exact hu
theorem Stp.chg {F H : Hp} (hc : p ∈ cs) : Stp cs F H cs F (upd H p o) := by
  refine ⟨fun _ _ z => z, ⟨[], by simp⟩, fun b u q n => ?_, fun b q => ?_, fun b q1 q2 => absurd q1 q2, fun b q1 q2 => absurd q1 q2⟩
  · rw [upd_ne fun z => by subst z; exact n hc]; exact q
  · by_cases hb : b = p
    · subst hb; rw [upd_same]; simp
    · rw [upd_ne hb]; exact q
end

/-- a container as it may be read -/
def RepB (K : PySem.W.Frag) (cs : List Addr) (F H : Hp) (b : Bool) (v : V) (d : AV) : Prop :=
  Rep K cs F v d ∨ (b = true ∧ ∃ a, v = .ref a ∧ a ∉ cs ∧ F a = none ∧ ((∃ vs xs, d = .lst xs ∧ H a = some (.lst vs) ∧ Reps K cs F vs xs) ∨ ∃ us xs, d = .dct xs ∧ H a = some (.dK us) ∧ RepK K cs F us xs))
section
variable {K : PySem.W.Frag} {Cl : Nat → Addr} {cs cs' : List Addr} {F F' H H' : Hp} {σ : L2.St} {ρ : Env} {h h' : AHeap} {b : Bool} {v : V} {d : AV}
theorem RepB.step (r : RepB K cs F H b v d) (x : Stp cs F H cs' F' H') : RepB K cs' F' H' b v d := by
  rcases r with r | ⟨hb, a, e, n1, n2, r⟩
  · exact .inl (r.mono x.f x.c)
  · have hs : H a ≠ none := by
      rcases r with ⟨vs, xs, _, q, _⟩ | ⟨vs, xs, _, q, _⟩ <;> rw [q] <;> simp
    have h1 : a ∉ cs' := fun z => hs (x.m a z n1)
    have h2 : F' a = none := by
      cases w : F' a with
      | none => rfl
      | some o => exact absurd (x.n a n2 (by rw [w]; simp)) hs
    refine .inr ⟨hb, a, e, h1, h2, ?_⟩
    rcases r with ⟨vs, xs, e1, q, r⟩ | ⟨vs, xs, e1, q, r⟩
    · exact .inl ⟨vs, xs, e1, x.k _ _ q n1, r.mono x.f x.c⟩
    · exact .inr ⟨vs, xs, e1, x.k _ _ q n1, r.mono x.f x.c⟩
theorem RepB.plain (r : RepB K cs F H false v d) : Rep K cs F v d := by
  rcases r with r | ⟨hb, _⟩
  · exact r
  · cases hb
theorem cell_at {n : Nat} {a : Addr} {xs : List AV} (S : StOk K Cl cs F H h) (e : cs[n]? = some a) (q : cells h n = .lst xs) : ∃ vs, H a = some (.lst vs) ∧ Reps K cs F vs xs := by
  have := S.cell n a e
  rw [q] at this
  exact this
theorem cell_atD {n : Nat} {a : Addr} {xs : List (Key × AV)} (S : StOk K Cl cs F H h) (e : cs[n]? = some a) (q : cells h n = .dct xs) : ∃ vs, H a = some (.dK vs) ∧ RepK K cs F vs xs := by
  have := S.cell n a e
  rw [q] at this
  exact this
theorem RepB.viewW (r : RepB K cs F H b v d) (S : StOk K Cl cs F H h) {xs : List AV} (e : viewW h d = some xs) : ∃ a vs, v = .ref a ∧ H a = some (.lst vs) ∧ Reps K cs F vs xs := by
  rcases r with r | ⟨hb, a, e1, n1, n2, r⟩
  · cases r with
    | lst q r => simp [VL.viewW] at e; subst e; exact ⟨_, _, rfl, S.sub _ _ q, r⟩
    | adr q =>
      rename_i n a
      simp only [VL.viewW] at e
      split at e
      · rename_i xs' hc
        cases e
        obtain ⟨vs, q1, q2⟩ := cell_at S q hc
        exact ⟨_, _, rfl, q1, q2⟩
      · cases e
    | _ => simp [VL.viewW] at e
  · rcases r with ⟨vs, xs', e2, q, r⟩ | ⟨vs, xs', e2, q, r⟩
    · subst e2; simp [VL.viewW] at e; subst e; exact ⟨_, _, e1, q, r⟩
    · subst e2; simp [VL.viewW] at e
theorem RepB.view (r : RepB K cs F H b v d) (S : StOk K Cl cs F H h) {xs : List AV} (e : view h d = some xs) : ∃ a vs, v = .ref a ∧ SqL K H a vs ∧ Reps K cs F vs xs := by
  rcases r with r | ⟨hb, a, e1, n1, n2, r⟩
  · cases r with
    | lst q r => simp [VL.view] at e; subst e; exact ⟨_, _, rfl, sq_of (S.sub _ _ q), r⟩
    | ro q r => simp [VL.view] at e; subst e; exact ⟨_, _, rfl, ex_l S.sub q, r⟩
    | adr q =>
      rename_i n a
      simp only [VL.view] at e
      split at e
      · rename_i xs' hc
        cases e
        obtain ⟨vs, q1, q2⟩ := cell_at S q hc
        exact ⟨_, _, rfl, sq_of q1, q2⟩
      · cases e
    | _ => simp [VL.view] at e
  · rcases r with ⟨vs, xs', e2, q, r⟩ | ⟨vs, xs', e2, q, r⟩
    · subst e2; simp [VL.view] at e; subst e; exact ⟨_, _, e1, sq_of q, r⟩
    · subst e2; simp [VL.view] at e
theorem viewT_eq {h : AHeap} {d : AV} {xs : List AV} (e : viewT h d = some xs) : d = .tup xs ∨ view h d = some xs := by
  unfold VL.viewT at e
  split at e
  · cases e; exact .inl rfl
  · exact .inr e
theorem RepB.viewT (r : RepB K cs F H b v d) (S : StOk K Cl cs F H h) {xs : List AV} (e : viewT h d = some xs) : ∃ a vs, v = .ref a ∧ (SqL K H a vs ∨ SqT K H a vs) ∧ Reps K cs F vs xs := by
  rcases viewT_eq e with q | q
  · subst q
    rcases r with r | ⟨hb, a, e1, n1, n2, r⟩
    · cases r with
      | tup q r => exact ⟨_, _, rfl, .inr (ex_t S.sub q), r⟩
    · rcases r with ⟨vs, xs', e2, q, r⟩ | ⟨vs, xs', e2, q, r⟩ <;> cases e2
  · obtain ⟨a, vs, h1, h2, h3⟩ := r.view S q
    exact ⟨a, vs, h1, .inl h2, h3⟩
theorem RepB.viewD (r : RepB K cs F H b v d) (S : StOk K Cl cs F H h) {xs : List (Key × AV)} (e : viewD h d = some xs) : ∃ a vs, v = .ref a ∧ Rd H a (.dK vs) ∧ RepK K cs F vs xs := by
  rcases r with r | ⟨hb, a, e1, n1, n2, r⟩
  · cases r with
    | dct q r => simp [VL.viewD] at e; subst e; exact ⟨_, _, rfl, .inr ⟨_, S.sub _ _ q⟩, r⟩
    | adr q =>
      rename_i n a
      simp only [VL.viewD] at e
      split at e
      · rename_i xs' hc
        cases e
        obtain ⟨vs, q1, q2⟩ := cell_atD S q hc
        exact ⟨_, _, rfl, .inl q1, q2⟩
      · cases e
    | _ => simp [VL.viewD] at e
  · rcases r with ⟨vs, xs', e2, q, r⟩ | ⟨vs, xs', e2, q, r⟩
    · subst e2; simp [VL.viewD] at e
    · subst e2; simp [VL.viewD] at e; subst e; exact ⟨_, _, e1, .inl q, r⟩
mutual
theorem Rep.dpH (S : StOk K Cl cs F H h) : ∀ {v : V} {d : AV}, Rep K cs F v d → ∀ {p : PyData}, VL.pdH h d = some p → Dp K H v p
  | _, _, .non, _, q => by simp [VL.pdH] at q; subst q; exact .non
  | _, _, .bl b, _, q => by simp [VL.pdH] at q; subst q; exact .bl b
  | _, _, .int i, _, q => by simp [VL.pdH] at q; subst q; exact .int i
  | _, _, .str s, _, q => by simp [VL.pdH] at q; subst q; exact .str s
  | _, _, .tup h r, _, q => by
    simp [VL.pdH] at q
    obtain ⟨l, e1, e2⟩ := q
    subst e2
    exact .tup (ex_t S.sub h) (Reps.dpH S r e1)
  | _, _, .lst h r, _, q => by
    simp [VL.pdH] at q
    obtain ⟨l, e1, e2⟩ := q
    subst e2
    exact .lst (sq_of (S.sub _ _ h)) (Reps.dpH S r e1)
  | _, _, .ro h r, _, q => by
    simp [VL.pdH] at q
    obtain ⟨l, e1, e2⟩ := q
    subst e2
    exact .lst (ex_l S.sub h) (Reps.dpH S r e1)
  | _, _, .dct h r, _, q => by simp [VL.pdH] at q
  | _, _, .adr g, _, q => by
    simp only [VL.pdH] at q
    split at q
    · rename_i xs' hc
      simp at q
      obtain ⟨l, e1, e2⟩ := q
      subst e2
      obtain ⟨vs, q1, q2⟩ := cell_at S g hc
      exact .lst (sq_of q1) (q2.dp S.sub e1)
    · cases q
theorem Reps.dpH (S : StOk K Cl cs F H h) : ∀ {v : List V} {d : List AV}, Reps K cs F v d → ∀ {p : List PyData}, VL.pdHs h d = some p → DpAll K H v p
  | _, _, .nil, _, q => by simp [VL.pdHs] at q; subst q; exact .nil
  | _, _, .cons g r, _, q => by
    simp [VL.pdHs, Option.bind_eq_some_iff] at q
    obtain ⟨d1, e1, l, e2, e3⟩ := q
    subst e3
    exact .cons (Rep.dpH S g e1) (Reps.dpH S r e2)
end
theorem Reps.upH : ∀ {v : List V} {d : List AV}, Reps K cs F v d → StOk K Cl cs F H h → ∀ {p : List PyData}, VL.pdHs h d = some p → DpAll K H v p := fun r S _ q => Reps.dpH S r q
theorem RepB.pdH (r : RepB K cs F H b v d) (S : StOk K Cl cs F H h) {p : PyData} (e : pdH h d = some p) : Dp K H v p := by
  rcases r with r | ⟨hb, a, e1, n1, n2, r⟩
  · exact Rep.dpH S r e
  · rcases r with ⟨vs, xs', e2, q, r⟩ | ⟨vs, xs', e2, q, r⟩
    · subst e2
      simp [VL.pdH] at e
      obtain ⟨l, e3, e4⟩ := e
      subst e4 e1
      exact .lst (sq_of q) (r.dpH S e3)
    · subst e2; simp [VL.pdH] at e
theorem RepB.int {i : Int} (r : RepB K cs F H b v (.int i)) : v = .int i := by
  rcases r with r | ⟨_, _, _, _, _, ⟨_, _, e, _⟩ | ⟨_, _, e, _⟩⟩
  · cases r; rfl
  · cases e
  · cases e
theorem RepB.str {i : Str} (r : RepB K cs F H b v (.str i)) : v = .str i := by
  rcases r with r | ⟨_, _, _, _, _, ⟨_, _, e, _⟩ | ⟨_, _, e, _⟩⟩
  · cases r; rfl
  · cases e
  · cases e
theorem RepB.bl {i : Bool} (r : RepB K cs F H b v (.bl i)) : v = .bl i := by
  rcases r with r | ⟨_, _, _, _, _, ⟨_, _, e, _⟩ | ⟨_, _, e, _⟩⟩
  · cases r; rfl
  · cases e
  · cases e
theorem RepB.non (r : RepB K cs F H b v .non) : v = .non := by
  rcases r with r | ⟨_, _, _, _, _, ⟨_, _, e, _⟩ | ⟨_, _, e, _⟩⟩
  · cases r; rfl
  · cases e
  · cases e
theorem RepB.isNon (r : RepB K cs F H b v d) : decide (v = V.non) = isNon d := by
  rcases r with r | ⟨_, _, e1, _, _, ⟨_, _, e, _⟩ | ⟨_, _, e, _⟩⟩
  · cases r <;> rfl
  · subst e e1; rfl
  · subst e e1; rfl
theorem RepB.flat (r : RepB K cs F H b v d) (f : flatA d = true) : flatV v = true ∧ ∀ w e, Rep K cs F w e → flatA e = true → eqV w v = eqF e d := by
  have key : ∀ {v d}, Rep K cs F v d → flatA d = true → flatV v = true ∧ ∀ w e, Rep K cs F w e → flatA e = true → eqV w v = eqF e d := by
    intro v d r f
    cases r with
    | non => exact ⟨rfl, fun w e r f => by cases r <;> first | rfl | cases f⟩
    | bl x => exact ⟨rfl, fun w e r f => by cases r <;> first | rfl | cases f⟩
    | int x => exact ⟨rfl, fun w e r f => by cases r <;> first | rfl | cases f⟩
    | str x => exact ⟨rfl, fun w e r f => by cases r <;> first | rfl | cases f⟩
    | _ => cases f
  rcases r with r | ⟨_, _, _, _, _, ⟨_, _, e, _⟩ | ⟨_, _, e, _⟩⟩
  · exact key r f
  · subst e; cases f
  · subst e; cases f
theorem Reps.flat {vs : List V} {xs : List AV} (r : Reps K cs F vs xs) (f : xs.all flatA = true) {v : V} {d : AV} (rv : RepB K cs F H b v d) (fd : flatA d = true) :
    vs.all flatV = true ∧ inV v vs = xs.any (fun y => eqF y d) := by
  revert xs
  induction vs with
  | nil => intro xs r f; cases r; exact ⟨rfl, rfl⟩
  | cons w vs ih =>
    intro xs r f
    cases r with
    | cons h t =>
      rw [List.all_cons, Bool.and_eq_true] at f
      obtain ⟨i1, i2⟩ := ih t f.2
      have q : RepB K cs F H false w _ := .inl h
      refine ⟨by rw [List.all_cons, (q.flat f.1).1, i1]; rfl, ?_⟩
      unfold inV at i2 ⊢
      rw [List.any_cons, List.any_cons, i2, (rv.flat fd).2 w _ h f.1]
theorem Reps.flatAt {vs : List V} {xs : List AV} (r : Reps K cs F vs xs) (f : xs.all flatA = true) {v : V} {d : AV} (rv : RepB K cs F H b v d) (fd : flatA d = true) {i : Nat} {w : V} {e : AV} (h1 : vs[i]? = some w) (h2 : xs[i]? = some e) : eqV w v = eqF e d := by
  have fe : flatA e = true := List.all_eq_true.mp f e (List.mem_of_getElem? h2)
  obtain ⟨w', e1, r2⟩ := r.get h2
  rw [h1] at e1
  cases e1
  exact (rv.flat fd).2 w e r2 fe
theorem RepB.key (r : RepB K cs F H b v d) {k : Key} (e : keyOf d = some k) : v = kV k := by
  cases d with
  | int i => simp [keyOf] at e; subst e; exact r.int
  | str i => simp [keyOf] at e; subst e; exact r.str
  | _ => simp [keyOf] at e
end

/-- what is wanted of a value -/
def PostV (K : PySem.W.Frag) (Cl : Nat → Addr) (cs : List Addr) (F H : Hp) (h : AHeap) (Q : KA) (R : VK) : Prop :=
  ∀ v d F' H', Stp cs F H cs F' H' → StOk K Cl cs F' H' h → Rep K cs F' v d → Q d → R v H'
section
variable {K : PySem.W.Frag} {Cl : Nat → Addr} {cs : List Addr} {F H : Hp} {h : AHeap} {Q : KA} {R : VK}
theorem PostV.here (p : PostV K Cl cs F H h Q R) (S : StOk K Cl cs F H h) {v : V} {d : AV} (r : Rep K cs F v d) (q : Q d) : R v H := p v d F H .refl S r q
theorem PostV.int (p : PostV K Cl cs F H h Q R) (S : StOk K Cl cs F H h) {i : Int} (q : Q (.int i)) : R (.int i) H := p.here S (.int i) q
theorem PostV.bl (p : PostV K Cl cs F H h Q R) (S : StOk K Cl cs F H h) {i : Bool} (q : Q (.bl i)) : R (.bl i) H := p.here S (.bl i) q
theorem PostV.str (p : PostV K Cl cs F H h Q R) (S : StOk K Cl cs F H h) {i : Str} (q : Q (.str i)) : R (.str i) H := p.here S (.str i) q
theorem PostV.newT (p : PostV K Cl cs F H h Q R) (S : StOk K Cl cs F H h) {vs : List V} {xs : List AV} (r : Reps K cs F vs xs) (q : Q (.tup xs)) : ∀ a, H a = none → R (.ref a) (upd H a (.tup vs)) := fun a ha =>
  p _ _ _ _ (.newF S ha) (S.newF ha) (.tup (st_of upd_same) (r.mono (Stp.newF (o := .tup vs) S ha).f ⟨[], by simp⟩)) q
theorem PostV.newL (p : PostV K Cl cs F H h Q R) (S : StOk K Cl cs F H h) {vs : List V} {xs : List AV} (r : Reps K cs F vs xs) (q : Q (.lst xs)) : ∀ a, H a = none → R (.ref a) (upd H a (.lst vs)) := fun a ha =>
  p _ _ _ _ (.newF S ha) (S.newF ha) (.lst upd_same (r.mono (Stp.newF (o := .lst vs) S ha).f ⟨[], by simp⟩)) q
end

/-- a two-place operation by its weakest reading -/
def OpW (X : Cx) (f : Value → Value → Sem Value) (x y : V) (H : Hp) (Q : VK) : Prop :=
  ∀ (pins : List (Addr × Obj)) (s : Shared) (σ : L2.St) (v u : Value), Inv X pins σ H s → RelV x v → RelV y u → wpAny (model X.prog X.w) X.A (f v u) (EP X pins σ Q) X.xe s
theorem opw_ok {X : Cx} {f : Value → Value → Sem Value} : OpR X f (OpW X f) := fun pins s σ H x y v u Q I rx ry h => h pins s σ v u I rx ry
theorem opw_of {X : Cx} {f : Value → Value → Sem Value} {r : R2} (o : OpR X f r) {x y : V} {H : Hp} {Q : VK} (h : r x y H Q) : OpW X f x y H Q := fun pins s σ v u I rx ry => o pins s σ H x y v u Q I rx ry h
section
variable {X : Cx} {Cl : Nat → Addr} {cs : List Addr} {F H : Hp} {h : AHeap} {Q : KA} {R : VK} {x y : V} {d e : AV} {b b' : Bool}
theorem CDivA.w {i j : Int} (h : CDivA j) : CDivW i j := h
theorem addK_ok (S : StOk X.K Cl cs F H h) (rx : RepB X.K cs F H false x d) (ry : RepB X.K cs F H false y e) (q : addK h d e Q) (p : PostV X.K Cl cs F H h Q R) : OpW X (binaryOp .Add) x y H R := by
  unfold addK at q
  split at q
  · cases rx.int; cases ry.int
    exact opw_of op_add ⟨_, _, rfl, rfl, p.int S q⟩
  · cases rx.str; cases ry.str
    exact opw_of op_add_str ⟨_, _, rfl, rfl, q.1, p.str S q.2⟩
  · rename_i xs ys
    have rx := rx.plain
    have ry := ry.plain
    cases rx with
    | tup h1 r1 =>
      cases ry with
      | tup h2 r2 =>
        rename_i vs _ ws
        refine opw_of op_catA ⟨_, _, vs, ws, rfl, rfl, ex_t S.sub h1, ex_t S.sub h2, by rw [r1.length, r2.length]; exact q.1, fun z => ?_, fun _ z => ?_, fun _ _ => p.newT S (r1.append r2) q.2⟩
        · subst z
          cases r1
          exact p.here S (.tup h2 r2) q.2
        · subst z
          cases r2
          have q2 := q.2
          rw [List.append_nil] at q2
          exact p.here S (.tup h1 r1) q2
  · exact q.elim
theorem strRep_len (x : Str) (n : Int) : (strRep x n).length ≤ x.length * n.toNat + x.length := by
  unfold strRep
  split
  · exact Nat.zero_le _
  · split
    · omega
    · have key : ∀ (k : Nat) (acc : Array Nat), ((List.replicate k x.cps).foldl (· ++ ·) acc).size = acc.size + k * x.cps.size := by
        intro k
        induction k with
        | zero => intro acc; simp
        | succ k ih => intro acc; rw [List.replicate_succ, List.foldl_cons, ih, Array.size_append, Nat.succ_mul]; omega
      show ((List.replicate n.toNat x.cps).foldl (· ++ ·) #[]).size ≤ x.cps.size * n.toNat + x.cps.size
      rw [key, Nat.mul_comm]
      simp
theorem op_mul_str : OpR X (binaryOp .Mult) (fun x y H Q => ∃ z k, x = .str z ∧ y = .int k ∧ (-(2 ^ 60) < k ∧ k < 2 ^ 60 ∧ z.length * k.toNat ≤ 1000000) ∧ Q (.str (strRep z k)) H) := by
  intro pins s σ H x y v u Q I rx ry h
  obtain ⟨z, k, rfl, rfl, ⟨h1, h2, h3⟩, q⟩ := h
  obtain ⟨t, rfl⟩ := rx
  obtain ⟨t', rfl⟩ := ry
  have hs : sizeLine = 16777216 := sizeLine_eq
  have e60 : (2 ^ 60 : Int) = 1152921504606846976 := by decide
  have e63 : (2 ^ 63 : Int) = 9223372036854775808 := by decide
  rw [e60] at h1 h2
  refine PySem.P.mul_str ?_ (fun a b => ?_) (fun a b => ?_) ?_
  · have e1 : decide (k < -(2 ^ 63 : Int)) = false := decide_eq_false (by rw [e63]; omega)
    have e2 : decide (k ≥ 2 ^ 63) = false := decide_eq_false (by rw [e63]; omega)
    rw [e1, e2]; rfl
  · intro c
    have hk : 0 < k := by omega
    have h4 : (z.length : Int) * k ≤ 1000000 := by
      have : ((z.length * k.toNat : Nat) : Int) ≤ ((1000000 : Nat) : Int) := Int.ofNat_le.mpr h3
      rw [Int.natCast_mul] at this
      rw [Int.toNat_of_nonneg (by omega)] at this
      exact this
    have h5 : (2 ^ 63 - 1 : Int) / k < z.length := c
    have h6 := Int.lt_mul_of_ediv_lt hk h5
    have e63 : (2 ^ 63 - 1 : Int) = 9223372036854775807 := by decide
    rw [e63] at h6
    omega
  · unfold Builtin.Str.tooLong
    exact decide_eq_false (by omega)
  · have hl := strRep_len z k
    by_cases a : k < 1
    · have e : strRep z k = Str.empty := if_pos a
      rw [e] at q
      rw [if_pos a]
      exact ⟨by decide, .str Str.empty, H, I.tok _, ⟨_, rfl⟩, q⟩
    · rw [if_neg a]
      by_cases b : (k == 1 || z.length == 0) = true
      · have e : strRep z k = z := by unfold strRep; rw [if_neg a, if_pos b]
        rw [e] at q
        rw [if_pos b]
        exact ⟨.str z, H, I, ⟨_, rfl⟩, q⟩
      · have e : strRep z k = ⟨(List.replicate k.toNat z.cps).foldl (· ++ ·) #[]⟩ := by unfold strRep; rw [if_neg a, if_neg b]
        rw [e] at q hl
        rw [if_neg b]
        refine ⟨?_, .str _, H, I.tok _, ⟨_, rfl⟩, q⟩
        have : z.length ≤ z.length * k.toNat := Nat.le_mul_of_pos_right _ (by omega)
        omega
theorem binK_ok {op : Operator} (S : StOk X.K Cl cs F H h) (rx : RepB X.K cs F H false x d) (ry : RepB X.K cs F H false y e) (q : binK h op d e Q) (p : PostV X.K Cl cs F H h Q R) : OpW X (binaryOp op) x y H R := by
  unfold binK at q
  split at q
  · exact addK_ok S rx ry q p
  · split at q
    · cases rx.int; cases ry.int
      exact opw_of op_sub ⟨_, _, rfl, rfl, p.int S q⟩
    · exact q.elim
  · split at q
    · cases rx.int; cases ry.int
      rcases q.1 with c | c
      · exact opw_of op_mul ⟨_, _, rfl, rfl, c, p.int S q.2⟩
      · exact opw_of op_mulW ⟨_, _, rfl, rfl, c, p.int S q.2⟩
    · cases rx.str; cases ry.int
      exact opw_of op_mul_str ⟨_, _, rfl, rfl, q.1, p.str S q.2⟩
    · exact q.elim
  · split at q
    · cases rx.int; cases ry.int
      exact opw_of op_fdivW ⟨_, _, rfl, rfl, CDivA.w q.1, p.int S q.2⟩
    · exact q.elim
  · split at q
    · cases rx.int; cases ry.int
      exact opw_of op_mod ⟨_, _, rfl, rfl, q.1, p.int S q.2⟩
    · exact q.elim
  · split at q
    · cases rx.int; cases ry.int
      exact opw_of op_pow ⟨_, _, rfl, rfl, q.1, p.int S q.2⟩
    · exact q.elim
  · exact q.elim
theorem eqGen_ok (hu : X.A.units + 64 < cLine) {neg : Bool} (S : StOk X.K Cl cs F H h) (rx : RepB X.K cs F H b x d) (ry : RepB X.K cs F H b' y e) (q : eqGen h neg d e Q) (p : PostV X.K Cl cs F H h Q R) : OpW X (compareOp (if neg then .NotEq else .Eq)) x y H R := by
  unfold eqGen at q
  split at q
  · rename_i d1 e1 h1 h2
    have dx := rx.pdH S h1
    have dy := ry.pdH S h2
    cases neg with
    | true => exact opw_of (op_neD hu) ⟨_, _, dx, dy, q.1, q.2.1, p.bl S q.2.2⟩
    | false => exact opw_of (op_eqD hu) ⟨_, _, dx, dy, q.1, q.2.1, p.bl S q.2.2⟩
  · exact q.elim
/-! ### dicts compared -/
def EqI (K : PySem.W.Frag) (H : Hp) (x y : V) : Prop := (∃ i, x = .int i ∧ y = .int i) ∨ ∃ (a b : Addr) (ns : List Int), x = .ref a ∧ y = .ref b ∧ SqL K H a (ns.map V.int) ∧ SqL K H b (ns.map V.int)
theorem hitsI {X : Cx} {pins : List (Addr × Obj)} {σ : L2.St} {H : Hp} {s : Shared} (I : Inv X pins σ H s) {A : Around} (hu : A.in1.units + 64 < cLine) {kvs : List (Key × V)} {vb : List (Key × Value)} (rb : KV kvs vb) {ks : List (Key × V)} {va : List (Key × Value)} (ra : KV ks va) :
    (∀ p ∈ ks, ∃ u, valV kvs p.1 = some u ∧ EqI X.K H p.2 u) → PySem.W.KeqHits A.in1 s vb va true := by
  unfold KV at ra
  induction ra with
  | nil => intro _; exact .nil
  | @cons p q ps qs h t ih =>
    intro hp
    obtain ⟨h1, h2⟩ := h
    obtain ⟨w, e, f⟩ := hp p List.mem_cons_self
    have rr : RelO (some w) (valueAt vb p.1) := by rw [← e]; exact rb.val p.1
    obtain ⟨y, hy, ry⟩ := rr.some_of
    obtain ⟨k, v⟩ := q
    have h1' : p.1 = k := h1
    rw [h1'] at hy
    show PySem.W.KeqHits A.in1 s vb ((k, v) :: qs) (true && true)
    refine .hit hy ?_ (ih fun p' hm => hp p' (List.mem_cons_of_mem _ hm))
    rcases f with ⟨i, e1, e2⟩ | ⟨a, b, ns, e1, e2, q1, q2⟩
    · rw [e1] at h2
      rw [e2] at ry
      exact eqAt_same h2 ry rfl
    · rw [e1] at h2
      rw [e2] at ry
      cases (show v = Value.ref a from h2)
      cases (show y = Value.ref b from ry)
      obtain ⟨us, r1, p1, _⟩ := I.list q1
      obtain ⟨ws, r2, p2, _⟩ := I.list q2
      have := PySem.W.keq_ints (A := A) (s := s) p1.isList r1.ints p2.isList r2.ints hu
      rw [decide_eq_true rfl] at this
      exact this
def rDct (K : PySem.W.Frag) (neg : Bool) : R2 := fun x y H Q => ∃ a b ks ls, x = .ref a ∧ y = .ref b ∧ Rd H a (.dK ks) ∧ Rd H b (.dK ls) ∧ ks.length = ls.length ∧ (∀ p ∈ ks, ∃ u, valV ls p.1 = some u ∧ EqI K H p.2 u) ∧ Q (.bl (!neg)) H
theorem op_eqDct {X : Cx} (hu : X.A.units + 65 < cLine) {neg : Bool} : OpR X (compareOp (if neg then .NotEq else .Eq)) (rDct X.K neg) := by
  intro pins s σ H x y v u Q I rx ry h
  obtain ⟨a, b, ks, ls, rfl, rfl, ea, eb, hlen, hp, q⟩ := h
  obtain rfl : v = Value.ref a := rx
  obtain rfl : u = Value.ref b := ry
  obtain ⟨_, ya, va, ra, da⟩ := dk_rd I.hok ea
  obtain ⟨_, yb, vb, rb, db⟩ := dk_rd I.hok eb
  have hl : va.length = vb.length := by rw [← ra.length, ← rb.length]; exact hlen
  cases neg with
  | false => exact PySem.W.keq_eq (knd := mixKind X.prog X.w) (r := true) ya yb da db (by omega) (fun _ => hitsI I (A := X.A) (by show X.A.units + 1 + 64 < cLine; omega) rb ra hp) (fin_bl I q (by simp [hl]))
  | true => exact PySem.W.keq_ne (knd := mixKind X.prog X.w) (r := true) ya yb da db (by omega) (fun _ => hitsI I (A := X.A) (by show X.A.units + 1 + 64 < cLine; omega) rb ra hp) (fin_bl I q (by simp [hl]))
theorem call_lenRd {X : Cx} : CallR X (.builtin "len") (fun xs H Q => ∃ (a : Addr) (kvs : List (Key × V)), xs = [.ref a] ∧ Rd H a (.dK kvs) ∧ Q (.int kvs.length) H) := by
  intro pins s σ H xs us Q I r q
  obtain ⟨a, kvs, ex, hd, q⟩ := q
  subst ex
  obtain ⟨u, eu, rx⟩ := vals1 r
  subst eu
  cases rx
  exact d_len I hd fun t s' I' => ⟨.int kvs.length, H, I', ⟨t, rfl⟩, q⟩
theorem asInts_map : ∀ ns : List Int, asInts (ns.map .int) = some ns
  | [] => rfl
  | n :: ns => by
    show (asInts (ns.map .int)).map (n :: ·) = _
    rw [asInts_map ns]; rfl
theorem dct_ok (hu : X.A.units + 65 < cLine) {neg : Bool} {xs ys : List (Key × AV)} (S : StOk X.K Cl cs F H h) (rx : RepB X.K cs F H b x (.dct xs)) (ry : RepB X.K cs F H b' y (.dct ys)) (q : dEq xs ys ∧ Q (.bl (!neg))) (p : PostV X.K Cl cs F H h Q R) :
    OpW X (compareOp (if neg then .NotEq else .Eq)) x y H R := by
  obtain ⟨a, vs, rfl, e1, r1⟩ := rx.viewD S rfl
  obtain ⟨b, ws, rfl, e2, r2⟩ := ry.viewD S rfl
  obtain ⟨⟨hl, he⟩, q⟩ := q
  refine opw_of (op_eqDct hu) ⟨a, b, vs, ws, rfl, rfl, e1, e2, by rw [r1.length, r2.length]; exact hl, ?_, p.bl S q⟩
  have key : ∀ {vs : List (Key × V)} {xs : List (Key × AV)}, RepK X.K cs F vs xs → (∀ p ∈ xs, ∃ u, getD ys p.1 = some u ∧ eqv1 p.2 u) → ∀ p ∈ vs, ∃ u, valV ws p.1 = some u ∧ EqI X.K H p.2 u := by
    intro vs xs r
    induction vs generalizing xs with
    | nil => intro _ p m; cases m
    | cons v vs ih =>
      cases r with
      | cons r rs =>
        rename_i k v d xs
        intro hx p m
        rcases List.mem_cons.mp m with rfl | m
        · obtain ⟨u, g1, g2⟩ := hx (k, d) List.mem_cons_self
          rcases r2.get (k := k) with ⟨w, d2, h1, h2, r3⟩ | ⟨_, h2⟩
          · rw [g1] at h2
            cases h2
            refine ⟨w, h1, ?_⟩
            rcases g2 with ⟨i, z1, z2⟩ | ⟨ns, z1, z2⟩
            · have z1 : d = .int i := z1
              subst z1 z2
              cases r
              cases r3
              exact .inl ⟨i, rfl, rfl⟩
            · have z1 : d = .lst (ns.map .int) := z1
              subst z1 z2
              have ra : RepB X.K cs F H true v (.lst (ns.map .int)) := .inl r
              have rb : RepB X.K cs F H true w (.lst (ns.map .int)) := .inl r3
              obtain ⟨a1, vs1, e1, q1, s1⟩ := ra.view S rfl
              obtain ⟨a2, vs2, e2, q2, s2⟩ := rb.view S rfl
              rw [s1.ints (asInts_map ns)] at q1
              rw [s2.ints (asInts_map ns)] at q2
              exact .inr ⟨a1, a2, ns, e1, e2, q1, q2⟩
          · rw [g1] at h2; cases h2
        · exact ih rs (fun p hp => hx p (List.mem_cons_of_mem _ hp)) p m
  exact key r1 he
theorem eqK_ok (hu : X.A.units + 65 < cLine) (S : StOk X.K Cl cs F H h) (rx : RepB X.K cs F H b x d) (ry : RepB X.K cs F H b' y e) (q : eqK h d e Q) (p : PostV X.K Cl cs F H h Q R) : OpW X (compareOp .Eq) x y H R := by
  unfold eqK at q
  split at q
  · cases rx.int; cases ry.int
    exact opw_of op_eq ⟨rfl, p.bl S (by simpa using q)⟩
  · cases rx.str; cases ry.str
    exact opw_of op_eq ⟨rfl, p.bl S (by simpa using q)⟩
  · cases rx.bl; cases ry.bl
    exact opw_of op_eq ⟨rfl, p.bl S (by simpa using q)⟩
  · cases rx.non; cases ry.non
    exact opw_of op_eq ⟨rfl, p.bl S (by simpa using q)⟩
  · cases rx.int; cases ry.str
    exact opw_of op_eq ⟨rfl, p.bl S (by simpa using q)⟩
  · cases rx.str; cases ry.int
    exact opw_of op_eq ⟨rfl, p.bl S (by simpa using q)⟩
  · exact dct_ok (neg := false) (by omega) S rx ry q p
  · exact eqGen_ok (neg := false) (by omega) S rx ry q p
theorem neK_ok (hu : X.A.units + 65 < cLine) (S : StOk X.K Cl cs F H h) (rx : RepB X.K cs F H b x d) (ry : RepB X.K cs F H b' y e) (q : neK h d e Q) (p : PostV X.K Cl cs F H h Q R) : OpW X (compareOp .NotEq) x y H R := by
  unfold neK at q
  split at q
  · cases rx.int; cases ry.int
    exact opw_of op_ne ⟨rfl, p.bl S (by simpa using q)⟩
  · cases rx.str; cases ry.str
    exact opw_of op_ne ⟨rfl, p.bl S (by simpa using q)⟩
  · cases rx.bl; cases ry.bl
    exact opw_of op_ne ⟨rfl, p.bl S (by simpa using q)⟩
  · cases rx.non; cases ry.non
    exact opw_of op_ne ⟨rfl, p.bl S (by simpa using q)⟩
  · cases rx.int; cases ry.str
    exact opw_of op_ne ⟨rfl, p.bl S (by simpa using q)⟩
  · cases rx.str; cases ry.int
    exact opw_of op_ne ⟨rfl, p.bl S (by simpa using q)⟩
  · exact dct_ok (neg := true) (by omega) S rx ry q p
  · exact eqGen_ok (neg := true) (by omega) S rx ry q p
theorem op_dIn (hu : X.A.units + 1 < cLine) : OpR X (compareOp .In) (fun x y H Q => ∃ a o, y = .ref a ∧ DGet H a x o ∧ Q (.bl o.isSome) H) := by
  intro pins s σ H x y v u Q I rx ry h
  obtain ⟨a, o, rfl, g, q⟩ := h
  cases ry
  exact d_in hu I g rx fun s3 I3 => ⟨.bl o.isSome, H, I3, rfl, q⟩
theorem op_dNotIn (hu : X.A.units + 1 < cLine) : OpR X (compareOp .NotIn) (fun x y H Q => ∃ a o, y = .ref a ∧ DGet H a x o ∧ Q (.bl (!o.isSome)) H) := by
  intro pins s σ H x y v u Q I rx ry h
  obtain ⟨a, o, rfl, g, q⟩ := h
  cases ry
  exact d_notIn hu I g rx fun s3 I3 => ⟨.bl (!o.isSome), H, I3, rfl, q⟩
theorem op_nIn (hu : X.A.units + 2 < cLine) : OpR X (compareOp .In) (fun x y H Q => ∃ a b es k, y = .ref a ∧ x = .ref b ∧ H a = some (.ext (DN a es)) ∧ (∀ x ∈ es, KeyN X.K H x.1 x.2.1) ∧ KeyN X.K H k b ∧ Q (.bl (valN es k).isSome) H) := by
  intro pins s σ H x y v u Q I rx ry h
  obtain ⟨a, b, es, k, rfl, rfl, h1, h2, h3, q⟩ := h
  cases ry; cases rx
  exact n_in hu I h1 h2 h3 fun s3 I3 => ⟨.bl _, H, I3, rfl, q⟩
theorem op_nNotIn (hu : X.A.units + 2 < cLine) : OpR X (compareOp .NotIn) (fun x y H Q => ∃ a b es k, y = .ref a ∧ x = .ref b ∧ H a = some (.ext (DN a es)) ∧ (∀ x ∈ es, KeyN X.K H x.1 x.2.1) ∧ KeyN X.K H k b ∧ Q (.bl (!(valN es k).isSome)) H) := by
  intro pins s σ H x y v u Q I rx ry h
  obtain ⟨a, b, es, k, rfl, rfl, h1, h2, h3, q⟩ := h
  cases ry; cases rx
  exact n_notIn hu I h1 h2 h3 fun s3 I3 => ⟨.bl _, H, I3, rfl, q⟩
/-- membership among data -/
theorem deep_items {pins : List (Addr × Obj)} {σ : L2.St} {H : Hp} {s : Shared} (I : Inv X pins σ H s) : ∀ {ds : List PyData} {xs : List V} {us : List Value}, DpAll X.K H xs ds → Vals xs us → us.length = ds.length ∧ ∀ (j : Nat) (u : Value), us[j]? = some u → ∃ e as, ds[j]? = some e ∧ Reads s.heap u e as
  | _, _, _, .nil, .nil => ⟨rfl, fun j u h => by simp at h⟩
  | _, _, _, .cons h r, .cons g t => by
    obtain ⟨l, k⟩ := deep_items I r t
    obtain ⟨as, ra⟩ := Dp.reads I _ _ _ h g
    refine ⟨by simp [l], fun j u hj => ?_⟩
    cases j with
    | zero => simp at hj; subst hj; exact ⟨_, as, rfl, ra⟩
    | succ j => simpa using k j u (by simpa using hj)
open Classical in
noncomputable def deepE (its : List Value) (ds : List PyData) (d : PyData) (u : Value) : Bool := decide (∃ (j : Nat) (e : PyData), its[j]? = some u ∧ ds[j]? = some e ∧ PyData.eqv e d = true)
open Classical in
theorem deep_at {pins : List (Addr × Obj)} {σ : L2.St} {H : Hp} {s : Shared} (I : Inv X pins σ H s) {A : Around} (hu : A.units + 64 < cLine) {x : V} {v : Value} {d : PyData} {ds : List PyData} {xs : List V} {us : List Value} (hx : Dp X.K H x d) (rx : RelV x v) (hy : DpAll X.K H xs ds) (ry : Vals xs us)
    (sd : SeqAt.shaped d = true) (ss : ds.all SeqAt.shaped = true) : (∀ u ∈ us, SeqAt.EqAt A s u v (deepE us ds d u)) ∧ us.any (deepE us ds d) = ds.any fun y => PyData.eqv y d := by
  obtain ⟨l, k⟩ := deep_items I hy ry
  obtain ⟨bs, rd⟩ := Dp.reads I _ _ _ hx rx
  have at_ : ∀ (j : Nat) (u : Value) (e : PyData), us[j]? = some u → ds[j]? = some e → SeqAt.EqAt A s u v (PyData.eqv e d) := by
    intro j u e h1 h2
    obtain ⟨e', as, h3, r⟩ := k j u h1
    rw [h2] at h3
    cases h3
    have se := List.all_eq_true.mp ss e (List.mem_of_getElem? h2)
    exact SeqAt.eqAt_reads e d A s u v as bs r rd (SeqAt.canLay_of_shaped se) (SeqAt.canLay_of_shaped sd) (SeqAt.room_of_shaped se hu)
  refine ⟨fun u hm => ?_, ?_⟩
  · unfold deepE
    by_cases c : ∃ (j : Nat) (e : PyData), us[j]? = some u ∧ ds[j]? = some e ∧ PyData.eqv e d = true
    · rw [decide_eq_true c]
      obtain ⟨j, e, h1, h2, h3⟩ := c
      rw [← h3]
      exact at_ j u e h1 h2
    · rw [decide_eq_false c]
      obtain ⟨j, hj⟩ := List.mem_iff_getElem?.mp hm
      obtain ⟨e, as, h2, _⟩ := k j u hj
      have : PyData.eqv e d = false := by
        cases q : PyData.eqv e d with
        | false => rfl
        | true => exact absurd ⟨j, e, hj, h2, q⟩ c
      rw [← this]
      exact at_ j u e hj h2
  · rw [Bool.eq_iff_iff, List.any_eq_true, List.any_eq_true]
    constructor
    · rintro ⟨u, hm, h⟩
      obtain ⟨j, e, _, h2, h3⟩ := of_decide_eq_true h
      exact ⟨e, List.mem_of_getElem? h2, h3⟩
    · rintro ⟨e, hm, h⟩
      obtain ⟨j, hj⟩ := List.mem_iff_getElem?.mp hm
      have hl : j < us.length := by rw [l]; exact (List.getElem?_eq_some_iff.mp hj).1
      exact ⟨us[j], List.getElem_mem hl, decide_eq_true ⟨j, e, List.getElem?_eq_getElem hl, hj, h⟩⟩
def rInD (K : PySem.W.Frag) (neg : Bool) : R2 := fun x y H Q => ∃ p xs d ds, y = .ref p ∧ (SqL K H p xs ∨ SqT K H p xs) ∧ Dp K H x d ∧ DpAll K H xs ds ∧ SeqAt.shaped d = true ∧ ds.all SeqAt.shaped = true ∧ Q (.bl (if neg then !(ds.any fun y => PyData.eqv y d) else ds.any fun y => PyData.eqv y d)) H
theorem op_inDeep (hu : X.A.units + 65 < cLine) : OpR X (compareOp .In) (rInD X.K false) := by
  have hu1 : X.A.in1.units + 64 < cLine := by rcases units_in1 X.A with q | q <;> omega
  intro pins s σ H x y v u Q I rx ry h
  obtain ⟨p, xs, d, ds, rfl, hq, hx, hy, sd, ss, q⟩ := h
  cases ry
  rcases hq with hq | hq
  · obtain ⟨its, r, pl, hz⟩ := I.list hq
    obtain ⟨k1, k2⟩ := deep_at I hu1 hx rx hy r sd ss
    refine SeqAt.in_listAt (deepE its ds d) pl.isList (fun w hw => k1 w (by simpa using hw)) ⟨.bl _, H, I, rfl, ?_⟩
    rw [show its.toArray.any (deepE its ds d) = its.any (deepE its ds d) by simp, k2]
    exact q
  · obtain ⟨its, r, pl, hz⟩ := I.tuple hq
    obtain ⟨k1, k2⟩ := deep_at I hu1 hx rx hy r sd ss
    refine SeqAt.in_tupleAt (deepE its ds d) pl (fun w hw => k1 w (by simpa using hw)) ⟨.bl _, H, I, rfl, ?_⟩
    rw [show its.toArray.any (deepE its ds d) = its.any (deepE its ds d) by simp, k2]
    exact q
theorem op_notInDeep (hu : X.A.units + 65 < cLine) : OpR X (compareOp .NotIn) (rInD X.K true) := by
  have hu1 : X.A.in1.units + 64 < cLine := by rcases units_in1 X.A with q | q <;> omega
  intro pins s σ H x y v u Q I rx ry h
  obtain ⟨p, xs, d, ds, rfl, hq, hx, hy, sd, ss, q⟩ := h
  cases ry
  rcases hq with hq | hq
  · obtain ⟨its, r, pl, hz⟩ := I.list hq
    obtain ⟨k1, k2⟩ := deep_at I hu1 hx rx hy r sd ss
    refine SeqAt.notIn_listAt (deepE its ds d) pl.isList (fun w hw => k1 w (by simpa using hw)) ⟨.bl _, H, I, rfl, ?_⟩
    rw [show its.toArray.any (deepE its ds d) = its.any (deepE its ds d) by simp, k2]
    exact q
  · obtain ⟨its, r, pl, hz⟩ := I.tuple hq
    obtain ⟨k1, k2⟩ := deep_at I hu1 hx rx hy r sd ss
    refine SeqAt.notIn_tupleAt (deepE its ds d) pl (fun w hw => k1 w (by simpa using hw)) ⟨.bl _, H, I, rfl, ?_⟩
    rw [show its.toArray.any (deepE its ds d) = its.any (deepE its ds d) by simp, k2]
    exact q
theorem RepB.nk {K : PySem.W.Frag} {v : V} (r : RepB K cs F H b v d) {k : NK} (e : nkOf d = some k) : ∃ a, v = .ref a ∧ KeyN K F k a := by
  rcases r with r | ⟨_, _, _, _, _, ⟨_, _, e2, _⟩ | ⟨_, _, e2, _⟩⟩
  · exact nk_rep r e
  · subst e2; cases e
  · subst e2; cases e
theorem cell_atN {K : PySem.W.Frag} {n : Nat} {a : Addr} {xs : List (NK × AV)} (S : StOk K Cl cs F H h) (e : cs[n]? = some a) (q : cells h n = .dctN xs) : ∃ es, H a = some (.ext (DN a es)) ∧ RepN K cs F es xs := by
  have := S.cell n a e
  rw [q] at this
  exact this
theorem RepB.viewN {K : PySem.W.Frag} {v : V} (r : RepB K cs F H b v d) (S : StOk K Cl cs F H h) {xs : List (NK × AV)} (e : viewN h d = some xs) : ∃ a es, v = .ref a ∧ H a = some (.ext (DN a es)) ∧ RepN K cs F es xs := by
  rcases r with r | ⟨_, _, _, _, _, ⟨_, _, e2, _⟩ | ⟨_, _, e2, _⟩⟩
  · cases r <;> simp only [VL.viewN] at e <;> try cases e
    rename_i n a hn
    split at e
    · rename_i ys hc
      cases e
      obtain ⟨es, q1, q2⟩ := cell_atN S hn hc
      exact ⟨a, es, rfl, q1, q2⟩
    · cases e
  · subst e2; cases e
  · subst e2; cases e
theorem KeyN.up {K : PySem.W.Frag} (S : StOk K Cl cs F H h) {k : NK} {a : Addr} (x : KeyN K F k a) : KeyN K H k a := x.mono fun _ _ q => ex_t S.sub q
theorem inK_ok (hu : X.A.units + 65 < cLine) {neg : Bool} (S : StOk X.K Cl cs F H h) (rx : RepB X.K cs F H b x d) (ry : RepB X.K cs F H b' y e) (q : inK h neg d e Q) (p : PostV X.K Cl cs F H h Q R) : OpW X (compareOp (if neg then .NotIn else .In)) x y H R := by
  unfold inK at q
  split at q
  · rename_i z
    split at q
    · rename_i w
      split at q
      · rename_i c hc
        cases rx.str; cases ry.str
        have ew : w = ⟨#[c]⟩ := by
          obtain ⟨w⟩ := w
          obtain ⟨w⟩ := w
          simp at hc
          rw [hc]
        cases neg with
        | true => exact opw_of op_notIn_sign ⟨c, z, by rw [ew], rfl, p.bl S q⟩
        | false => exact opw_of op_in_sign ⟨c, z, by rw [ew], rfl, p.bl S q⟩
      · exact q.elim
    · exact q.elim
  · split at q
    · rename_i xs hv
      obtain ⟨a, vs, rfl, hq, r⟩ := ry.viewT S hv
      rcases q with q | ⟨dd, ds, h1, h2, s1, s2, q⟩
      case inr =>
        have dx := rx.pdH S h1
        have dy := r.dpH S h2
        cases neg with
        | true => exact opw_of (op_notInDeep hu) ⟨a, vs, dd, ds, rfl, hq, dx, dy, s1, s2, p.bl S q⟩
        | false => exact opw_of (op_inDeep hu) ⟨a, vs, dd, ds, rfl, hq, dx, dy, s1, s2, p.bl S q⟩
      obtain ⟨f1, f2⟩ := r.flat q.2.1 rx q.1
      have q3 := q.2.2
      rw [← f2] at q3
      cases neg with
      | true => exact opw_of op_notIn_seq ⟨a, vs, rfl, hq, (rx.flat q.1).1, f1, p.bl S q3⟩
      | false => exact opw_of op_in_seq ⟨a, vs, rfl, hq, (rx.flat q.1).1, f1, p.bl S q3⟩
    · split at q
      · rename_i kvs k hd hk
        obtain ⟨a, vs, rfl, hq, r⟩ := ry.viewD S hd
        cases rx.key hk
        have e1 : (valV vs k).isSome = (getD kvs k).isSome := by
          rcases r.get (k := k) with ⟨v, d, e1, e2, _⟩ | ⟨e1, e2⟩ <;> rw [e1, e2] <;> rfl
        rw [← e1] at q
        cases neg with
        | true => exact opw_of (op_dNotIn (by omega)) ⟨a, _, rfl, .inl ⟨_, _, hq, rfl, rfl⟩, p.bl S q⟩
        | false => exact opw_of (op_dIn (by omega)) ⟨a, _, rfl, .inl ⟨_, _, hq, rfl, rfl⟩, p.bl S q⟩
      · split at q
        · rename_i kvs k hd hk
          obtain ⟨a, es, rfl, hq, r⟩ := ry.viewN S hd
          obtain ⟨kb, rfl, hkb⟩ := rx.nk hk
          have e1 : (valN es k).isSome = (getN kvs k).isSome := by
            rcases r.get (k := k) with ⟨v, d, e1, e2, _⟩ | ⟨e1, e2⟩ <;> rw [e1, e2] <;> rfl
          rw [← e1] at q
          cases neg with
          | true => exact opw_of (op_nNotIn (by omega)) ⟨a, kb, es, k, rfl, rfl, hq, fun x m => (r.keys x m).up S, hkb.up S, p.bl S q⟩
          | false => exact opw_of (op_nIn (by omega)) ⟨a, kb, es, k, rfl, rfl, hq, fun x m => (r.keys x m).up S, hkb.up S, p.bl S q⟩
        · exact q.elim
theorem cmpK_ok (hu : X.A.units + 65 < cLine) {op : CmpOp} (S : StOk X.K Cl cs F H h) (rx : RepB X.K cs F H b x d) (ry : RepB X.K cs F H b' y e) (q : cmpK h op d e Q) (p : PostV X.K Cl cs F H h Q R) : OpW X (compareOp op) x y H R := by
  unfold cmpK at q
  split at q
  · exact eqK_ok hu S rx ry q p
  · exact neK_ok hu S rx ry q p
  · split at q
    · cases rx.int; cases ry.int
      exact opw_of op_lt ⟨_, _, rfl, rfl, p.bl S q⟩
    · exact q.elim
  · split at q
    · cases rx.int; cases ry.int
      exact opw_of op_le ⟨_, _, rfl, rfl, p.bl S q⟩
    · exact q.elim
  · split at q
    · cases rx.int; cases ry.int
      exact opw_of op_gt ⟨_, _, rfl, rfl, p.bl S q⟩
    · exact q.elim
  · split at q
    · cases rx.int; cases ry.int
      exact opw_of op_ge ⟨_, _, rfl, rfl, p.bl S q⟩
    · exact q.elim
  · split at q
    · cases ry.non
      rw [← rx.isNon] at q
      exact opw_of op_isN ⟨rfl, p.bl S q⟩
    · split at q
      · cases rx.bl; cases ry.bl
        exact opw_of op_isBl ⟨_, _, rfl, rfl, p.bl S q⟩
      · exact q.elim
    · exact q.elim
  · split at q
    · cases ry.non
      rw [← rx.isNon] at q
      exact opw_of op_notN ⟨rfl, p.bl S q⟩
    · split at q
      · cases rx.bl; cases ry.bl
        exact opw_of op_notBl ⟨_, _, rfl, rfl, p.bl S q⟩
      · exact q.elim
    · exact q.elim
  · exact inK_ok (neg := false) (by omega) S rx ry q p
  · exact inK_ok (neg := true) (by omega) S rx ry q p
end
/-! items, slices, truth, calls of built-ins -/
def IxW (X : Cx) (x y : V) (H : Hp) (Q : VK) : Prop :=
  ∀ (value slice : Expr) (pins : List (Addr × Obj)) (s : Shared) (σ : L2.St) (v u : Value), Inv X pins σ H s → RelV x v → RelV y u → subscripted slice false v u = operate [v, u] (getItem v u) → wpAny (model X.prog X.w) X.A (subscriptTail value slice v u) (EP X pins σ Q) X.xe s
theorem ixw_ok {X : Cx} : IxR X (IxW X) := fun value slice pins s σ H x y v u Q I rx ry h hs => h value slice pins s σ v u I rx ry hs
theorem ixw_of {X : Cx} {r : R2} (o : IxR X r) {x y : V} {H : Hp} {Q : VK} (h : r x y H Q) : IxW X x y H Q := fun value slice pins s σ v u I rx ry hs => o value slice pins s σ H x y v u Q I rx ry h hs
def SlW (X : Cx) (x : V) (lo hi : Option Int) (H : Hp) (Q : VK) : Prop :=
  ∀ (pins : List (Addr × Obj)) (s : Shared) (σ : L2.St) (v vl vu : Value) (sl : Addr), Inv X pins σ H s → RelV x v → s.heap.IsSliceOf sl vl vu .none → IsPart vl lo → IsPart vu hi →
    ∃ T id, typeLookup (.type T) "__getitem__" = pure (some (.builtin id)) ∧ s.TypeIs v T ∧ wpAny (model X.prog X.w) X.A (getItem v (.ref sl)) (EP X pins σ Q) X.xe s
theorem slw_ok {X : Cx} : SlR X (SlW X) := fun pins s σ H x v vl vu lo hi sl Q I rx hs pl pu h => h pins s σ v vl vu sl I rx hs pl pu
theorem slw_of {X : Cx} {r : V → Option Int → Option Int → Hp → VK → Prop} (o : SlR X r) {x : V} {lo hi : Option Int} {H : Hp} {Q : VK} (h : r x lo hi H Q) : SlW X x lo hi H Q := fun pins s σ v vl vu sl I rx hs pl pu => o pins s σ H x v vl vu lo hi sl Q I rx hs pl pu h
def CallW (X : Cx) (f : Value) (xs : List V) (H : Hp) (Q : VK) : Prop :=
  ∀ (pins : List (Addr × Obj)) (s : Shared) (σ : L2.St) (us : List Value), Inv X pins σ H s → Vals xs us → wpAny (model X.prog X.w) X.A (call f us) (EP X pins σ Q) X.xe s
theorem callw_ok {X : Cx} {f : Value} : CallR X f (CallW X f) := fun pins s σ H xs us Q I r h => h pins s σ us I r
theorem callw_of {X : Cx} {f : Value} {r : List V → Hp → VK → Prop} (o : CallR X f r) {xs : List V} {H : Hp} {Q : VK} (h : r xs H Q) : CallW X f xs H Q := fun pins s σ us I rs => o pins s σ H xs us Q I rs h
section
variable {X : Cx} {Cl : Nat → Addr} {cs : List Addr} {F H : Hp} {h : AHeap} {Q : KA} {R : VK} {x y : V} {d e : AV} {b b' : Bool}
theorem ix_dict (hu : X.A.units + 1 < cLine) : IxR X (fun x y H Q => ∃ a v, x = .ref a ∧ DGet H a y (some v) ∧ Q v H) := by
  intro value slice pins s σ H x y v u Q I rx ry h hs
  obtain ⟨a, w, rfl, g, q⟩ := h
  cases rx
  exact tail_any (dict_typeIs I g) PySem.F.slot_dict_getitem.lookup (d_getItem hu I g ry fun w' s3 I3 rw' => ⟨w, H, I3, rw', q⟩) hs
theorem ix_nk (hu : X.A.units + 2 < cLine) : IxR X (fun x y H Q => ∃ a b es k v, x = .ref a ∧ y = .ref b ∧ H a = some (.ext (DN a es)) ∧ (∀ x ∈ es, KeyN X.K H x.1 x.2.1) ∧ KeyN X.K H k b ∧ valN es k = some v ∧ Q v H) := by
  intro value slice pins s σ H x y v u Q I rx ry h hs
  obtain ⟨a, b, es, k, w, rfl, rfl, h1, h2, h3, h4, q⟩ := h
  cases rx; cases ry
  obtain ⟨_, _, xs, _, dd⟩ := dn_ok I h1 h2
  exact tail_any dd.typeIs PySem.F.slot_dict_getitem.lookup (n_getItem hu I h1 h2 h3 h4 fun w' s3 I3 rw' => ⟨w, H, I3, rw', q⟩) hs
theorem subK_ok (hu : X.A.units + 64 < cLine) (S : StOk X.K Cl cs F H h) (rx : RepB X.K cs F H b x d) (ry : RepB X.K cs F H b' y e) (q : subK h d e Q) (p : PostV X.K Cl cs F H h Q R) : IxW X x y H R := by
  unfold subK at q
  split at q
  · split at q
    · cases rx.str; cases ry.int
      obtain ⟨q1, q2⟩ := q
      split at q2
      · rename_i c hc
        exact ixw_of ix_str ⟨_, _, c, rfl, rfl, q1, hc, p.str S q2⟩
      · exact q2.elim
    · exact q.elim
  · split at q
    · rename_i xs hv
      obtain ⟨a, vs, rfl, hq, r⟩ := rx.viewT S hv
      split at q
      · cases ry.int
        split at q
        · rename_i d' hd
          obtain ⟨v, hv, rv⟩ := r.at hd
          rcases hq with hq | hq
          · exact ixw_of ix_list ⟨a, vs, _, v, rfl, rfl, hq, hv, p.here S rv q⟩
          · exact ixw_of ix_tup ⟨a, vs, _, v, rfl, rfl, hq, hv, p.here S rv q⟩
        · exact q.elim
      · exact q.elim
    · split at q
      · rename_i kvs k hd hk
        obtain ⟨a, vs, rfl, hq, r⟩ := rx.viewD S hd
        cases ry.key hk
        split at q
        · rename_i d' hd'
          rcases r.get (k := k) with ⟨v, d2, e1, e2, r2⟩ | ⟨e1, e2⟩
          · rw [hd'] at e2; cases e2
            refine ixw_of (ix_dict (by omega)) ⟨a, v, rfl, ?_, p.here S r2 q⟩
            rw [← e1]
            exact .inl ⟨_, _, hq, rfl, rfl⟩
          · rw [hd'] at e2; cases e2
        · exact q.elim
      · split at q
        · rename_i kvs k hd hk
          obtain ⟨a, es, rfl, hq, r⟩ := rx.viewN S hd
          obtain ⟨kb, rfl, hkb⟩ := ry.nk hk
          split at q
          · rename_i d' hd'
            rcases r.get (k := k) with ⟨v, d2, e1, e2, r2⟩ | ⟨e1, e2⟩
            · rw [hd'] at e2; cases e2
              exact ixw_of (ix_nk (by omega)) ⟨a, kb, es, k, v, rfl, rfl, hq, fun x m => (r.keys x m).up S, hkb.up S, e1, p.here S r2 q⟩
            · rw [hd'] at e2; cases e2
          · exact q.elim
        · exact q.elim
theorem Reps.cut_whole {K : PySem.W.Frag} {vs : List V} {xs : List AV} (r : Reps K cs F vs xs) {lo hi : Option Int} (w : HT.sIx vs.length 0 lo = 0 ∧ HT.sIx vs.length vs.length hi = vs.length) : _root_.VL.cut xs lo hi = xs := by
  unfold VL.cut
  rw [← r.length, w.1, w.2, r.length]
  simp
theorem sliceK_ok (S : StOk X.K Cl cs F H h) (rx : RepB X.K cs F H false x d) {lo hi : Option Int} (q : sliceK h d lo hi Q) (p : PostV X.K Cl cs F H h Q R) : SlW X x lo hi H R := by
  unfold sliceK at q
  split at q
  · cases rx.str
    exact slw_of sl_str ⟨_, rfl, q.1, p.str S q.2⟩
  · have rx := rx.plain
    cases rx with
    | tup h1 r1 =>
      refine slw_of sl_tupA ⟨_, _, rfl, ex_t S.sub h1, fun w => ?_, fun _ => p.newT S (r1.cut lo hi) q⟩
      rw [r1.cut_whole w] at q
      exact p.here S (.tup h1 r1) q
  · exact q.elim
theorem truK_ok (S : StOk X.K Cl cs F H h) (rx : RepB X.K cs F H b x d) {Q : Bool → Prop} (q : truK h d Q) : ∃ k, TruV X.K x H k ∧ Q k := by
  unfold truK at q
  split at q
  · cases rx.bl; exact ⟨_, rfl, q⟩
  · cases rx.non; exact ⟨_, rfl, q⟩
  · cases rx.int; exact ⟨_, rfl, q⟩
  · cases rx.str; exact ⟨_, ⟨q.1, rfl⟩, q.2⟩
  · split at q
    · rename_i xs hv
      obtain ⟨a, vs, rfl, hq, r⟩ := rx.viewT S hv
      have e : xs.isEmpty = vs.isEmpty := by
        have := r.length
        cases vs <;> cases xs <;> simp at this ⊢
      rw [e] at q
      rcases hq with hq | hq
      · exact ⟨_, .inl ⟨vs, hq, rfl⟩, q⟩
      · exact ⟨_, .inr (.inl ⟨vs, hq, rfl⟩), q⟩
    · exact q.elim
def bVal : Blt → Value
  | .len => .builtin "len" | .abs => .builtin "abs" | .int => .type "int" | .str => .type "str" | .max2 => .builtin "max" | .min2 => .builtin "min" | .maxL => .builtin "max" | .minL => .builtin "min"
  | .sum => .builtin "sum" | .all => .builtin "all" | .any => .builtin "any" | .tuple => .type "tuple" | .repr => .builtin "repr"
inductive RepBs (K : PySem.W.Frag) (cs : List Addr) (F H : Hp) (b : Bool) : List V → List AV → Prop
  | nil : RepBs K cs F H b [] []
  | cons {v : V} {vs : List V} {d : AV} {ds : List AV} : RepB K cs F H b v d → RepBs K cs F H b vs ds → RepBs K cs F H b (v :: vs) (d :: ds)
theorem RepBs.step {K : PySem.W.Frag} {cs' : List Addr} {F' H' : Hp} {vs : List V} {ds : List AV} (r : RepBs K cs F H b vs ds) (x : Stp cs F H cs' F' H') : RepBs K cs' F' H' b vs ds := by
  induction r with
  | nil => exact .nil
  | cons h _ ih => exact .cons (h.step x) ih
theorem RepBs.plain {K : PySem.W.Frag} {vs : List V} {ds : List AV} (r : RepBs K cs F H false vs ds) : Reps K cs F vs ds := by
  induction r with
  | nil => exact .nil
  | cons h _ ih => exact .cons h.plain ih
/-- repr, where no guard is open -/
theorem call_repr_D (gd : X.A.guards = some []) (hu : X.A.units + 64 < cLine) : CallR X (.builtin "repr") fun vs H Q => ∃ v d, vs = [v] ∧ Dp X.K H v d ∧ (d.showable = true ∧ d.hasDict = false ∧ d.depth ≤ 50 ∧ d.shown.length ≤ sizeLine) ∧ Q (.str d.shown) H := by
  rintro pins s σ H vs us Q J rs ⟨v, d, rfl, hd, ⟨h1, h2, h3, h4⟩, q⟩
  cases rs with
  | cons r rs =>
    rename_i u us
    cases rs
    obtain ⟨as, rd⟩ := Dp.reads J d v u hd r
    have fin : ∀ h' tk, (∀ b o, s.heap.get? b = some o → h'.get? b = some o) → ∀ t, EP X pins σ Q (.str d.shown t) { s with heap := h', toks := tk } :=
      fun h' tk hk t => ⟨.str d.shown, H, J.kept hk, ⟨t, rfl⟩, q⟩
    have same : ∀ b o, s.heap.get? b = some o → s.heap.get? b = some o := fun _ _ e => e
    cases rd with
    | none => exact PySem.P.repr_of_none (fin s.heap _ same _)
    | bool b => exact PySem.P.repr_of_bool (fin s.heap _ same _)
    | int i t => exact PySem.P.repr_of_int (by simpa [PyData.showable] using h1) (fin s.heap _ same _)
    | str x t => exact PySem.P.repr_of_str (fin s.heap _ same _) h4
    | list a1 a2 a3 a4 => exact repr_of_reads' (.list a1 a2 a3 a4) h1 (PyData.noDict_hsm h2) gd (by omega) same (fun h' t tk hk => fin h' tk hk t) h4
    | tuple a1 a2 a3 a4 => exact repr_of_reads' (.tuple a1 a2 a3 a4) h1 (PyData.noDict_hsm h2) gd (by omega) same (fun h' t tk hk => fin h' tk hk t) h4
    | dict a1 a2 a3 a4 a5 => cases h2
theorem bltK_ok (hc : X.calm = true) (gd : X.A.guards = some []) (hu : X.A.units + 64 < cLine) (S : StOk X.K Cl cs F H h) {bt : Blt} {vs : List V} {ds : List AV} (rs : RepBs X.K cs F H b vs ds) (q : bltK h bt ds Q) (p : PostV X.K Cl cs F H h Q R) : CallW X (bVal bt) vs H R := by
  unfold bltK at q
  split at q
  · -- len of a text
    cases rs with | cons r1 rs => cases rs; cases r1.str; exact callw_of call_len_str ⟨_, rfl, q.1, p.int S q.2⟩
  · cases rs with
    | cons r1 rs =>
      cases rs
      split at q
      · rename_i xs hv
        obtain ⟨a, vs, rfl, hq, r⟩ := r1.viewT S hv
        refine callw_of call_len_seq ⟨a, vs, rfl, hq, ?_⟩
        rw [r.length]
        exact p.int S q
      · split at q
        · rename_i kvs hd
          obtain ⟨a, vs, rfl, hq, r⟩ := r1.viewD S hd
          refine callw_of call_lenRd ⟨a, vs, rfl, hq, ?_⟩
          rw [r.length]
          exact p.int S q
        · exact q.elim
  · cases rs with | cons r1 rs => cases rs; cases r1.int; exact callw_of call_abs ⟨_, rfl, p.int S q⟩
  · cases rs with | cons r1 rs => cases rs; cases r1.int; exact callw_of call_int1 (.inl ⟨_, rfl, p.int S q⟩)
  · cases rs with | cons r1 rs => cases rs; cases r1.bl; exact callw_of call_int1 (.inr ⟨_, rfl, p.int S q⟩)
  · cases rs with
    | cons r1 rs =>
      cases rs
      cases r1.str
      split at q
      · rename_i n e
        exact callw_of call_int_str ⟨_, n, rfl, e, q.1, p.int S q.2⟩
      · exact q.elim
  · cases rs with | cons r1 rs => cases rs; cases r1.int; exact callw_of call_str_int ⟨_, rfl, q.1, p.str S q.2⟩
  · cases rs with | cons r1 rs => cases rs with | cons r2 rs => cases rs; cases r1.int; cases r2.int; exact callw_of (call_max2 hc) ⟨_, _, rfl, p.int S q⟩
  · cases rs with | cons r1 rs => cases rs with | cons r2 rs => cases rs; cases r1.int; cases r2.int; exact callw_of (call_min2 hc) ⟨_, _, rfl, p.int S q⟩
  · cases rs with
    | cons r1 rs =>
      cases rs
      split at q
      · rename_i ns hv
        obtain ⟨xs, hv, hn⟩ := Option.bind_eq_some_iff.mp hv
        obtain ⟨a, vs, rfl, hq, r⟩ := r1.view S hv
        rw [r.ints hn] at hq
        exact callw_of (cr_max hc) ⟨a, ns, rfl, hq, q.1, fun m h1 h2 => p.int S (q.2 m h1 h2)⟩
      · exact q.elim
  · cases rs with
    | cons r1 rs =>
      cases rs
      split at q
      · rename_i ns hv
        obtain ⟨xs, hv, hn⟩ := Option.bind_eq_some_iff.mp hv
        obtain ⟨a, vs, rfl, hq, r⟩ := r1.view S hv
        rw [r.ints hn] at hq
        exact callw_of (cr_min hc) ⟨a, ns, rfl, hq, q.1, fun m h1 h2 => p.int S (q.2 m h1 h2)⟩
      · exact q.elim
  · cases rs with
    | cons r1 rs =>
      cases rs
      split at q
      · rename_i ns hv
        obtain ⟨xs, hv, hn⟩ := Option.bind_eq_some_iff.mp hv
        obtain ⟨a, vs, rfl, hq, r⟩ := r1.view S hv
        rw [r.ints hn] at hq
        exact callw_of (cr_sum hc) ⟨a, ns, rfl, hq, p.int S q⟩
      · exact q.elim
  · cases rs with
    | cons r1 rs =>
      cases rs
      split at q
      · rename_i ns hv
        obtain ⟨xs, hv, hn⟩ := Option.bind_eq_some_iff.mp hv
        obtain ⟨a, vs, rfl, hq, r⟩ := r1.view S hv
        rw [r.bools hn] at hq
        exact callw_of (cr_all hc) ⟨a, ns, rfl, hq, p.bl S q⟩
      · exact q.elim
  · cases rs with
    | cons r1 rs =>
      cases rs
      split at q
      · rename_i ns hv
        obtain ⟨xs, hv, hn⟩ := Option.bind_eq_some_iff.mp hv
        obtain ⟨a, vs, rfl, hq, r⟩ := r1.view S hv
        rw [r.bools hn] at hq
        exact callw_of (cr_any hc) ⟨a, ns, rfl, hq, p.bl S q⟩
      · exact q.elim
  · cases rs with
    | cons r1 rs =>
      cases rs
      split at q
      · rename_i d hd
        exact callw_of (call_repr_D gd hu) ⟨_, d, rfl, r1.pdH S hd, q.1, p.str S q.2⟩
      · exact q.elim
  · cases rs with
    | cons r1 rs =>
      cases rs
      rcases r1 with r | ⟨_, _, _, _, _, ⟨_, _, e, _⟩ | ⟨_, _, e, _⟩⟩
      · cases r with
        | tup h1 r1 => exact callw_of call_tuple_of ⟨_, _, rfl, .inr ⟨ex_t S.sub h1, p.here S (.tup h1 r1) q⟩⟩
      · cases e
      · cases e
  · cases rs with
    | cons r1 rs =>
      cases rs
      split at q
      · rename_i xs hv
        obtain ⟨a, vs, rfl, hq, r⟩ := r1.view S hv
        exact callw_of call_tuple_of ⟨a, vs, rfl, .inl ⟨hq, p.newT S r q⟩⟩
      · exact q.elim
  · exact q.elim
end
end VL

set_option maxRecDepth 100000
set_option maxHeartbeats 4000000
/-! VL: the promise of a def where no guard stands open: what repr asks. -/
namespace VL
open PySem L2 Evl PyProof.Rows PySem.Spec
/-- what a def keeps, called where no guard is open; no exception leaves it -/
structure FnG (P : Program) (W : World) (K : PySem.W.Frag) (gl : Str → Option Value) (B : Heap) (k : Nat) (f : Addr) (fd : FuncData) (ps : List Str) (sp : Sp) : Prop where
  cnt : ∀ vs H Q E, sp vs H Q E → vs.length = ps.length
  go : ∀ (A : Around) (fr : List PySem.Env) (s : Shared) (H : Hp) (ar : Args) (us : List Value) (vs : List V) (Q : VK) (E : XK),
    A.guards = some [] → Room k A → Env0 P W K gl B A fr s H → BindsTo s fd ar (ps.zip us) → Vals vs us → sp vs H Q E →
    codeAny (model P W) A (.call (.ref f) ar) (CR CX0 fr P W H s Q E) s
section
variable {P : Program} {W : World} {K : PySem.W.Frag} {gl : Str → Option Value} {B : Heap}
theorem FnG.of_body {name qn : Str} {st : Stmt} {f : Addr} {fd : FuncData} {N ps : List Str} {k : Nat} {sp : Sp} (F : Fun K name qn st f fd) (S : FnScope N ps (defScope st)) (cnt : ∀ vs H Q E, sp vs H Q E → vs.length = ps.length)
    (body : ∀ (cv : Value) (A : Around) (fr : List PySem.Env) (s : Shared) (H : Hp) (vs : List V) (Q : VK) (E : XK), (A.deeper (envOfC qn (defScope st) s.heap.objs.size f cv)).guards = some [] →
      Room k (A.deeper (envOfC qn (defScope st) s.heap.objs.size f cv)) → sp vs H Q E →
      ∃ t, PSs (cxOf CX0 P W K gl B N qn (defScope st) f cv A fr s H E).nox (defBody st) t ∧ t { nx := fun _ H' => Q .non H', rt := Q } (L2.start N vs) H) :
    FnG P W K gl B (k + 1) f fd ps sp := by
  obtain ⟨oc, od, kV, dc, pm, an, cv, ct, sl, rfl, at_, code⟩ := F.ex
  constructor
  · exact cnt
  intro A fr s H ar us vs Q E gd room env bnd rel want
  have here : K.In s.heap := env.mod.kin.keeps fun b o z => (env.bs b o z).1
  have kinds : ∀ y ∈ ps.zip us, (defScope st).names.lookup y.1 = some .local ∨ ((defScope st).names.lookup y.1 = some .cell ∧ ((cellsFrom (s.heap.objs.size + 1) (defScope st).names []).lookup y.1).isSome = true) := by
    rintro ⟨nm, v⟩ hy
    rcases S.par nm (List.of_mem_zip hy).1 with z | z
    · exact Or.inl z
    · exact Or.inr ⟨z, PySem.W.cellsFrom_some _ _ _ (Or.inl z)⟩
  refine codeAny_call_function room.depth (here _ _ at_) rfl S.co S.gen rfl (PySem.W.codeRec_of here code) (bnd _ _ _ _ ?_)
  refine wpAny_newFunctionEnv_cells S.kind kinds fun e0 he s1 x => ?_
  cases he
  have calm : s.heap.NoLimit := env.mod.nolimit.keeps fun b o z => (env.bs b o z).1
  refine And.intro (calm.keeps x.toInCall.keep) (codeAny_func ?_)
  obtain ⟨t, pt, run⟩ := body cv A fr s H vs Q E gd (room.deeper _) want
  have J : Inv (cxOf CX0 P W K gl B N qn (defScope st) f cv A fr s H E) [] (L2.start N vs) H s1 := inv_start S room.hd env (cnt _ _ _ _ want) rel x
  refine wpAny_mono (pt.nox.run [] s1 (L2.start N vs) H _ J run) ?_ fun _ _ z => z
  intro fl s2 z
  match fl, z with
  | .ret u, ⟨v, _, H2, J2, rv, q⟩ => exact ⟨v, H2, J2.os, J2.bare, J2.base, J2.hok, rv, q⟩
  | .next, ⟨_, H2, J2, q⟩ => exact ⟨V.non, H2, J2.os, J2.bare, J2.base, J2.hok, rfl, q⟩
  | .brk, ⟨_, _, _, q⟩ => exact q.elim
  | .cont, ⟨_, _, _, q⟩ => exact q.elim
end
section
variable {X : Cx} {k : Nat} {f : Addr} {fd : FuncData} {ps : List Str} {sp : Sp} {x : Str} {p pos : Pos} {e : Expr} {es : List Expr} {t : TA}
theorem FnG.step {pins : List (Addr × Obj)} {σ : L2.St} {H : Hp} {s : Shared} {Q : VK} {us : List Value} {vs : List V} (F : FnG X.prog X.w X.K X.mg X.base k f fd ps sp) (gd : X.A.guards = some []) (room : Room k X.A) (bnd : Binds X.K fd ps [])
    (J : Inv X pins σ H s) (rel : Vals vs us) (want : sp vs H Q E0) : wpAny (model X.prog X.w) X.A (call (.ref f) us) (EP X pins σ Q) X.xe s := by
  have n1 : (us ++ []).length = ps.length := by
    rw [List.append_nil, ← rel.length]
    exact F.cnt _ _ _ _ want
  have b1 := bnd s us J.kIn n1
  rw [List.append_nil] at b1
  refine wpAny_call (codeAny_mono (F.go X.A X.stack s H ⟨us, []⟩ us vs Q E0 gd room J.env0 b1 rel want) ?_)
  intro r s2 z
  match r, z with
  | .ok (.ret u), z => exact J.after z
  | .ok .next, z => exact z.elim
  | .ok .brk, z => exact z.elim
  | .ok .cont, z => exact z.elim
  | .error _, z => exact z.elim
/-- f(e, ..) -/
theorem FnG.call (F : FnG X.prog X.w X.K X.mg X.base k f fd ps sp) (gd : X.A.guards = some []) (room : Room k X.A) (hg : Gl X x) (hm : X.mg x = some (.ref f)) (hk : PySem.W.keepIn X.K (.ref f) = true) (bnd : Binds X.K fd ps [])
    (ha : PA X (e :: es) t) (hdb : (x == ("__debug__" : Str)) = false) (he : starEach (e :: es) X.env = (false, eval e X.env) :: starEach es X.env) (hpl : (backTo pos (starEach es X.env)).any (·.1) = false) :
    PE X (.Call (.Name x p) (e :: es) [] pos) fun σ H Q => t σ H fun vs H1 => sp vs H1 Q E0 := by
  constructor
  intro pins s σ H Q J z
  refine wpAny_Call_Name_kw (ld_glob J hg hm ?_ hdb)
  refine PySem.W.callWith_K (h₀ := X.base) J.ok.mod.kin hk (thn (ha.run pos pins s σ H _ J z) ?_) he hpl
  rintro us s1 ⟨vs, H1, J1, rel, want⟩
  exact ⟨J1.kIn, F.step gd room bnd J1 rel want⟩
/-- f() -/
theorem FnG.call0 (F : FnG X.prog X.w X.K X.mg X.base k f fd ps sp) (gd : X.A.guards = some []) (room : Room k X.A) (hg : Gl X x) (hm : X.mg x = some (.ref f)) (hk : PySem.W.keepIn X.K (.ref f) = true) (bnd : Binds X.K fd ps [])
    (hdb : (x == ("__debug__" : Str)) = false) : PE X (.Call (.Name x p) [] [] pos) fun σ H Q => sp [] H Q E0 := by
  constructor
  intro pins s σ H Q J z
  exact wpAny_Call_Name_kw (ld_glob J hg hm (PySem.W.callWith_K0 J.kIn hk (F.step (us := []) gd room bnd J .nil z)) hdb)
theorem under_gd {A : Around} {C : Addr} {us : List Value} (h : A.guards = some []) : (A.under (.builtin "type.__call__" ⟨.ref C :: us, []⟩)).guards = some [] := by
  first | exact h | (simp [Around.under, Code.guards, Code.isGuard, guardIds, pushGuards, h])
/-- C(..): the new instance, then its __init__ -/
theorem FnG.born {C : Addr} {pins : List (Addr × Obj)} {σ : L2.St} {H : Hp} {s : Shared} {Q : VK} {us : List Value} {vs : List V} (M : Mk X.K C f) (F : FnG X.prog X.w X.K X.mg X.base k f fd ps sp) (gd : X.A.guards = some []) (room : Room (k + 1) X.A) (bnd : Binds X.K fd ps [])
    (J : Inv X pins σ H s) (rel : Vals vs us) (want : ∀ x dx, H x = none → H dx = none → dx ≠ x → sp (.ref x :: vs) (upd (upd H dx (.own x)) x (.ins C dx [])) (fun v H2 => v = .non ∧ Q (.ref x) H2) E0) :
    wpAny (model X.prog X.w) X.A (PySem.call (.ref C) us) (EP X pins σ Q) X.xe s := by
  have n0 : H s.heap.objs.size = none := J.hok.fresh (Nat.le_refl _)
  have n1 : H (s.heap.objs.size + 1) = none := J.hok.fresh (Nat.le_succ _)
  have want := want _ _ n1 n0 (Nat.ne_of_lt (Nat.lt_succ_self _))
  have J2 := Inv.made (C := C) J
  have rel2 : Vals (V.ref (s.heap.objs.size + 1) :: vs) (Value.ref (s.heap.objs.size + 1) :: us) := .cons rfl rel
  have cnt : (Value.ref (s.heap.objs.size + 1) :: us ++ []).length = ps.length := by
    rw [List.append_nil, ← rel2.length]
    exact F.cnt _ _ _ _ want
  have b1 := bnd _ (Value.ref (s.heap.objs.size + 1) :: us) J2.kIn cnt
  rw [List.append_nil] at b1
  refine wpAny_call (make_map (f := f) J.kIn M.makes M.init (beq_iff_eq.mp M.fn) (codeAny_mono (F.go _ X.stack _ _ ⟨Value.ref (s.heap.objs.size + 1) :: us, []⟩ _ _ _ E0 (under_gd gd) (room.make C us []) (J2.env0.make C us []) b1 rel2 want) ?_))
  intro r s2 z
  match r, z with
  | .ok (.ret u), z =>
    obtain ⟨v, H2, J3, rv, ev, q⟩ := J2.after z
    subst ev
    exact ⟨rv, V.ref _, H2, J3, rfl, q⟩
  | .ok .next, z => exact z.elim
  | .ok .brk, z => exact z.elim
  | .ok .cont, z => exact z.elim
  | .error _, z => exact z.elim
theorem FnG.make {C : Addr} (M : Mk X.K C f) (F : FnG X.prog X.w X.K X.mg X.base k f fd ps sp) (gd : X.A.guards = some []) (room : Room (k + 1) X.A) (hg : Gl X x) (hm : X.mg x = some (.ref C)) (bnd : Binds X.K fd ps [])
    (ha : PA X (e :: es) t) (hdb : (x == ("__debug__" : Str)) = false) (he : starEach (e :: es) X.env = (false, eval e X.env) :: starEach es X.env) (hpl : (backTo pos (starEach es X.env)).any (·.1) = false) :
    PE X (.Call (.Name x p) (e :: es) [] pos) fun σ H Q => t σ H fun vs H1 => ∀ a dx, H1 a = none → H1 dx = none → dx ≠ a → sp (.ref a :: vs) (upd (upd H1 dx (.own a)) a (.ins C dx [])) (fun v H2 => v = .non ∧ Q (.ref a) H2) E0 := by
  constructor
  intro pins s σ H Q J z
  refine wpAny_Call_Name_kw (ld_glob J hg hm ?_ hdb)
  refine PySem.W.callWith_K (h₀ := X.base) J.ok.mod.kin M.kp (thn (ha.run pos pins s σ H _ J z) ?_) he hpl
  rintro us s1 ⟨vs, H1, J1, rel, want⟩
  exact ⟨J1.kIn, F.born M gd room bnd J1 rel want⟩
/-- the def of a method, found at the object -/
theorem call_at {o : Expr} {m : Str} {apos : Pos} {env : PySem.Env} {args : List Expr} {A : Around} {M : Model} {Q : Value → Shared → Prop} {E : Value → Shared → Prop} {s : Shared} (hb : attributeBase o m env (eval o env) = eval o env) (hl : (apos.endLine == pos.line) = true) (hf : methodCallForm args.length (backTo pos (starEach args env)) [] = true)
    (h : wpAny M A (eval o env) (fun ov s1 => ∀ pl, wpAny M A (getMethod ov m pl) (fun g s2 => wpAny M A (callWith pos g.1 g.2 (backTo pos (starEach args env)) []) Q E s2) E s1) E s) : wpAny M A (eval (.Call (.Attribute o m apos) args [] pos) env) Q E s := by
  rw [arm_eval_Call, hb]
  refine wpAny_bind (thn h ?_)
  intro ov s1 z
  refine wpAny_bind (wpAny_standAt ?_)
  have same : ∀ few, methodCallPos few o env apos pos = pure pos := fun few => by unfold methodCallPos; simp [hl]
  unfold methodCall
  show wpAny M A (holding [ov] (calleeOf (methodCallForm args.length (backTo pos (starEach args env)) []) o env ov m) >>= _) Q E s1
  rw [hf]
  refine wpAny_bind (wpAny_holding (thn (z _) ?_))
  intro g s2 z2
  exact wpAny_bind (wpAny_of_eq (same _) z2)
/-- a method of the object that stands there, at its class -/
def MethAt (X : Cx) (C : Addr) (m : Str) (sp : Sp) : Prop := ∃ k f fd ps, Cls X.K C ∧ Meth X.K C m f ∧ FnG X.prog X.w X.K X.mg X.base k f fd ps sp ∧ Room k X.A ∧ Binds X.K fd ps []
theorem pe_methG {m : Str} {o : Expr} {apos : Pos} {ta : TE} (ho : PE X o ta) (hb : attributeBase o m X.env (eval o X.env) = eval o X.env) (hl : (apos.endLine == pos.line) = true) (hf : methodCallForm (e :: es).length (backTo pos (starEach (e :: es) X.env)) [] = true) (gd : X.A.guards = some [])
    (ha : PA X (e :: es) t) (he : starEach (e :: es) X.env = (false, eval e X.env) :: starEach es X.env) (hpl : (backTo pos (starEach es X.env)).any (·.1) = false) :
    PE X (.Call (.Attribute o m apos) (e :: es) [] pos) fun σ H Q => ta σ H fun x H1 => ∃ a C dx fs sp, x = .ref a ∧ H1 a = some (.ins C dx fs) ∧ fs.lookup m = none ∧ MethAt X C m sp ∧ t σ H1 fun vs H2 => sp (x :: vs) H2 Q E0 := by
  constructor
  intro pins s σ H Q J z
  refine call_at hb hl hf (thn (ho.run pins s σ H _ J z) ?_)
  rintro u s1 ⟨x, H1, J1, rx, a, C, dx, fs, sp, rfl, ea, l, ⟨k, f, fd, ps, c, hm, F, room, bnd⟩, q⟩ pl
  cases rx
  refine getmeth_ok J1 ea c hm l ?_
  refine PySem.W.callWith_K (first := [.ref a]) (h₀ := X.base) J1.ok.mod.kin hm.kp (thn (ha.run pos pins s1 σ H1 _ J1 q) ?_) he hpl
  rintro us s2 ⟨vs, H2, J2, rel, want⟩
  exact ⟨J2.kIn, F.step (us := .ref a :: us) (vs := .ref a :: vs) gd room bnd J2 (.cons rfl rel) want⟩
theorem pe_methG0 {m : Str} {o : Expr} {apos : Pos} {ta : TE} (ho : PE X o ta) (hb : attributeBase o m X.env (eval o X.env) = eval o X.env) (hl : (apos.endLine == pos.line) = true) (gd : X.A.guards = some []) :
    PE X (.Call (.Attribute o m apos) [] [] pos) fun σ H Q => ta σ H fun x H1 => ∃ a C dx fs sp, x = .ref a ∧ H1 a = some (.ins C dx fs) ∧ fs.lookup m = none ∧ MethAt X C m sp ∧ sp [x] H1 Q E0 := by
  constructor
  intro pins s σ H Q J z
  refine call_at hb hl rfl (thn (ho.run pins s σ H _ J z) ?_)
  rintro u s1 ⟨x, H1, J1, rx, a, C, dx, fs, sp, rfl, ea, l, ⟨k, f, fd, ps, c, hm, F, room, bnd⟩, want⟩ pl
  cases rx
  refine getmeth_ok J1 ea c hm l ?_
  exact PySem.W.callWith_K0 (first := [.ref a]) J1.kIn hm.kp (F.step (us := [.ref a]) (vs := [.ref a]) gd room bnd J1 (.cons rfl .nil) want)
end
end VL

set_option maxRecDepth 100000
set_option maxHeartbeats 2000000
/-! VL: t[::-1] of a tuple; dicts of the module. -/
namespace VL
open PySem L2 Evl PyProof.Rows PySem.Spec
section
variable {prog : Program} {w : World} {A : Around} {E : Value → Shared → Prop} {s : Shared}
theorem rev_adjust (n : Nat) : Builtin.Slice.sliceAdjust none none (-1) (n : Int) = ((n : Int) - 1, -1) := by
  unfold Builtin.Slice.sliceAdjust
  have h1 : ((-1 : Int) < 0) := by decide
  simp only [h1, if_true]
theorem rev_places (n : Nat) : Builtin.Slice.slicePlaces ((n : Int) - 1) (-1) (-1) = n := by
  unfold Builtin.Slice.slicePlaces
  have h1 : ¬ ((-1 : Int) > 0) := by decide
  have h2 : (-(-1) : Int) = 1 := by decide
  simp only [h1, if_false, h2, Int.ediv_one]
  split <;> omega
theorem fm_congr {α β : Type} {f g : α → Option β} : ∀ {l : List α}, (∀ a ∈ l, f a = g a) → l.filterMap f = l.filterMap g
  | [], _ => rfl
  | x :: l, h => by rw [List.filterMap_cons, List.filterMap_cons, h x (by simp), fm_congr fun a m => h a (List.mem_cons_of_mem _ m)]
theorem rev_pick (xs : Array Value) : ((List.range xs.size).filterMap fun (m : Nat) => xs[((xs.size : Int) - 1 + (m : Int) * -1).toNat]?).toArray = xs.toList.reverse.toArray := by
  have g := HT.pick_gen xs.toList.reverse.toArray 0 xs.size
  have e : ((List.range xs.size).filterMap fun (m : Nat) => xs[((xs.size : Int) - 1 + (m : Int) * -1).toNat]?) = ((List.range xs.size).filterMap fun (m : Nat) => xs.toList.reverse.toArray[(((0 : Nat) : Int) + (m : Int) * 1).toNat]?) := by
    apply fm_congr
    intro m hm
    have hm := List.mem_range.mp hm
    have e1 : ((xs.size : Int) - 1 + (m : Int) * -1).toNat = xs.size - 1 - m := by omega
    have e2 : (((0 : Nat) : Int) + (m : Int) * 1).toNat = m := by omega
    rw [e1, e2]
    simp only [List.getElem?_toArray]
    rw [List.getElem?_reverse (by simpa using hm)]
    simp
  rw [e, g]
  congr 1
  rw [List.drop_zero]
  exact List.take_of_length_le (by simp)
theorem slicePart_m1 {t : Tok} {Q : Option Int → Shared → Prop} (h : Q (some (-1)) s) : wpAny (model prog w) A (Builtin.Slice.slicePartIndex (.int (-1) t)) Q E s := HT.slicePart_ (.int (-1) t) h
theorem sliceApplied_rev {sl : Addr} {vl vu vs : Value} {n : Nat} {Q : Int × Int × Nat → Shared → Prop} (hs : s.heap.IsSliceOf sl vl vu vs) (pl : IsPart vl none) (pu : IsPart vu none) (ps : IsPart vs (some (-1)))
    (h : Q ((n : Int) - 1, -1, n) s) : wpAny (model prog w) A (Builtin.Slice.sliceApplied (.ref sl) (pure (n : Int))) Q E s := by
  obtain ⟨os, hos, hcs, hds⟩ := id hs
  unfold Builtin.Slice.sliceApplied Builtin.Slice.sliceFields
  refine wpAny_bind (wpAny_bind (wpAny_field hos hds (x := vl) rfl (wpAny_bind (wpAny_field hos hds (x := vu) rfl (wpAny_bind (wpAny_field hos hds (x := vs) rfl (wpAny_pure ?_)))))))
  refine wpAny_bind (HT.slicePart_ ps ?_)
  show wpAny _ _ (if ((-1 : Int) == 0) = true then _ else _) _ _ s
  rw [if_neg (by decide)]
  refine wpAny_bind (HT.slicePart_ pl (wpAny_bind (HT.slicePart_ pu (wpAny_bind (wpAny_pure ?_)))))
  show wpAny _ _ (match Builtin.Slice.sliceAdjust none none (-1) (n : Int) with | (lo, hi) => pure (lo, (-1 : Int), Builtin.Slice.slicePlaces lo hi (-1))) _ _ s
  rw [rev_adjust n]
  show wpAny _ _ (pure ((n : Int) - 1, (-1 : Int), Builtin.Slice.slicePlaces ((n : Int) - 1) (-1) (-1))) _ _ s
  rw [rev_places]
  exact wpAny_pure h
theorem getItem_tuple_rev {t sl : Addr} {items : Array Value} {vl vu vs : Value} {Q : Value → Shared → Prop} (ht : IsTup s.heap t items) (hs : s.heap.IsSliceOf sl vl vu vs) (pl : IsPart vl none) (pu : IsPart vu none) (ps : IsPart vs (some (-1)))
    (h : Q (.ref s.heap.objs.size) { s with heap := s.heap.push { cls := .type "tuple", data := .seq items.toList.reverse.toArray } })
    (hsz : items.size ≤ sizeLine) : wpAny (model prog w) A (getItem (.ref t) (.ref sl)) Q E s := by
  have htake : sizeOk (.seq items.toList.reverse.toArray) := by
    show items.toList.reverse.toArray.size ≤ sizeLine
    rw [List.size_toArray, List.length_reverse, Array.length_toList]
    exact hsz
  obtain ⟨os, hos, hcs, hds⟩ := id hs
  have hTs : s.TypeIs (.ref sl) "slice" := ⟨os, hos, hcs⟩
  unfold getItem
  try with_reducible refine wpAny_holding ?_
  first | refine wpAny_bind (wpAny_pure ?_) | skip
  refine wpAny_bind (wpAny_sequenceKey ht.typeIs (by decide) ?_)
  refine wpAny_bind (wpAny_callSpecial?_slot (name := Str.ofString "__getitem__") ht.typeIs PyProof.Rows.slot_tuple_getitem
    (wpAny_call_entry PyProof.Rows.slot_tuple_getitem ht.typeIs entry_tuple_getitem ?_ (args_tuple_getitem _ _)))
  show wpAny _ _ (Builtin.Tuple.tupleItemsOf (.ref t) >>= _) _ _ s
  refine wpAny_bind (PyProof.Rows.tupleItemsOf_ ht ?_)
  refine wpAny_bind (wpAny_typeOf hTs ?_)
  rw [if_pos (by decide)]
  refine wpAny_bind (sliceApplied_rev hs pl pu ps ?_)
  have hno : ¬ ((((items.size : Int) - 1) == 0 && (-1 : Int) == 1 && (items.size == items.size)) = true) := by
    intro q
    rw [Bool.and_eq_true, Bool.and_eq_true] at q
    have := eq_of_beq q.1.2
    omega
  show wpAny _ _ (if (((items.size : Int) - 1) == 0 && (-1 : Int) == 1 && (items.size == items.size)) = true then _ else _) _ _ s
  rw [if_neg hno, rev_pick]
  first
    | exact wpAny_bind (m := Builtin.Tuple.tupleExact _) (wpAny_newObj_type (wpAny_pure ⟨_, rfl, wpAny_pure h⟩) htake)
    | exact wpAny_bind (m := Builtin.Tuple.tupleExact _) (wpAny_newObj_type (wpAny_bind (wpAny_pure (wpAny_pure ⟨_, rfl, wpAny_pure h⟩))) htake)
    | exact wpAny_bind (wpAny_bind (m := Builtin.Tuple.tupleExact _) (wpAny_newObj_type (wpAny_pure (wpAny_pure ⟨_, rfl, wpAny_pure h⟩)) htake))
    | exact wpAny_bind (wpAny_bind (m := Builtin.Tuple.tupleExact _) (wpAny_newObj_type (wpAny_pure ⟨_, rfl, wpAny_pure h⟩) htake))
end
def notStar1 : Expr → Bool
  | .Starred _ _ => false
  | _ => true
section
variable {X : Cx}
def tRevT (K : PySem.W.Frag) (te : TE) : TE := fun σ H Q => te σ H fun x H1 => ∃ a xs, x = .ref a ∧ SqT K H1 a xs ∧ ∀ p, H1 p = none → Q (.ref p) (upd H1 p (.tup xs.reverse))
theorem pe_revT {e : Expr} {te : TE} {k : Nat} {p1 p2 p3 pos : Pos} (he : PE X e te) : PE X (.Subscript e (.Slice none none (some (.UnaryOp .USub (.Constant (.int 1) k p1) p2)) p3) pos) (tRevT X.K te) := by
  refine ⟨fun pins s σ H Q I h => ?_⟩
  refine Subscript_ (thn (he.run pins s σ H _ I h) fun v s1 ⟨x, H1, I1, r1, q1⟩ => ?_)
  obtain ⟨a, xs, ex, hx, q⟩ := q1
  subst ex
  cases r1
  have hst : PO X (some (.UnaryOp .USub (.Constant (.int 1) k p1) p2)) (tPart (tUn (rU fun i => .int (-i)) (tC (.int 1)))) := po_some (pe_un un_neg pe_int)
  refine wpAny_Slice (thn (po_none.run pins s1 σ H1 (fun o H2 => o = none ∧ H2 = H1) I1 ⟨rfl, rfl⟩) fun vl s2 ⟨l, H2, I2, pl, el, e2⟩ => ?_)
  subst el e2
  refine thn (po_none.run pins s2 σ H2 (fun o H3 => o = none ∧ H3 = H2) I2 ⟨rfl, rfl⟩) fun vu s3 ⟨u, H3, I3, pu, eu, e3⟩ => ?_
  subst eu e3
  refine thn (hst.run pins s3 σ H3 (fun o H4 => o = some (-1) ∧ H4 = H3) I3 ⟨1, rfl, -1, rfl, rfl, rfl⟩) fun vs s4 ⟨o, H4, I4, ps, eo, e4⟩ => ?_
  subst eo e4
  have I5 : Inv X pins σ H4 { s4 with heap := s4.heap.push { cls := .type "slice", data := .fields #[vl, vu, vs] } } := I4.kept (t' := s4.toks) fun b ob q => Heap.get?_push_of_some _ q
  obtain ⟨its, r, ht, hz⟩ := I5.tuple hx
  have hlen : its.toArray.size = xs.length := by rw [List.size_toArray]; exact r.length.symm
  show wpAny (model X.prog X.w) X.A (subscriptTail e (.Slice none none (some (.UnaryOp .USub (.Constant (.int 1) k p1) p2)) p3) (.ref a) (.ref s4.heap.objs.size)) (EP X pins σ Q) X.xe { s4 with heap := s4.heap.push { cls := .type "slice", data := .fields #[vl, vu, vs] } }
  refine tail_any (ops := [.ref a, .ref s4.heap.objs.size]) ht.typeIs (PyProof.Rows.slot_tuple_getitem.lookup) ?_ (by with_unfolding_all rfl)
  refine getItem_tuple_rev ht (Heap.IsSliceOf.new _ vl vu vs) pl pu ps ?_ (by rw [hlen]; exact hz)
  refine ⟨.ref _, _, I5.laid (t' := s4.toks) (o := .tup xs.reverse) (fun b ob q => Heap.get?_push_of_some _ q) (Nat.le_refl _) ?_, rfl, q _ (I5.hok.fresh (Nat.le_refl _))⟩
  exact ⟨by rw [List.length_reverse]; exact hz, _, r.reverse, IsTup.new _ _⟩
/-! ### dicts of the module -/
/-- a dict of the module: keys and values -/
structure GDict (K : PySem.W.Frag) (w : World) (d : Addr) (kvs : List (Str × Int)) : Prop where
  kd : ∃ es n, KDict K w d es n
  v : ∀ z, match kvs.lookup z with
    | some i => ∃ t, PySem.W.nsIn K d z = some (some (.int i t))
    | none => PySem.W.nsIn K d z = some none
def noRef (e : DictEntry) : Prop := e.refKey = false
theorem keyOf_ref {e : DictEntry} {x : Str × Int} (h : He.keyOf e = some x) : e.refKey = false := by
  unfold He.keyOf at h
  split at h
  · rename_i y t q
    unfold DictEntry.refKey
    rw [q]
  · cases h
theorem keyOf_str {e : DictEntry} {x : Str × Int} (h : He.keyOf e = some x) (z : Str) : e.key.isStr z = decide (x.1 = z) := by
  unfold He.keyOf at h
  split at h
  · rename_i y t q
    cases h
    rw [q]
    show (y == z) = _
    by_cases c : y = z
    · subst c; simp
    · simp [c]
  · cases h
theorem find_none {P : Params} {z : Str} : ∀ {l : List DictEntry} {ks : List Str}, l.map He.keyOf = He.keysIn P ks → z ∉ ks → l.find? (·.key.isStr z) = none ∧ l.any (·.refKey) = false
  | [], _, _, _ => ⟨rfl, rfl⟩
  | e :: r, [], h, _ => by cases h
  | e :: r, k :: ks, h, hz => by
    have h1 : He.keyOf e :: r.map He.keyOf = some (k, PyData.keyHash P k) :: He.keysIn P ks := h
    injection h1 with h2 h3
    obtain ⟨i1, i2⟩ := find_none (z := z) h3 fun m => hz (List.mem_cons_of_mem _ m)
    have e1 : e.key.isStr z = false := by
      rw [keyOf_str h2 z]
      exact decide_eq_false fun q => hz (by rw [← q]; simp)
    refine ⟨?_, ?_⟩
    · rw [List.find?_cons, e1]; exact i1
    · rw [List.any_cons, keyOf_ref h2, i2]; rfl
theorem gdict_of {K : PySem.W.Frag} {w : World} {a : Addr} {kvs : List (Str × Int)} (h : He.dicW K a = some (He.keysIn w.params (kvs.map (·.1))))
    (hv : ∀ p ∈ kvs, ∃ t, PySem.W.nsIn K a p.1 = some (some (.int p.2 t))) : GDict K w a kvs where
  kd := He.dicW_ok h
  v := fun z => by
    cases c : kvs.lookup z with
    | some i =>
      have mem : (z, i) ∈ kvs := by
        clear h hv
        induction kvs with
        | nil => cases c
        | cons p r ih =>
          obtain ⟨x, y⟩ := p
          rw [List.lookup_cons] at c
          split at c
          · rename_i q
            have := eq_of_beq q
            cases c
            rw [this]; simp
          · exact List.mem_cons_of_mem _ (ih c)
      exact hv _ mem
    | none =>
      have nm : z ∉ kvs.map (·.1) := by
        clear h hv
        induction kvs with
        | nil => simp
        | cons p r ih =>
          obtain ⟨x, y⟩ := p
          rw [List.lookup_cons] at c
          split at c
          · cases c
          · rename_i q
            intro m
            rcases List.mem_cons.mp m with m | m
            · exact absurd (show (z == x) = true by simp [m]) (by simp [q])
            · exact ih c m
      show PySem.W.nsIn K a z = some none
      unfold He.dicW at h
      cases q : K.lookup a with
      | none => rw [q] at h; cases h
      | some o =>
        obtain ⟨oc, od, dt, osl⟩ := o
        rw [q] at h
        unfold PySem.W.nsIn
        rw [q]
        cases oc with
        | type cc =>
          cases od with
          | none =>
            cases dt with
            | dict es n =>
              simp only at h ⊢
              split at h
              · obtain ⟨f1, f2⟩ := find_none (Option.some.inj h) nm
                rw [f1]
                simp only
                rw [f2]; rfl
              · cases h
            | _ => cases h
          | some b => cases dt <;> cases h
        | _ => cases od <;> cases dt <;> cases h
theorem ix_gdict {d : Addr} {kvs : List (Str × Int)} (D : GDict X.K X.w d kvs) : IxR X (fun x y H Q => ∃ z i, x = .ref d ∧ y = .str z ∧ kvs.lookup z = some i ∧ Q (.int i) H) := by
  intro value slice pins s σ H x y v u Q I rx ry h hs
  obtain ⟨z, i, ex, ey, hi, q⟩ := h
  have := D.v z
  rw [hi] at this
  obtain ⟨t, ht⟩ := this
  obtain ⟨es, n, KD⟩ := D.kd
  exact ix_kdict value slice pins s σ H x y v u Q I rx ry ⟨d, z, .int i, ex, ey, ⟨es, n, _, KD.at_, KD.lit, ht, ⟨t, rfl⟩⟩, q⟩ hs
theorem op_gIn {d : Addr} {kvs : List (Str × Int)} (D : GDict X.K X.w d kvs) : OpR X (compareOp .In) (fun x y H Q => ∃ z, x = .str z ∧ y = .ref d ∧ Q (.bl (kvs.lookup z).isSome) H) := by
  intro pins s σ H x y v u Q I rx ry h
  obtain ⟨z, ex, ey, q⟩ := h
  obtain ⟨es, n, KD⟩ := D.kd
  have := D.v z
  cases c : kvs.lookup z with
  | some i =>
    rw [c] at this q
    obtain ⟨t, ht⟩ := this
    exact op_in_kd KD pins s σ H x y v u Q I rx ry ⟨z, _, ex, ey, ht, q⟩
  | none =>
    rw [c] at this q
    exact op_in_kd KD pins s σ H x y v u Q I rx ry ⟨z, _, ex, ey, this, q⟩
theorem op_gNotIn {d : Addr} {kvs : List (Str × Int)} (D : GDict X.K X.w d kvs) : OpR X (compareOp .NotIn) (fun x y H Q => ∃ z, x = .str z ∧ y = .ref d ∧ Q (.bl (!(kvs.lookup z).isSome)) H) := by
  intro pins s σ H x y v u Q I rx ry h
  obtain ⟨z, ex, ey, q⟩ := h
  obtain ⟨es, n, KD⟩ := D.kd
  have := D.v z
  cases c : kvs.lookup z with
  | some i =>
    rw [c] at this q
    obtain ⟨t, ht⟩ := this
    exact op_notIn_kd KD pins s σ H x y v u Q I rx ry ⟨z, _, ex, ey, ht, q⟩
  | none =>
    rw [c] at this q
    exact op_notIn_kd KD pins s σ H x y v u Q I rx ry ⟨z, _, ex, ey, this, q⟩
/-! ### list.index -/
theorem one_form {e : Expr} {env : PySem.Env} (h : notStar1 e = true) (pos : Pos) : ((backTo pos (starEach [e] env)).all (fun x => !x.1) && (backToKw pos (keywordEach [] env)).all (fun x => x.1.isSome)
      && decide (([e] : List Expr).length + ([] : List Keyword).length + (if ([] : List Keyword).isEmpty then 0 else 1) < 30)) = true := by
  cases e <;> first | rfl | cases h
theorem pe_index {o e : Expr} {apos pos : Pos} {to te : TE} (ho : PE X o to) (he : PE X e te) (hn : notStar1 e = true) (hbase : attributeBase o "index" X.env (eval o X.env) = eval o X.env := by rfl) (hline : (apos.endLine == pos.line) = true := by rfl) :
    PE X (.Call (.Attribute o "index" apos) [e] [] pos) (tBM X.K "list" (rIndex X.K) to (tCons te tNil)) := by
  have hs : starEach [e] X.env = (false, eval e X.env) :: starEach [] X.env := by cases e <;> first | rfl | cases hn
  exact pe_bm PySem.F.plainAttrs_list PySem.F.slot_list_index PySem.F.type_list_index mt_index ho (pa_cons he pa_nil hs) hbase (one_form hn _) hline hs rfl
end
end VL

set_option maxRecDepth 100000
set_option maxHeartbeats 2000000
/-! VL: defs that an exception of an own class may leave; the exception's row; isinstance of it. -/
namespace VL
open PySem L2 Evl PyProof.Rows PySem.Spec
/-! ### the __init__ that keeps the row -/
def spRow (K : PySem.W.Frag) : Sp := fun vs H Q _ => ∃ (a C : Addr) (n : Int), vs = [.ref a, .int n] ∧ OexC K C ∧ PySem.W.findIn K (.ref C) "row" = some none ∧ H a = some (exo a C none) ∧
  ∀ dx, H dx = none → dx ≠ a → Q .non (upd (upd H dx (exd dx [("row", .int n)])) a (exo a C (some dx)))
def isRowInit : List Stmt → Bool
  | [.Assign [.Attribute (.Name a _) b _] (.Name c _) _] => decide (a = "self") && decide (b = "row") && decide (c = "row")
  | _ => false
theorem row_init {P : Program} {W : World} {K : PySem.W.Frag} {gl : Str → Option Value} {B : Heap} {name qn : Str} {st : Stmt} {f : Addr} {fd : FuncData} (F : Fun K name qn st f fd) (S : FnScope ["self", "row"] ["self", "row"] (defScope st))
    (v1 : Vis (defScope st) "self") (v2 : Vis (defScope st) "row") (hb : isRowInit (defBody st) = true) : FnOk P W K gl B CX0 1 f fd ["self", "row"] (spRow K) := by
  obtain ⟨oc, od, kV, dc, pm, an, cv, ct, sl, rfl, at_, code⟩ := F.ex
  refine fn_of (k := 0) at_ code S (fun vs H Q E ⟨a, C, n, e, _⟩ => by rw [e]; rfl) fun A outer s H vs Q E hr ⟨a, C, n, e, T, hno, ea, q⟩ => ?_
  unfold isRowInit at hb
  split at hb
  · rename_i x p1 y p2 z p3 p4 eb
    simp only [Bool.and_eq_true, decide_eq_true_eq] at hb
    obtain ⟨⟨rfl, rfl⟩, rfl⟩ := hb
    rw [eb]
    refine ⟨_, pss_cons (ps_ost (pe_var (i := 0) rfl v1 (by decide +kernel) (by decide +kernel)) (pe_var (i := 1) rfl v2 (by decide +kernel) (by decide +kernel)) rfl) pss_nil, ?_⟩
    subst e
    refine ⟨.int n, rfl, .ref a, rfl, a, C, rfl, T, hno, .inl ⟨ea, fun dx h1 h2 => q dx h1 h2⟩⟩
  · cases hb
/-! ### isinstance of a caught exception that has fields -/
structure ExcD (K : PySem.W.Frag) (D : Addr) : Prop where
  hcl : (PySem.W.clsIn K D).isSome = true
  hga : PySem.W.findIn K (.ref D) "__getattribute__" = some (some (.builtin "BaseException.__getattribute__"))
  hgt : PySem.W.findIn K (.ref D) "__getattr__" = some none
  hsub : PySem.W.subIn K (.ref D) (.type "BaseException") = some true
  ha : PySem.W.findIn K (.ref D) "__class__" = some (some (.builtin "object.__class__"))
  hn : PySem.W.specialIn K (.builtin "object.__class__") "__get__" = some (some (.builtin "getset_descriptor.__get__"))
  ht : PySem.W.takesIn K (.builtin "object.__class__") = some true
  hm : PySem.W.mroIn K D (.type "object") = some true
section
variable {X : Cx} {a D dd : Addr} {oe : Obj} {pn : List (Addr × Obj)}
theorem inst_at {pins : List (Addr × Obj)} {σ : L2.St} {H : Hp} {s : Shared} {fs : List (Str × V)} (hz : Zc (.ref D) (some dd) oe) (hf : ∃ vs, oe.data = .fields vs) (I : Inv (X.suite a ((a, oe) :: pn)) pins σ H s) (ea : H dd = some (.xd fs)) :
    ∃ od, PySem.W.InstAt s.heap a oe D (some od) := by
  obtain ⟨ha, _⟩ := I.pin (a, oe) (List.mem_append_left _ List.mem_cons_self)
  obtain ⟨vs, hd⟩ := hf
  have hx : ObjOk X.prog X.w H s.heap dd (.xd fs) := I.hok dd _ ea
  obtain ⟨mA, hns, hr⟩ := hx
  obtain ⟨od, ho, hl⟩ := lookIn_ns hns
  exact ⟨od, ha, hz.1, by unfold PySem.W.notCls; rw [hd] <;> rfl, by rw [hz.2]; exact ho⟩
theorem call_isX (C : ExcD X.K D) (hz : Zc (.ref D) (some dd) oe) (hf : ∃ vs, oe.data = .fields vs) : CallR (X.suite a ((a, oe) :: pn)) (.builtin "isinstance")
    (fun xs H Q => ∃ (c : V) (cv : Value) (b : Bool) (fs : List (Str × V)), xs = [.ref a, c] ∧ (∀ u, RelV c u → u = cv) ∧ PySem.W.kitOne X.K (.ref D) cv = some b ∧ H dd = some (.xd fs) ∧ Q (.bl b) H) := by
  intro pins s σ H xs us Q I r h
  obtain ⟨c, cv, b, fs, rfl, hcv, e, ea, q⟩ := h
  obtain ⟨u1, u2, rfl, r1, r2⟩ := vals2 r
  cases (show u1 = Value.ref a from r1)
  have ec := hcv _ r2
  subst ec
  obtain ⟨od, J⟩ := inst_at hz hf I ea
  exact PySem.W.kia_one (PySem.W.kitx_exc C.hcl C.hga C.hgt C.hsub C.ha C.hn C.ht C.hm) I.kIn J e (fun z => nomatch z) fun tk => ⟨.bl b, H, I.tok tk, rfl, q⟩
theorem call_isXT (C : ExcD X.K D) (hz : Zc (.ref D) (some dd) oe) (hf : ∃ vs, oe.data = .fields vs) : CallR (X.suite a ((a, oe) :: pn)) (.builtin "isinstance")
    (fun xs H Q => ∃ (tp : Addr) (cs : List V) (us : List Value) (b : Bool) (fs : List (Str × V)), xs = [.ref a, .ref tp] ∧ H tp = some (.tup cs) ∧ Paired ClsV cs us ∧ PySem.W.kitAny X.K (.ref D) us = some b ∧ H dd = some (.xd fs) ∧ Q (.bl b) H) := by
  intro pins s σ H xs us Q I r h
  obtain ⟨tp, cs, ws, b, fs, rfl, hT, k, e, ea, q⟩ := h
  obtain ⟨u1, u2, rfl, r1, r2⟩ := vals2 r
  cases (show u1 = Value.ref a from r1)
  cases (show u2 = Value.ref tp from r2)
  obtain ⟨od, J⟩ := inst_at hz hf I ea
  obtain ⟨_, its, rv, o, h1, h2, n, h3⟩ := (show ObjOk X.prog X.w H s.heap tp (.tup cs) from I.hok tp _ hT)
  have e3 := ClsV.all k rv
  subst e3
  obtain ⟨oc, od, dt, sl⟩ := o
  simp only at h2 h3
  subst h2 h3
  exact PySem.W.kia_tup (PySem.W.kitx_exc C.hcl C.hga C.hgt C.hsub C.ha C.hn C.ht C.hm) I.kIn J h1 e (fun z => nomatch z) fun tk => ⟨.bl b, H, I.tok tk, rfl, q⟩
end
/-! ### defs that an exception may leave -/
structure FnGX (P : Program) (W : World) (K : PySem.W.Frag) (gl : Str → Option Value) (B : Heap) (k : Nat) (f : Addr) (fd : FuncData) (ps : List Str) (sp : Sp) : Prop where
  cnt : ∀ vs H Q E, sp vs H Q E → vs.length = ps.length
  go : ∀ (A : Around) (fr : List PySem.Env) (s : Shared) (H : Hp) (ar : Args) (us : List Value) (vs : List V) (Q : VK) (E : XK),
    A.guards = some [] → Room k A → Env0 P W K gl B A fr s H → BindsTo s fd ar (ps.zip us) → Vals vs us → sp vs H Q E →
    codeAny (model P W) A (.call (.ref f) ar) (CR (L2.CX P W) fr P W H s Q E) s
section
variable {P : Program} {W : World} {K : PySem.W.Frag} {gl : Str → Option Value} {B : Heap}
theorem FnGX.of_body {name qn : Str} {st : Stmt} {f : Addr} {fd : FuncData} {N ps : List Str} {k : Nat} {sp : Sp} (F : Fun K name qn st f fd) (S : FnScope N ps (defScope st)) (cnt : ∀ vs H Q E, sp vs H Q E → vs.length = ps.length)
    (body : ∀ (cv : Value) (A : Around) (fr : List PySem.Env) (s : Shared) (H : Hp) (vs : List V) (Q : VK) (E : XK), (A.deeper (envOfC qn (defScope st) s.heap.objs.size f cv)).guards = some [] →
      Room k (A.deeper (envOfC qn (defScope st) s.heap.objs.size f cv)) → sp vs H Q E →
      ∃ t, PSs (cxOf (L2.CX P W) P W K gl B N qn (defScope st) f cv A fr s H E) (defBody st) t ∧ t { nx := fun _ H' => Q .non H', rt := Q } (L2.start N vs) H) :
    FnGX P W K gl B (k + 1) f fd ps sp := by
  obtain ⟨oc, od, kV, dc, pm, an, cv, ct, sl, rfl, at_, code⟩ := F.ex
  constructor
  · exact cnt
  intro A fr s H ar us vs Q E gd room env bnd rel want
  have here : K.In s.heap := env.mod.kin.keeps fun b o z => (env.bs b o z).1
  have kinds : ∀ y ∈ ps.zip us, (defScope st).names.lookup y.1 = some .local ∨ ((defScope st).names.lookup y.1 = some .cell ∧ ((cellsFrom (s.heap.objs.size + 1) (defScope st).names []).lookup y.1).isSome = true) := by
    rintro ⟨nm, v⟩ hy
    rcases S.par nm (List.of_mem_zip hy).1 with z | z
    · exact Or.inl z
    · exact Or.inr ⟨z, PySem.W.cellsFrom_some _ _ _ (Or.inl z)⟩
  refine codeAny_call_function room.depth (here _ _ at_) rfl S.co S.gen rfl (PySem.W.codeRec_of here code) (bnd _ _ _ _ ?_)
  refine wpAny_newFunctionEnv_cells S.kind kinds fun e0 he s1 x => ?_
  cases he
  have calm : s.heap.NoLimit := env.mod.nolimit.keeps fun b o z => (env.bs b o z).1
  refine And.intro (calm.keeps x.toInCall.keep) (codeAny_func ?_)
  obtain ⟨t, pt, run⟩ := body cv A fr s H vs Q E gd (room.deeper _) want
  have J : Inv (cxOf (L2.CX P W) P W K gl B N qn (defScope st) f cv A fr s H E) [] (L2.start N vs) H s1 := inv_start S room.hd env (cnt _ _ _ _ want) rel x
  refine wpAny_mono (pt.run [] s1 (L2.start N vs) H _ J run) ?_ fun _ _ z => z
  intro fl s2 z
  match fl, z with
  | .ret u, ⟨v, _, H2, J2, rv, q⟩ => exact ⟨v, H2, J2.os, J2.bare, J2.base, J2.hok, rv, q⟩
  | .next, ⟨_, H2, J2, q⟩ => exact ⟨V.non, H2, J2.os, J2.bare, J2.base, J2.hok, rfl, q⟩
  | .brk, ⟨_, _, _, q⟩ => exact q.elim
  | .cont, ⟨_, _, _, q⟩ => exact q.elim
end
section
variable {X : Cx} {k : Nat} {f : Addr} {fd : FuncData} {ps : List Str} {sp : Sp} {x : Str} {p pos : Pos} {e : Expr} {es : List Expr} {t : TA} {W : WX}
theorem FnGX.step {pins : List (Addr × Obj)} {σ : L2.St} {H : Hp} {s : Shared} {Q : VK} {us : List Value} {vs : List V} (F : FnGX X.prog X.w X.K X.mg X.base k f fd ps sp) (gd : X.A.guards = some []) (room : Room k X.A) (bnd : Binds X.K fd ps []) (tk : Takes X W)
    (J : Inv X pins σ H s) (rel : Vals vs us) (want : sp vs H Q fun c d H' => W c d σ H') : wpAny (model X.prog X.w) X.A (call (.ref f) us) (EP X pins σ Q) X.xe s := by
  have n1 : (us ++ []).length = ps.length := by
    rw [List.append_nil, ← rel.length]
    exact F.cnt _ _ _ _ want
  have b1 := bnd s us J.kIn n1
  rw [List.append_nil] at b1
  refine wpAny_call (codeAny_mono (F.go X.A X.stack s H ⟨us, []⟩ us vs Q _ gd room J.env0 b1 rel want) ?_)
  intro r s2 z
  match r, z with
  | .ok (.ret u), z => exact J.after z
  | .ok .next, z => exact z.elim
  | .ok .brk, z => exact z.elim
  | .ok .cont, z => exact z.elim
  | .error er, z => exact passAt tk σ pins H s er s2 J z
/-- f(e, ..), which may raise -/
theorem FnGX.call (F : FnGX X.prog X.w X.K X.mg X.base k f fd ps sp) (gd : X.A.guards = some []) (room : Room k X.A) (hg : Gl X x) (hm : X.mg x = some (.ref f)) (hk : PySem.W.keepIn X.K (.ref f) = true) (bnd : Binds X.K fd ps []) (tk : Takes X W)
    (ha : PA X (e :: es) t) (hdb : (x == ("__debug__" : Str)) = false) (he : starEach (e :: es) X.env = (false, eval e X.env) :: starEach es X.env) (hpl : (backTo pos (starEach es X.env)).any (·.1) = false) :
    PE X (.Call (.Name x p) (e :: es) [] pos) fun σ H Q => t σ H fun vs H1 => sp vs H1 Q fun c d H' => W c d σ H' := by
  constructor
  intro pins s σ H Q J z
  refine wpAny_Call_Name_kw (ld_glob J hg hm ?_ hdb)
  refine PySem.W.callWith_K (h₀ := X.base) J.ok.mod.kin hk (thn (ha.run pos pins s σ H _ J z) ?_) he hpl
  rintro us s1 ⟨vs, H1, J1, rel, want⟩
  exact ⟨J1.kIn, F.step gd room bnd tk J1 rel want⟩
end
end VL

set_option maxRecDepth 100000
set_option maxHeartbeats 2000000
/-! VL: the syntax against the text; each construct. -/
namespace VL
open PySem L2 Evl PyProof.Rows PySem.Spec

/-! ### names -/
structure Tab where
  fname : Nat → Option Str
  gname : Nat → Str
  cname : Nat → Option Str
  iname : Nat → Option Str := fun _ => none
  dname : Nat → Option Str := fun _ => none
  ename : Nat → Option Str := fun _ => none
  xname : Nat → Option Str := fun _ => none
def glB (sc : Scope) (x : Str) : Bool := decide (sc.names.lookup x = some .globalImplicit)
def visB (sc : Scope) (x : Str) : Bool := match sc.names.lookup x with
  | some .local => true
  | some .cell => true
  | some .free => true
  | _ => false
def locB (sc : Scope) (x : Str) : Bool := match sc.names.lookup x with
  | some .local => true
  | some .cell => true
  | _ => false
def plainName (x : Str) : Bool := !(x == ("__debug__" : Str)) && !(x == ("__classdict__" : Str)) && decide (x ≠ "__name__")
theorem glB_ok {X : Cx} {x : Str} (h : glB X.env.scope x = true) : Gl X x := by
  show X.env.scope.names.lookup x = some .globalImplicit
  exact of_decide_eq_true h
theorem visB_ok {sc : Scope} {x : Str} (h : visB sc x = true) : Vis sc x := by
  unfold visB at h
  split at h
  · exact .inl (by assumption)
  · exact .inr (.inl (by assumption))
  · exact .inr (.inr (by assumption))
  · cases h
theorem locB_ok {sc : Scope} {x : Str} (h : locB sc x = true) : Loc sc x := by
  unfold locB at h
  split at h
  · exact .inl (by assumption)
  · exact .inr (by assumption)
  · cases h
theorem plainName_ok {x : Str} (h : plainName x = true) : (x == ("__debug__" : Str)) = false ∧ (x == ("__classdict__" : Str)) = false ∧ x ≠ "__name__" := by
  unfold plainName at h
  simp only [Bool.and_eq_true, Bool.not_eq_true', decide_eq_true_eq] at h
  exact ⟨h.1.1, h.1.2, h.2⟩
def agVar (sc : Scope) (N : List Str) (i : Nat) (x : Expr) : Bool := match x with
  | .Name id _ => decide (N[i]? = some id) && visB sc id && plainName id
  | _ => false
def bName : Blt → Str
  | .len => "len" | .abs => "abs" | .int => "int" | .str => "str" | .max2 => "max" | .min2 => "min" | .maxL => "max" | .minL => "min"
  | .sum => "sum" | .all => "all" | .any => "any" | .tuple => "tuple" | .repr => "repr"
def bltNames : List Str := ["len", "abs", "int", "str", "max", "min", "sum", "all", "any", "tuple", "list", "range", "isinstance", "bool", "dict", "repr", "sorted", "zip", "enumerate", "reversed"]
theorem bName_mem (b : Blt) : bName b ∈ bltNames := by cases b <;> decide +kernel
theorem bName_boot (b : Blt) : bootBuiltins (bName b) = some (bVal b) := by cases b <;> decide +kernel
theorem bName_plain (b : Blt) : plainName (bName b) = true := by cases b <;> decide +kernel
def notStar : Expr → Bool
  | .Starred _ _ => false
  | _ => true
def notSlice : Expr → Bool
  | .Slice _ _ _ _ => false
  | _ => true
def notSet : Expr → Bool
  | .Set _ _ _ => false
  | _ => true
/-- no super() -/
def notSup : Expr → Bool
  | .Call _ _ _ _ => false
  | _ => true
theorem star_cons {x : Expr} (h : notStar x = true) (r : List Expr) (env : PySem.Env) : starEach (x :: r) env = (false, eval x env) :: starEach r env := by
  cases x <;> first | rfl | cases h
theorem star_all : ∀ {es : List Expr}, es.all notStar = true → ∀ (pos : Pos) (env : PySem.Env), (backTo pos (starEach es env)).any (·.1) = false
  | [], _, _, _ => rfl
  | e :: es, h, pos, env => by
    rw [List.all_cons, Bool.and_eq_true] at h
    rw [star_cons h.1]
    show (false || (backTo pos (starEach es env)).any (·.1)) = false
    rw [star_all h.2] <;> rfl
theorem plainIx_of {x : Expr} (h : notSlice x = true) : PlainIx x := fun o i => by
  cases x <;> first | rfl | cases h
theorem folded_of {x : Expr} (h : notSet x = true) (env : PySem.Env) : ∀ v, foldedSetIterable x env v = pure v := fun v => by
  cases x <;> first | rfl | cases h
theorem base_of {x : Expr} (h : notSup x = true) (f : Str) (env : PySem.Env) : attributeBase x f env (eval x env) = eval x env := by
  cases x <;> first | rfl | cases h
/-- a test that is its value's truth -/
def plainT : Expr → Bool
  | .UnaryOp .Not _ _ => false
  | .BoolOp _ _ _ => false
  | .IfExp _ _ _ _ => false
  | .Compare _ _ _ _ => false
  | _ => true
theorem plainT_ok {x : Expr} (h : plainT x = true) (env : PySem.Env) : ∀ whole, isTrue x env whole = (do let v ← whole; standAt x.pos; holding [v] (truthy v)) := fun whole => by
  cases x <;> first | rfl | cases h | (rename_i op _ _; cases op <;> first | rfl | cases h)

/-- a target: its name's kind by the block's scope as written and as it runs -/
def tgN (sc0 sc : Scope) (id : Str) : Bool := (decide (sc0.names.lookup id = some .local) && decide (sc.names.lookup id = some .local)) || (decide (sc0.names.lookup id = some .cell) && decide (sc.names.lookup id = some .cell))
def agNames (sc0 sc : Scope) (N : List Str) : List Nat → List Expr → Bool
  | [], [] => true
  | i :: is, .Name id _ :: es => decide (N[i]? = some id) && tgN sc0 sc id && agNames sc0 sc N is es
  | _, _ => false
def agTg (sc0 sc : Scope) (N : List Str) : Tg → Expr → Bool
  | .nm i, x => match x with
    | .Name id _ => decide (N[i]? = some id) && tgN sc0 sc id
    | _ => false
  | .tup is, x => match x with
    | .Tuple es _ _ => agNames sc0 sc N is es
    | _ => false
def tgIds : Tg → List Nat
  | .nm i => [i]
  | .tup is => is
def ownP (N : List Str) : List Nat → List (Str × Nat)
  | [] => []
  | i :: is => (N.getD i "", i) :: ownP N is
theorem ownP_ids (N : List Str) (is : List Nat) : (ownP N is).map (·.2) = is := by
  induction is with
  | nil => rfl
  | cons i is ih => simp [ownP, ih]

def tail2 (op : BoolOp) (z : Expr) (pos : Pos) : List Expr → Expr
  | [] => z
  | w :: r => .BoolOp op (z :: w :: r) pos
def zipOk (it : It) (t : Expr) : Bool := match it with
  | .zip _ _ => match t with
    | .Tuple _ _ _ => true
    | _ => false
  | _ => true
mutual
def agE (T : Tab) (sc : Scope) (N : List Str) : E → Expr → Bool
  | .var i, x => agVar sc N i x
  | .vw i, x => agVar sc N i x
  | .cint i, x => match x with
    | .Constant (.int j) _ _ => decide (i = j)
    | _ => false
  | .cstr i, x => match x with
    | .Constant (.str j) _ _ => decide (i = j)
    | _ => false
  | .cbl i, x => match x with
    | .Constant (.bool j) _ _ => decide (i = j)
    | _ => false
  | .cnon, x => match x with
    | .Constant .none _ _ => true
    | _ => false
  | .glob g, x => match x with
    | .Name id _ => decide (id = T.gname g) && glB sc id && plainName id
    | _ => false
  | .bin op a b, x => match x with
    | .BinOp l o r _ => decide (op = o) && agE T sc N a l && agE T sc N b r
    | _ => false
  | .neg a, x => match x with
    | .UnaryOp .USub y _ => agE T sc N a y
    | _ => false
  | .not a, x => match x with
    | .UnaryOp .Not y _ => agE T sc N a y
    | _ => false
  | .cmp op a b, x => match x with
    | .Compare l [o] [r] _ => decide (op = o) && agE T sc N a l && agE T sc N b r && !behindInMarks o r
    | _ => false
  | .chain o1 o2 a b c, x => match x with
    | .Compare l [p1, p2] [r1, r2] _ => decide (o1 = p1) && decide (o2 = p2) && agE T sc N a l && agE T sc N b r1 && agE T sc N c r2 && !lastMarks [p1, p2] [r1, r2]
    | _ => false
  | .and a b, x => match x with
    | .BoolOp .And (y :: z :: rest) p => agE T sc N a y && agE T sc N b (tail2 .And z p rest)
    | _ => false
  | .or a b, x => match x with
    | .BoolOp .Or (y :: z :: rest) p => agE T sc N a y && agE T sc N b (tail2 .Or z p rest)
    | _ => false
  | .ite c a b, x => match x with
    | .IfExp t l r _ => agE T sc N c t && agE T sc N a l && agE T sc N b r
    | _ => false
  | .tup es, x => match x with
    | .Tuple xs _ _ => agEs T sc N es xs
    | _ => false
  | .fz n, x => agN T sc N n x
  | .new n, x => agN T sc N n x
  | .sub a i, x => match x with
    | .Subscript l r _ => agE T sc N a l && agE T sc N i r && notSlice r
    | _ => false
  | .slice a lo hi, x => match x with
    | .Subscript l (.Slice u v none _) _ => agE T sc N a l && agO T sc N lo u && agO T sc N hi v
    | _ => false
  | .call f es, x => match x with
    | .Call (.Name id _) xs [] _ => decide (T.fname f = some id) && glB sc id && plainName id && agEs T sc N es xs
    | _ => false
  | .blt b es, x => match x with
    | .Call (.Name id _) (y :: xs) [] _ => decide (id = bName b) && glB sc id && agEs T sc N es (y :: xs)
    | _ => false
  | .isi a t, x => match x with
    | .Call (.Name id _) [y, .Name id2 _] [] _ => decide (id = "isinstance") && glB sc id && decide (id2 = Str.ofString t) && glB sc id2 && agE T sc N a y && notStar y && (["int", "bool", "str", "list", "tuple"] : List String).contains t
    | _ => false
  | .smt m o a, x => match x with
    | .Call (.Attribute y nm apos) [z] [] cpos => (match m with | .join => decide (nm = "join")) && agE T sc N o y && agE T sc N a z && notStar z && notSup y && (apos.endLine == cpos.line)
    | _ => false
  | .attr a f, x => match x with
    | .Attribute y g _ => decide (f = g) && agE T sc N a y && notSup y
    | _ => false
  | .mcall o m es, x => match x with
    | .Call (.Attribute y nm apos) xs [] cpos => decide (m = nm) && agE T sc N o y && agEs T sc N es xs && notSup y && (apos.endLine == cpos.line) && decide (xs.length < 30)
    | _ => false
  | .make c es, x => match x with
    | .Call (.Name id _) (y :: xs) [] _ => decide (T.cname c = some id) && glB sc id && plainName id && agEs T sc N es (y :: xs)
    | _ => false
  | .tru a, x => agE T sc N a x && plainT x
  | .isC a c, x => match x with
    | .Call (.Name id _) [y, .Name id2 _] [] _ => decide (id = "isinstance") && glB sc id && decide (T.iname c = some id2) && glB sc id2 && plainName id2 && agE T sc N a y && notStar y
    | _ => false
  | .gIn neg a g, x => match x with
    | .Compare l [o] [.Name id p] _ => decide (o = if neg then .NotIn else .In) && agE T sc N a l && decide (T.dname g = some id) && glB sc id && plainName id && !behindInMarks o (.Name id p)
    | _ => false
  | .gGet g a, x => match x with
    | .Subscript (.Name id _) r _ => decide (T.dname g = some id) && glB sc id && plainName id && agE T sc N a r && notSlice r
    | _ => false
  | .idx l a, x => match x with
    | .Call (.Attribute y nm apos) [z] [] cpos => decide (nm = "index") && agE T sc N l y && agE T sc N a z && notStar1 z && notSup y && (apos.endLine == cpos.line)
    | _ => false
  | .popE o, x => match x with
    | .Call (.Attribute y nm apos) [] [] cpos => decide (nm = "pop") && agE T sc N o y && notSup y && (apos.endLine == cpos.line)
    | _ => false
  | .revT a, x => match x with
    | .Subscript l (.Slice none none (some (.UnaryOp .USub (.Constant (.int 1) _ _) _)) _) _ => agE T sc N a l
    | _ => false
def agEs (T : Tab) (sc : Scope) (N : List Str) : Es → List Expr → Bool
  | .nil, xs => match xs with
    | [] => true
    | _ => false
  | .cons e es, xs => match xs with
    | y :: ys => agE T sc N e y && notStar y && agEs T sc N es ys
    | _ => false
def agD (T : Tab) (sc : Scope) (N : List Str) : Es → List (Option Expr) → List Expr → Bool
  | .nil, xs, ys => match xs, ys with
    | [], [] => true
    | _, _ => false
  | .cons k (.cons v es), xs, ys => match xs, ys with
    | some x :: xs, y :: ys => agE T sc N k x && agE T sc N v y && agD T sc N es xs ys
    | _, _ => false
  | .cons _ .nil, _, _ => false
def agO (T : Tab) (sc : Scope) (N : List Str) : Oe → Option Expr → Bool
  | .no, x => match x with
    | none => true
    | _ => false
  | .so e, x => match x with
    | some y => agE T sc N e y
    | _ => false
def agN (T : Tab) (sc : Scope) (N : List Str) : Nw → Expr → Bool
  | .lst es, x => match x with
    | .List xs _ => agEs T sc N es xs
    | _ => false
  | .comp elt tg it cond own, x => match x with
    | .ListComp y [⟨t, i, ifs, a⟩] scope _ => decide (a = 0) && blkC N sc scope (ownP N own) && (tgIds tg).all (fun i => own.contains i) && agTg scope (relS scope sc) N tg t && agI T sc N it i && zipOk it t && notSet i && agE T (relS scope sc) N elt y &&
      (match ifs with
      | [] => match cond with
        | .no => true
        | _ => false
      | [c] => agC T (relS scope sc) N cond c
      | _ => false)
    | _ => false
  | .slice a lo hi, x => match x with
    | .Subscript l (.Slice u v none _) _ => agE T sc N a l && agO T sc N lo u && agO T sc N hi v
    | _ => false
  | .listOf a, x => match x with
    | .Call (.Name id _) [y] [] _ => decide (id = "list") && glB sc id && agE T sc N a y && notStar y
    | _ => false
  | .cat a b, x => match x with
    | .BinOp l o r _ => decide (o = .Add) && agE T sc N a l && agE T sc N b r
    | _ => false
  | .rep a b, x => match x with
    | .BinOp l o r _ => decide (o = .Mult) && agE T sc N a l && agE T sc N b r
    | _ => false
  | .rev a, x => match x with
    | .Subscript l (.Slice none none (some (.UnaryOp .USub (.Constant (.int 1) _ _) _)) _) _ => agE T sc N a l
    | _ => false
  | .dct1 k v, x => match x with
    | .Dict [some y] [z] _ => agE T sc N k y && agE T sc N v z
    | _ => false
  | .dctL es, x => match x with
    | .Dict xs ys _ => agD T sc N es xs ys && decide (0 < xs.length) && decide (xs.length ≤ 15)
    | _ => false
  | .dctN0, x => match x with
    | .Dict [] [] _ => true
    | _ => false
  | .split o a, x => match x with
    | .Call (.Attribute y nm apos) [z] [] cpos => decide (nm = "split") && agE T sc N o y && agE T sc N a z && notStar z && notSup y && (apos.endLine == cpos.line)
    | _ => false
  | .dct0, x => match x with
    | .Dict [] [] _ => true
    | _ => false
  | .dictOf a, x => match x with
    | .Call (.Name id _) [y] [] _ => decide (id = "dict") && glB sc id && agE T sc N a y && notStar y
    | _ => false
  | .sorted a, x => match x with
    | .Call (.Name id _) [y] [] _ => decide (id = "sorted") && glB sc id && agE T sc N a y && notStar y
    | _ => false
  | .rngL a b, x => match x with
    | .Call (.Name id _) [.Call (.Name id2 _) [y, z] [] _] [] _ => decide (id = "list") && glB sc id && decide (id2 = "range") && glB sc id2 && agE T sc N a y && notStar y && agE T sc N b z && notStar z
    | _ => false
def agC (T : Tab) (sc : Scope) (N : List Str) : Oe → Expr → Bool
  | .no, _ => false
  | .so e, x => agE T sc N e x
def agI (T : Tab) (sc : Scope) (N : List Str) : It → Expr → Bool
  | .rng1 a, x => match x with
    | .Call (.Name id _) [y] [] _ => decide (id = "range") && glB sc id && agE T sc N a y && notStar y
    | _ => false
  | .rng2 a b, x => match x with
    | .Call (.Name id _) [y, z] [] _ => decide (id = "range") && glB sc id && agE T sc N a y && notStar y && agE T sc N b z && notStar z
    | _ => false
  | .seq a, x => agE T sc N a x
  | .own i, x => agVar sc N i x
  | .chars a, x => agE T sc N a x
  | .keys a, x => agE T sc N a x
  | .zip a b, x => match x with
    | .Call (.Name id _) [y, z] [] _ => decide (id = "zip") && glB sc id && agE T sc N a y && notStar y && agE T sc N b z && notStar z
    | _ => false
end

/-! ### the context -/
def spOf (K : PySem.W.Frag) (Cl : Nat → Addr) (C : Ctx) (f : Nat) : Sp := fun vs H Q _ => ∃ cs F h ds Qa, StOk K Cl cs F H h ∧ Reps K cs F vs ds ∧ C.call f ds h Qa ∧
  ∀ v d cs' F' H' h', Stp cs F H cs' F' H' → StOk K Cl cs' F' H' h' → Rep K cs' F' v d → Qa d h' → Q v H'
structure XOk (C : Ctx) (T : Tab) (Cl : Nat → Addr) (X : Cx) : Prop where
  nd : X.N.Nodup
  calm : X.calm = true
  units : X.A.units + 65 < cLine
  gd : X.A.guards = some []
  blt : ∀ x, x ∈ bltNames → X.mg x = none
  glob : ∀ g d, C.glob g = some d → ∃ u v, X.mg (T.gname g) = some u ∧ RelV v u ∧ ∀ cs F, Rep X.K cs F v d
  fn : ∀ f x, T.fname f = some x → ∃ k a fd ps, FnG X.prog X.w X.K X.mg X.base k a fd ps (spOf X.K Cl C f) ∧ Room k X.A ∧ X.mg x = some (.ref a) ∧ PySem.W.keepIn X.K (.ref a) = true ∧ Binds X.K fd ps []
  cls : ∀ c x, T.cname c = some x → ∃ f k a fd ps, C.init c = some f ∧ FnG X.prog X.w X.K X.mg X.base k a fd ps (spOf X.K Cl C f) ∧ Room (k + 1) X.A ∧ X.mg x = some (.ref (Cl c)) ∧ Mk X.K (Cl c) a ∧ Binds X.K fd ps []
  mth : ∀ c m f, C.meth c m = some f → ∃ k a fd ps, FnG X.prog X.w X.K X.mg X.base k a fd ps (spOf X.K Cl C f) ∧ Room k X.A ∧ Cls X.K (Cl c) ∧ Meth X.K (Cl c) m a ∧ Binds X.K fd ps []
  fld : ∀ c f, C.fld c f = true → Cls X.K (Cl c) ∧ NoAttr X.K (Cl c) f
  gdc : ∀ g x, T.dname g = some x → ∃ kvs d, C.gdct g = some kvs ∧ X.mg x = some (.ref d) ∧ GDict X.K X.w d kvs
  isc : ∀ c x, T.iname c = some x → X.mg x = some (.ref (Cl c)) ∧ C8.InsC X.K (Cl c)
theorem XOk.blk {C : Ctx} {T : Tab} {Cl : Nat → Addr} {X : Cx} (O : XOk C T Cl X) (s : Shared) (H : Hp) (scope : Scope) (cl : List (Str × Addr)) (c : Addr) (fp : List Addr) : XOk C T Cl (X.blk s H scope (compEnvC scope cl c X.env) fp) where
  nd := O.nd
  calm := O.calm
  units := O.units
  gd := O.gd
  blt := O.blt
  glob := O.glob
  fn := O.fn
  cls := O.cls
  mth := O.mth
  fld := O.fld
  gdc := O.gdc
  isc := O.isc

/-! ### weakest readings -/
def WE (X : Cx) (e : Expr) : TE := fun σ H Q => ∀ pins s, Inv X pins σ H s → wpAny (model X.prog X.w) X.A (eval e X.env) (EP X pins σ Q) X.xe s
def WT (X : Cx) (e : Expr) : TT := fun σ H Q => ∀ pins s, Inv X pins σ H s → wpAny (model X.prog X.w) X.A (isTrue e X.env (eval e X.env)) (TP X pins σ Q) X.xe s
def WW (X : Cx) (e : Expr) : TT := fun σ H Q => ∀ (whole : Sem Value) pins s, Inv X pins σ H s → wpAny (model X.prog X.w) X.A (isTrue e X.env whole) (TP X pins σ Q) X.xe s
def WA (X : Cx) (es : List Expr) : TA := fun σ H Q => ∀ (pos : Pos) pins s, Inv X pins σ H s → wpAny (model X.prog X.w) X.A (spliced (backTo pos (starEach es X.env))) (AP X pins σ Q) X.xe s
def WO (X : Cx) (e : Option Expr) : TO := fun σ H Q => ∀ pins s, Inv X pins σ H s → wpAny (model X.prog X.w) X.A (evalPart e X.env) (fun u s' => ∃ o H', Inv X pins σ H' s' ∧ IsPart u o ∧ Q o H') X.xe s
section
variable {X : Cx}
theorem pe_we {e : Expr} : PE X e (WE X e) := ⟨fun pins s σ H Q I h => h pins s I⟩
theorem pt_we {e : Expr} : PT X e (WT X e) := ⟨fun pins s σ H Q I h => h pins s I⟩
theorem po_we {e : Option Expr} : PO X e (WO X e) := ⟨fun pins s σ H Q I h => h pins s I⟩
theorem wo_of {e : Option Expr} {t : TO} (p : PO X e t) {σ : L2.St} {H : Hp} {Q : Option Int → Hp → Prop} (h : t σ H Q) : WO X e σ H Q := fun pins s I => p.run pins s σ H Q I h
theorem pa_we {e : List Expr} : PA X e (WA X e) := ⟨fun pos pins s σ H Q I h => h pos pins s I⟩
theorem we_of {e : Expr} {t : TE} (p : PE X e t) {σ : L2.St} {H : Hp} {Q : VK} (h : t σ H Q) : WE X e σ H Q := fun pins s I => p.run pins s σ H Q I h
theorem wt_of {e : Expr} {t : TT} (p : PT X e t) {σ : L2.St} {H : Hp} {Q : Bool → Hp → Prop} (h : t σ H Q) : WT X e σ H Q := fun pins s I => p.run pins s σ H Q I h
theorem wa_of {e : List Expr} {t : TA} (p : PA X e t) {σ : L2.St} {H : Hp} {Q : List V → Hp → Prop} (h : t σ H Q) : WA X e σ H Q := fun pos pins s I => p.run pos pins s σ H Q I h
end

/-! ### what is shown of each construct -/
def EOk (K : PySem.W.Frag) (Cl : Nat → Addr) (b : Bool) (cs : List Addr) (F H : Hp) (Q : AV → AHeap → Prop) (R : VK) : Prop :=
  ∀ v d cs' F' H' h', Stp cs F H cs' F' H' → StOk K Cl cs' F' H' h' → RepB K cs' F' H' b v d → Q d h' → R v H'
def BOk (K : PySem.W.Frag) (Cl : Nat → Addr) (cs : List Addr) (F H : Hp) (Q : Bool → AHeap → Prop) (R : Bool → Hp → Prop) : Prop :=
  ∀ k cs' F' H' h', Stp cs F H cs' F' H' → StOk K Cl cs' F' H' h' → Q k h' → R k H'
def AOk (K : PySem.W.Frag) (Cl : Nat → Addr) (b : Bool) (cs : List Addr) (F H : Hp) (Q : List AV → AHeap → Prop) (R : List V → Hp → Prop) : Prop :=
  ∀ v d cs' F' H' h', Stp cs F H cs' F' H' → StOk K Cl cs' F' H' h' → RepBs K cs' F' H' b v d → Q d h' → R v H'
def OOk (K : PySem.W.Frag) (Cl : Nat → Addr) (cs : List Addr) (F H : Hp) (Q : Option Int → AHeap → Prop) (R : Option Int → Hp → Prop) : Prop :=
  ∀ k cs' F' H' h', Stp cs F H cs' F' H' → StOk K Cl cs' F' H' h' → Q k h' → R k H'
def NOk (K : PySem.W.Frag) (Cl : Nat → Addr) (cs : List Addr) (F H : Hp) (Q : Cell → AHeap → Prop) (R : VK) : Prop :=
  ∀ p c cs' F' H' h', Stp cs F H cs' F' H' → StOk K Cl cs' F' H' h' → H p = none → F' p = none → p ∉ cs' → COk K Cl cs' F' H' p c → Q c h' → R (.ref p) H'
section
variable (C : Ctx) (T : Tab) (Cl : Nat → Addr)
def SE (X : Cx) (b : Bool) (e : E) (x : Expr) : Prop := ∀ ρ h Q σ cs F H R, StOk X.K Cl cs F H h → EnvOk X.K Cl cs F H σ ρ → WpE C b e ρ h Q → EOk X.K Cl b cs F H Q R → WE X x σ H R
def ST (X : Cx) (e : E) (x : Expr) : Prop := ∀ ρ h Q σ cs F H R, StOk X.K Cl cs F H h → EnvOk X.K Cl cs F H σ ρ → WpT C e ρ h Q → BOk X.K Cl cs F H Q R → WT X x σ H R
def SA (X : Cx) (es : Es) (x : List Expr) : Prop := ∀ ρ h Q σ cs F H R, StOk X.K Cl cs F H h → EnvOk X.K Cl cs F H σ ρ → WpEs C es ρ h Q → AOk X.K Cl false cs F H Q R → WA X x σ H R
def SB (X : Cx) (es : Es) (x : List Expr) : Prop := ∀ ρ h Q σ cs F H R, StOk X.K Cl cs F H h → EnvOk X.K Cl cs F H σ ρ → WpBs C es ρ h Q → AOk X.K Cl true cs F H Q R → WA X x σ H R
def SO (X : Cx) (e : Oe) (x : Option Expr) : Prop := ∀ ρ h Q σ cs F H R, StOk X.K Cl cs F H h → EnvOk X.K Cl cs F H σ ρ → WpO C e ρ h Q → OOk X.K Cl cs F H Q R → WO X x σ H R
def SN (X : Cx) (e : Nw) (x : Expr) : Prop := ∀ ρ h Q σ cs F H R, StOk X.K Cl cs F H h → EnvOk X.K Cl cs F H σ ρ → WpN C e ρ h Q → NOk X.K Cl cs F H Q R → WE X x σ H R
end

section
variable {C : Ctx} {T : Tab} {Cl : Nat → Addr} {X : Cx} {b : Bool} {K : PySem.W.Frag} {cs cs' cs'' : List Addr} {F F' F'' H H' H'' : Hp} {h : AHeap}
theorem EOk.lift {Q : AV → AHeap → Prop} {R : VK} (p : EOk K Cl b cs F H Q R) (x : Stp cs F H cs' F' H') : EOk K Cl b cs' F' H' Q R :=
  fun v d cs2 F2 H2 h2 y S r q => p v d cs2 F2 H2 h2 (x.trans y) S r q
theorem BOk.lift {Q : Bool → AHeap → Prop} {R : Bool → Hp → Prop} (p : BOk K Cl cs F H Q R) (x : Stp cs F H cs' F' H') : BOk K Cl cs' F' H' Q R :=
  fun k cs2 F2 H2 h2 y S q => p k cs2 F2 H2 h2 (x.trans y) S q
theorem NOk.lift {Q : Cell → AHeap → Prop} {R : VK} (p : NOk K Cl cs F H Q R) (x : Stp cs F H cs' F' H') : NOk K Cl cs' F' H' Q R :=
  fun v d cs2 F2 H2 h2 y S r1 r2 r3 r4 q => p v d cs2 F2 H2 h2 (x.trans y) S (x.fresh r1) r2 r3 r4 q
theorem EOk.post {Q : AV → AHeap → Prop} {R : VK} (p : EOk K Cl b cs F H Q R) : PostV K Cl cs F H h (fun z => Q z h) R := fun v d F' H' x S r q => p v d cs F' H' h x S (.inl r) q
/-- what stands behind a lock -/
def Lk (R : VK) : VK := fun v H => R v H ∨ ∃ d u, H d = some u ∧ Mut (some u) ∧ ∀ od, R v (upd H d (.frz od u))
theorem we_lock {x : Expr} {σ : L2.St} {R : VK} (w : WE X x σ H (Lk R)) : WE X x σ H R := fun pins s I => by
  refine thn (w pins s I) fun v s1 ⟨x, H1, I1, r, q⟩ => ?_
  rcases q with q | ⟨d, u, e, mu, q⟩
  · exact ⟨x, H1, I1, r, q⟩
  · obtain ⟨od, I2⟩ := I1.lock e mu
    exact ⟨x, _, I2, r, q od⟩
theorem NOk.fz {Q : AV → AHeap → Prop} {R : VK} (p : EOk K Cl b cs F H Q R) : NOk K Cl cs F H (fun c h1 => match c with
    | .lst xs => Q (.lst xs) h1
    | .dct xs => Q (.dct xs) h1
    | _ => False) (Lk R) := fun a c cs' F' H' h' x S n1 n2 n3 r q => by
  cases c with
  | lst xs =>
    obtain ⟨vs, e, r⟩ := r
    have x2 : Stp cs F H cs' (upd F' a (.lst vs)) H' := by
      refine ⟨x.f.trans (Ex.new n2), x.c, x.k, x.d, fun b q1 q2 => ?_, x.m⟩
      by_cases hb : b = a
      · subst hb; exact n1
      · rw [upd_ne hb] at q2; exact x.n b q1 q2
    exact .inl (p _ (.lst xs) _ _ _ _ x2 (S.freeze n2 n3 e) (.inl (.lst upd_same (r.mono (Ex.new n2) ⟨[], by simp⟩))) q)
  | dct xs =>
    obtain ⟨vs, e, r⟩ := r
    refine .inr ⟨a, .dK vs, e, trivial, fun od => ?_⟩
    have S1 : StOk K Cl cs' F' (upd H' a (.frz od (.dK vs))) h' := S.chgN n2 n3
    have x2 : Stp cs F H cs' (upd F' a (.frz od (.dK vs))) (upd H' a (.frz od (.dK vs))) := by
      refine ⟨x.f.trans (Ex.new n2), x.c, fun b u q1 q2 => ?_, fun b q => ?_, fun b q1 q2 => ?_, x.m⟩
      · rw [upd_ne (fun z => by subst z; rw [n1] at q1; cases q1)]
        exact x.k b u q1 q2
      · by_cases hb : b = a
        · subst hb; rw [upd_same]; simp
        · rw [upd_ne hb]; exact x.d b q
      · by_cases hb : b = a
        · subst hb; exact n1
        · rw [upd_ne hb] at q2; exact x.n b q1 q2
    exact p _ (.dct xs) _ _ _ _ x2 (S1.freeze n2 n3 upd_same) (.inl (.dct upd_same (r.mono (Ex.new n2) ⟨[], by simp⟩))) q
  | dctN xs => exact q.elim
  | obj c fs => exact q.elim
  | dead => exact q.elim
theorem NOk.fzL {Q : AV → AHeap → Prop} {R : VK} (p : EOk K Cl b cs F H Q R) : NOk K Cl cs F H (fun c h1 => match c with
    | .lst xs => Q (.lst xs) h1
    | _ => False) R := fun a c cs' F' H' h' x S n1 n2 n3 r q => by
  cases c with
  | lst xs =>
    obtain ⟨vs, e, r⟩ := r
    have x2 : Stp cs F H cs' (upd F' a (.lst vs)) H' := by
      refine ⟨x.f.trans (Ex.new n2), x.c, x.k, x.d, fun b q1 q2 => ?_, x.m⟩
      by_cases hb : b = a
      · subst hb; exact n1
      · rw [upd_ne hb] at q2; exact x.n b q1 q2
    exact p _ (.lst xs) _ _ _ _ x2 (S.freeze n2 n3 e) (.inl (.lst upd_same (r.mono (Ex.new n2) ⟨[], by simp⟩))) q
  | dct xs => exact q.elim
  | dctN xs => exact q.elim
  | obj c fs => exact q.elim
  | dead => exact q.elim
theorem NOk.new {Q : AV → AHeap → Prop} {R : VK} (p : EOk K Cl b cs F H Q R) : NOk K Cl cs F H (fun c h1 => Q (.adr h1.length) (h1 ++ [c])) R := fun a c cs' F' H' h' x S n1 n2 n3 r q => by
  have x2 : Stp cs F H (cs' ++ [a]) F' H' := by
    refine ⟨x.f, ?_, x.k, x.d, x.n, fun b q1 q2 => ?_⟩
    · obtain ⟨r, e⟩ := x.c
      exact ⟨r ++ [a], by rw [e, List.append_assoc]⟩
    · rw [List.mem_append] at q1
      rcases q1 with q1 | q1
      · exact x.m b q1 q2
      · simp at q1; subst q1; exact n1
  refine p _ (.adr h'.length) _ _ _ _ x2 (S.cellNew n2 n3 (r.mono (fun _ _ z => z) ⟨[a], rfl⟩ fun _ z => z)) (.inl (.adr ?_)) q
  rw [← S.len]
  simp

/-! ### expressions -/
theorem s_var {i : Nat} {x : Expr} (hag : agVar X.env.scope X.N i x = true) : SE C Cl X b (.var i) x := fun ρ h Q σ cs F H R S V w p => by
  unfold agVar at hag
  split at hag
  · rename_i id pos
    simp only [Bool.and_eq_true, decide_eq_true_eq] at hag
    obtain ⟨⟨h1, h2⟩, h3⟩ := hag
    obtain ⟨n1, n2, _⟩ := plainName_ok h3
    simp only [WpE] at w
    split at w
    · rename_i d hd
      obtain ⟨v, e, r⟩ := V.val i d hd
      exact we_of (pe_var h1 (visB_ok h2) n1 n2) ⟨v, e, p _ _ _ _ _ _ .refl S (.inl r) w⟩
    · exact w.elim
  · cases hag
theorem own_rep {i : Nat} {σ : L2.St} {ρ : Env} {c : Cell} (V : EnvOk K Cl cs F H σ ρ) (e : getS ρ i = .own c) : ∃ v, σ[i]? = some (some v) ∧ ∀ d, (∃ xs, c = .lst xs ∧ d = .lst xs) ∨ (∃ xs, c = .dct xs ∧ d = .dct xs) → RepB K cs F H true v d := by
  obtain ⟨a, h1, h2, h3, h4⟩ := V.own i c e
  refine ⟨_, h1, fun d q => ?_⟩
  rcases q with ⟨xs, rfl, rfl⟩ | ⟨xs, rfl, rfl⟩
  · obtain ⟨vs, q1, q2⟩ := h4
    exact .inr ⟨rfl, a, rfl, h2, h3, .inl ⟨vs, xs, rfl, q1, q2⟩⟩
  · obtain ⟨vs, q1, q2⟩ := h4
    exact .inr ⟨rfl, a, rfl, h2, h3, .inr ⟨vs, xs, rfl, q1, q2⟩⟩
theorem s_vw {i : Nat} {x : Expr} (hag : agVar X.env.scope X.N i x = true) : SE C Cl X b (.vw i) x := fun ρ h Q σ cs F H R S V w p => by
  unfold agVar at hag
  split at hag
  · rename_i id pos
    simp only [Bool.and_eq_true, decide_eq_true_eq] at hag
    obtain ⟨⟨h1, h2⟩, h3⟩ := hag
    obtain ⟨n1, n2, _⟩ := plainName_ok h3
    cases b with
    | false => simp only [WpE] at w
    | true =>
      simp only [WpE] at w
      split at w
      · rename_i xs hd
        obtain ⟨v, e, r⟩ := own_rep V hd
        exact we_of (pe_var h1 (visB_ok h2) n1 n2) ⟨v, e, p _ _ _ _ _ _ .refl S (r _ (.inl ⟨xs, rfl, rfl⟩)) w⟩
      · rename_i xs hd
        obtain ⟨v, e, r⟩ := own_rep V hd
        exact we_of (pe_var h1 (visB_ok h2) n1 n2) ⟨v, e, p _ _ _ _ _ _ .refl S (r _ (.inr ⟨xs, rfl, rfl⟩)) w⟩
      · exact w.elim
  · cases hag
theorem s_glob {g : Nat} {id : Str} {pos : Pos} (O : XOk C T Cl X) (h0 : id = T.gname g) (h1 : glB X.env.scope id = true) (h2 : plainName id = true) : SE C Cl X b (.glob g) (.Name id pos) := fun ρ h Q σ cs F H R S V w p => by
  simp only [WpE] at w
  split at w
  · rename_i d hd
    obtain ⟨u, v, e1, e2, r⟩ := O.glob g d hd
    rw [← h0] at e1
    exact we_of (pe_glob (glB_ok h1) e1 e2 (plainName_ok h2).1) (p _ _ _ _ _ _ .refl S (.inl (r _ _)) w)
  · exact w.elim
theorem s_bin {op : Operator} {a c : E} {l r : Expr} {pos : Pos} (ha : SE C Cl X false a l) (hc : SE C Cl X false c r) : SE C Cl X b (.bin op a c) (.BinOp l op r pos) := fun ρ h Q σ cs F H R S V w p => by
  simp only [WpE] at w
  refine we_of (pe_op opw_ok pe_we pe_we) (ha _ _ _ _ _ _ _ _ S V w fun v1 d1 cs1 F1 H1 h1 x1 S1 r1 q1 => ?_)
  refine hc _ _ _ _ _ _ _ _ S1 (V.step x1) q1 fun v2 d2 cs2 F2 H2 h2 x2 S2 r2 q2 => ?_
  exact binK_ok S2 (r1.step x2) r2 q2 ((p.lift (x1.trans x2)).post)
theorem un_w {f : Value → Sem Value} : UnR X f (fun x H Q => ∀ (pins : List (Addr × Obj)) (s : Shared) (σ : L2.St) (v : Value), Inv X pins σ H s → RelV x v → wpAny (model X.prog X.w) X.A (f v) (EP X pins σ Q) X.xe s) :=
  fun pins s σ H x v Q I rx h => h pins s σ v I rx
theorem s_neg {a : E} {l : Expr} {pos : Pos} (ha : SE C Cl X false a l) : SE C Cl X b (.neg a) (.UnaryOp .USub l pos) := fun ρ h Q σ cs F H R S V w p => by
  simp only [WpE] at w
  refine we_of (pe_un un_neg pe_we) (ha _ _ _ _ _ _ _ _ S V w fun v1 d1 cs1 F1 H1 h1 x1 S1 r1 q1 => ?_)
  unfold negK at q1
  split at q1
  · cases r1.int
    exact ⟨_, rfl, (p.lift x1).post.int S1 q1⟩
  · exact q1.elim
theorem s_cmp {op : CmpOp} {a c : E} {l r : Expr} {pos : Pos} (O : XOk C T Cl X) (ha : SE C Cl X true a l) (hc : SE C Cl X true c r) (hm : behindInMarks op r = false) : SE C Cl X b (.cmp op a c) (.Compare l [op] [r] pos) := fun ρ h Q σ cs F H R S V w p => by
  simp only [WpE] at w
  refine we_of (pe_cmpR opw_ok pe_we pe_we hm) (ha _ _ _ _ _ _ _ _ S V w fun v1 d1 cs1 F1 H1 h1 x1 S1 r1 q1 => ?_)
  refine hc _ _ _ _ _ _ _ _ S1 (V.step x1) q1 fun v2 d2 cs2 F2 H2 h2 x2 S2 r2 q2 => ?_
  exact cmpK_ok (by have := O.units; omega) S2 (r1.step x2) r2 q2 ((p.lift (x1.trans x2)).post)
theorem s_cmpT {op : CmpOp} {a c : E} {l r : Expr} {pos : Pos} (O : XOk C T Cl X) (ha : SE C Cl X true a l) (hc : SE C Cl X true c r) (hm : behindInMarks op r = false) : ST C Cl X (.cmp op a c) (.Compare l [op] [r] pos) := fun ρ h Q σ cs F H R S V w p => by
  simp only [WpT] at w
  refine wt_of (pt_cmpR opw_ok pe_we pe_we hm) (ha _ _ _ _ _ _ _ _ S V w fun v1 d1 cs1 F1 H1 h1 x1 S1 r1 q1 => ?_)
  refine hc _ _ _ _ _ _ _ _ S1 (V.step x1) q1 fun v2 d2 cs2 F2 H2 h2 x2 S2 r2 q2 => ?_
  refine cmpK_ok (by have := O.units; omega) S2 (r1.step x2) r2 q2 fun v d F' H' y S3 rv qv => ?_
  split at qv
  · cases rv
    exact ⟨_, rfl, p _ _ _ _ _ ((x1.trans x2).trans y) S3 qv⟩
  · exact qv.elim
theorem s_chain {o1 o2 : CmpOp} {a c e : E} {l r1 r2 : Expr} {pos : Pos} (O : XOk C T Cl X) (ha : SE C Cl X false a l) (hc : SE C Cl X false c r1) (he : SE C Cl X false e r2) (hm : lastMarks [o1, o2] [r1, r2] = false) :
    SE C Cl X b (.chain o1 o2 a c e) (.Compare l [o1, o2] [r1, r2] pos) := fun ρ h Q σ cs F H R S V w p => by
  simp only [WpE] at w
  refine we_of (pe_chain opw_ok opw_ok pe_we pe_we pe_we hm) (ha _ _ _ _ _ _ _ _ S V w fun v1 d1 cs1 F1 H1 h1 x1 S1 r1 q1 => ?_)
  refine hc _ _ _ _ _ _ _ _ S1 (V.step x1) q1 fun v2 d2 cs2 F2 H2 h2 x2 S2 r2 q2 => ?_
  refine cmpK_ok (by have := O.units; omega) S2 (r1.step x2) r2 q2 fun v d F' H' y S3 rv qv => ?_
  split at qv
  · cases rv
    refine ⟨true, rfl, ?_⟩
    rw [if_pos rfl]
    refine he _ _ _ _ _ _ _ _ S3 (V.step ((x1.trans x2).trans y)) qv fun v3 d3 cs3 F3 H3 h3 x3 S4 r3 q3 => ?_
    exact cmpK_ok (by have := O.units; omega) S4 ((r2.step y).step x3) r3 q3 ((p.lift (((x1.trans x2).trans y).trans x3)).post)
  · cases rv
    refine ⟨false, rfl, ?_⟩
    rw [if_neg Bool.false_ne_true]
    exact p _ _ _ _ _ _ ((x1.trans x2).trans y) S3 (.inl (.bl false)) qv
  · exact qv.elim
theorem s_chainT {o1 o2 : CmpOp} {a c e : E} {l r1 r2 : Expr} {pos : Pos} (O : XOk C T Cl X) (ha : SE C Cl X false a l) (hc : SE C Cl X false c r1) (he : SE C Cl X false e r2) (hm : lastMarks [o1, o2] [r1, r2] = false) :
    ST C Cl X (.chain o1 o2 a c e) (.Compare l [o1, o2] [r1, r2] pos) := fun ρ h Q σ cs F H R S V w p => by
  simp only [WpT] at w
  refine wt_of (pt_chain opw_ok opw_ok pe_we pe_we pe_we hm) (ha _ _ _ _ _ _ _ _ S V w fun v1 d1 cs1 F1 H1 h1 x1 S1 r1 q1 => ?_)
  refine hc _ _ _ _ _ _ _ _ S1 (V.step x1) q1 fun v2 d2 cs2 F2 H2 h2 x2 S2 r2 q2 => ?_
  refine cmpK_ok (by have := O.units; omega) S2 (r1.step x2) r2 q2 fun v d F' H' y S3 rv qv => ?_
  split at qv
  · cases rv
    refine ⟨true, rfl, ?_⟩
    rw [if_pos rfl]
    refine he _ _ _ _ _ _ _ _ S3 (V.step ((x1.trans x2).trans y)) qv fun v3 d3 cs3 F3 H3 h3 x3 S4 r3 q3 => ?_
    refine cmpK_ok (by have := O.units; omega) S4 ((r2.step y).step x3) r3 q3 fun v d F' H' y' S5 rv' qv' => ?_
    split at qv'
    · cases rv'
      exact ⟨_, rfl, p _ _ _ _ _ ((((x1.trans x2).trans y).trans x3).trans y') S5 qv'⟩
    · exact qv'.elim
  · cases rv
    refine ⟨false, rfl, ?_⟩
    rw [if_neg Bool.false_ne_true]
    exact ⟨false, rfl, p _ _ _ _ _ ((x1.trans x2).trans y) S3 qv⟩
  · exact qv.elim
theorem s_not {a : E} {l : Expr} {pos : Pos} (ha : SE C Cl X false a l) : SE C Cl X b (.not a) (.UnaryOp .Not l pos) := fun ρ h Q σ cs F H R S V w p => by
  simp only [WpE] at w
  refine we_of (pe_not pe_we) (ha _ _ _ _ _ _ _ _ S V w fun v1 d1 cs1 F1 H1 h1 x1 S1 r1 q1 => ?_)
  split at q1
  · cases r1.bl
    exact ⟨_, rfl, (p.lift x1).post.bl S1 q1⟩
  · exact q1.elim
theorem s_notT {a : E} {l : Expr} {pos : Pos} (ha : ST C Cl X a l) : ST C Cl X (.not a) (.UnaryOp .Not l pos) := fun ρ h Q σ cs F H R S V w p => by
  simp only [WpT] at w
  exact wt_of (pt_not pt_we) (ha _ _ _ _ _ _ _ _ S V w fun k cs1 F1 H1 h1 x1 S1 q1 => p _ _ _ _ _ x1 S1 q1)
theorem pe_two {op : BoolOp} {y z : Expr} {rest : List Expr} {pos : Pos} {tz : TE} (hz : PE X (tail2 op z pos rest) tz) : PE X (.BoolOp op (z :: rest) pos) tz := by
  cases rest with
  | nil => exact pe_one hz
  | cons w r => exact hz
theorem s_and {a c : E} {y z : Expr} {rest : List Expr} {pos : Pos} (ha : SE C Cl X false a y) (hc : SE C Cl X false c (tail2 .And z pos rest)) : SE C Cl X b (.and a c) (.BoolOp .And (y :: z :: rest) pos) := fun ρ h Q σ cs F H R S V w p => by
  simp only [WpE] at w
  refine we_of (pe_and pe_we (pe_two (y := y) pe_we)) (ha _ _ _ _ _ _ _ _ S V w fun v1 d1 cs1 F1 H1 h1 x1 S1 r1 q1 => ?_)
  split at q1
  · cases r1.bl
    refine ⟨true, rfl, ?_⟩
    rw [if_pos rfl]
    exact hc _ _ _ _ _ _ _ _ S1 (V.step x1) q1 fun v2 d2 cs2 F2 H2 h2 x2 S2 r2 q2 => p _ _ _ _ _ _ (x1.trans x2) S2 (.inl r2.plain) q2
  · cases r1.bl
    refine ⟨false, rfl, ?_⟩
    rw [if_neg Bool.false_ne_true]
    exact p _ _ _ _ _ _ x1 S1 (.inl (.bl false)) q1
  · exact q1.elim
theorem s_or {a c : E} {y z : Expr} {rest : List Expr} {pos : Pos} (ha : SE C Cl X false a y) (hc : SE C Cl X false c (tail2 .Or z pos rest)) : SE C Cl X b (.or a c) (.BoolOp .Or (y :: z :: rest) pos) := fun ρ h Q σ cs F H R S V w p => by
  simp only [WpE] at w
  refine we_of (pe_or pe_we (pe_two (y := y) pe_we)) (ha _ _ _ _ _ _ _ _ S V w fun v1 d1 cs1 F1 H1 h1 x1 S1 r1 q1 => ?_)
  split at q1
  · cases r1.bl
    refine ⟨false, rfl, ?_⟩
    rw [if_neg Bool.false_ne_true]
    exact hc _ _ _ _ _ _ _ _ S1 (V.step x1) q1 fun v2 d2 cs2 F2 H2 h2 x2 S2 r2 q2 => p _ _ _ _ _ _ (x1.trans x2) S2 (.inl r2.plain) q2
  · cases r1.bl
    refine ⟨true, rfl, ?_⟩
    rw [if_pos rfl]
    exact p _ _ _ _ _ _ x1 S1 (.inl (.bl true)) q1
  · exact q1.elim
/-- a conjunction's or disjunction's test asks its whole for nothing -/
theorem pw_of {op : BoolOp} {es : List Expr} {pos : Pos} {t : TT} (h : PT X (.BoolOp op es pos) t) : PW X (.BoolOp op es pos) t := ⟨fun whole pins s σ H Q I hw => by
  have := h.run pins s σ H Q I hw
  exact this⟩
theorem s_andT {a c : E} {y z : Expr} {rest : List Expr} {pos : Pos} (ha : ST C Cl X a y) (hc : ST C Cl X c (tail2 .And z pos rest)) : ST C Cl X (.and a c) (.BoolOp .And (y :: z :: rest) pos) := fun ρ h Q σ cs F H R S V w p => by
  simp only [WpT] at w
  have hz : PW X (.BoolOp .And (z :: rest) pos) (WT X (tail2 .And z pos rest)) := by
    cases rest with
    | nil => exact pw_and1 pt_we
    | cons w r => exact pw_of pt_we
  refine wt_of (pw_and pt_we hz).pt (ha _ _ _ _ _ _ _ _ S V w fun k cs1 F1 H1 h1 x1 S1 q1 => ?_)
  cases k with
  | true =>
    rw [if_pos rfl] at q1 ⊢
    exact hc _ _ _ _ _ _ _ _ S1 (V.step x1) q1 (p.lift x1)
  | false =>
    rw [if_neg Bool.false_ne_true] at q1 ⊢
    exact p _ _ _ _ _ x1 S1 q1
theorem s_orT {a c : E} {y z : Expr} {rest : List Expr} {pos : Pos} (ha : ST C Cl X a y) (hc : ST C Cl X c (tail2 .Or z pos rest)) : ST C Cl X (.or a c) (.BoolOp .Or (y :: z :: rest) pos) := fun ρ h Q σ cs F H R S V w p => by
  simp only [WpT] at w
  have hz : PW X (.BoolOp .Or (z :: rest) pos) (WT X (tail2 .Or z pos rest)) := by
    cases rest with
    | nil => exact pw_or1 pt_we
    | cons w r => exact pw_of pt_we
  refine wt_of (pw_or pt_we hz).pt (ha _ _ _ _ _ _ _ _ S V w fun k cs1 F1 H1 h1 x1 S1 q1 => ?_)
  cases k with
  | false =>
    rw [if_neg Bool.false_ne_true] at q1 ⊢
    exact hc _ _ _ _ _ _ _ _ S1 (V.step x1) q1 (p.lift x1)
  | true =>
    rw [if_pos rfl] at q1 ⊢
    exact p _ _ _ _ _ x1 S1 q1
theorem s_truT {a : E} {l : Expr} (ha : SE C Cl X false a l) (hl : plainT l = true) : ST C Cl X (.tru a) l := fun ρ h Q σ cs F H R S V w p => by
  simp only [WpT] at w
  refine wt_of (pt_truth pe_we (plainT_ok hl _)) (ha _ _ _ _ _ _ _ _ S V w fun v1 d1 cs1 F1 H1 h1 x1 S1 r1 q1 => ?_)
  obtain ⟨k, e1, e2⟩ := truK_ok S1 r1 q1
  exact ⟨k, e1, p _ _ _ _ _ x1 S1 e2⟩
theorem s_ite {c a d : E} {t l r : Expr} {pos : Pos} (hc : ST C Cl X c t) (ha : SE C Cl X false a l) (hd : SE C Cl X false d r) : SE C Cl X b (.ite c a d) (.IfExp t l r pos) := fun ρ h Q σ cs F H R S V w p => by
  simp only [WpE] at w
  refine we_of (pe_ifExp pt_we pe_we pe_we) (hc _ _ _ _ _ _ _ _ S V w fun k cs1 F1 H1 h1 x1 S1 q1 => ?_)
  cases k with
  | true =>
    rw [if_pos rfl] at q1 ⊢
    exact ha _ _ _ _ _ _ _ _ S1 (V.step x1) q1 fun v2 d2 cs2 F2 H2 h2 x2 S2 r2 q2 => p _ _ _ _ _ _ (x1.trans x2) S2 (.inl r2.plain) q2
  | false =>
    rw [if_neg Bool.false_ne_true] at q1 ⊢
    exact hd _ _ _ _ _ _ _ _ S1 (V.step x1) q1 fun v2 d2 cs2 F2 H2 h2 x2 S2 r2 q2 => p _ _ _ _ _ _ (x1.trans x2) S2 (.inl r2.plain) q2
theorem s_tup {es : Es} {xs : List Expr} {k : Nat} {pos : Pos} (ha : SA C Cl X es xs) : SE C Cl X b (.tup es) (.Tuple xs k pos) := fun ρ h Q σ cs F H R S V w p => by
  simp only [WpE] at w
  refine we_of (pe_tup pa_we) (ha _ _ _ _ _ _ _ _ S V w fun vs ds cs1 F1 H1 h1 x1 S1 rs q1 => ?_)
  have rs := rs.plain
  exact ⟨by rw [rs.length]; exact q1.1, (p.lift x1).post.newT S1 rs q1.2⟩
theorem s_fz {n : Nw} {x : Expr} (hn : SN C Cl X n x) : SE C Cl X b (.fz n) x := fun ρ h Q σ cs F H R S V w p => by
  simp only [WpE] at w
  exact we_lock (hn _ _ _ _ _ _ _ _ S V w (NOk.fz p))
theorem s_new {n : Nw} {x : Expr} (hn : SN C Cl X n x) : SE C Cl X b (.new n) x := fun ρ h Q σ cs F H R S V w p => by
  simp only [WpE] at w
  exact hn _ _ _ _ _ _ _ _ S V w (NOk.new p)
theorem s_sub {a i : E} {l r : Expr} {pos : Pos} (O : XOk C T Cl X) (ha : SE C Cl X true a l) (hi : SE C Cl X false i r) (hs : notSlice r = true) : SE C Cl X b (.sub a i) (.Subscript l r pos) := fun ρ h Q σ cs F H R S V w p => by
  simp only [WpE] at w
  refine we_of (pe_ix ixw_ok pe_we pe_we (plainIx_of hs)) (ha _ _ _ _ _ _ _ _ S V w fun v1 d1 cs1 F1 H1 h1 x1 S1 r1 q1 => ?_)
  refine hi _ _ _ _ _ _ _ _ S1 (V.step x1) q1 fun v2 d2 cs2 F2 H2 h2 x2 S2 r2 q2 => ?_
  exact subK_ok (by have := O.units; omega) S2 (r1.step x2) r2 q2 ((p.lift (x1.trans x2)).post)
theorem s_so {e : E} {x : Expr} (he : SE C Cl X false e x) : SO C Cl X (.so e) (some x) := fun ρ h Q σ cs F H R S V w p => by
  simp only [WpO] at w
  refine wo_of (po_some pe_we) (he _ _ _ _ _ _ _ _ S V w fun v1 d1 cs1 F1 H1 h1 x1 S1 r1 q1 => ?_)
  split at q1
  · cases r1.int
    exact ⟨_, rfl, p _ _ _ _ _ x1 S1 q1⟩
  · exact q1.elim
theorem s_no : SO C Cl X .no none := fun ρ h Q σ cs F H R S V w p => by
  simp only [WpO] at w
  exact wo_of po_none (p _ _ _ _ _ .refl S w)
theorem OOk.lift {Q : Option Int → AHeap → Prop} {R : Option Int → Hp → Prop} (p : OOk K Cl cs F H Q R) (x : Stp cs F H cs' F' H') : OOk K Cl cs' F' H' Q R :=
  fun k cs2 F2 H2 h2 y S q => p k cs2 F2 H2 h2 (x.trans y) S q
theorem AOk.lift {Q : List AV → AHeap → Prop} {R : List V → Hp → Prop} (p : AOk K Cl b cs F H Q R) (x : Stp cs F H cs' F' H') : AOk K Cl b cs' F' H' Q R :=
  fun v d cs2 F2 H2 h2 y S r q => p v d cs2 F2 H2 h2 (x.trans y) S r q
theorem s_slice {a : E} {lo hi : Oe} {l : Expr} {u v : Option Expr} {p2 pos : Pos} (ha : SE C Cl X false a l) (hl : SO C Cl X lo u) (hh : SO C Cl X hi v) : SE C Cl X b (.slice a lo hi) (.Subscript l (.Slice u v none p2) pos) := fun ρ h Q σ cs F H R S V w p => by
  simp only [WpE] at w
  refine we_of (pe_slice slw_ok pe_we po_we po_we) (ha _ _ _ _ _ _ _ _ S V w fun v1 d1 cs1 F1 H1 h1 x1 S1 r1 q1 => ?_)
  refine hl _ _ _ _ _ _ _ _ S1 (V.step x1) q1 fun k2 cs2 F2 H2 h2 x2 S2 q2 => ?_
  refine hh _ _ _ _ _ _ _ _ S2 ((V.step x1).step x2) q2 fun k3 cs3 F3 H3 h3 x3 S3 q3 => ?_
  exact sliceK_ok S3 ((r1.step x2).step x3) q3 ((p.lift ((x1.trans x2).trans x3)).post)
theorem s_nil : SA C Cl X .nil [] := fun ρ h Q σ cs F H R S V w p => by
  simp only [WpEs] at w
  exact wa_of pa_nil (p _ _ _ _ _ _ .refl S .nil w)
theorem s_cons {e : E} {es : Es} {x : Expr} {xs : List Expr} (he : SE C Cl X false e x) (hs : SA C Cl X es xs) (hx : notStar x = true) : SA C Cl X (.cons e es) (x :: xs) := fun ρ h Q σ cs F H R S V w p => by
  simp only [WpEs] at w
  refine wa_of (pa_cons pe_we pa_we (star_cons hx _ _)) (he _ _ _ _ _ _ _ _ S V w fun v1 d1 cs1 F1 H1 h1 x1 S1 r1 q1 => ?_)
  refine hs _ _ _ _ _ _ _ _ S1 (V.step x1) q1 fun v2 d2 cs2 F2 H2 h2 x2 S2 r2 q2 => ?_
  exact p _ _ _ _ _ _ (x1.trans x2) S2 (.cons (r1.step x2) r2) q2
theorem s_nilB : SB C Cl X .nil [] := fun ρ h Q σ cs F H R S V w p => by
  simp only [WpBs] at w
  exact wa_of pa_nil (p _ _ _ _ _ _ .refl S .nil w)
theorem s_consB {e : E} {es : Es} {x : Expr} {xs : List Expr} (he : SE C Cl X true e x) (hs : SB C Cl X es xs) (hx : notStar x = true) : SB C Cl X (.cons e es) (x :: xs) := fun ρ h Q σ cs F H R S V w p => by
  simp only [WpBs] at w
  refine wa_of (pa_cons pe_we pa_we (star_cons hx _ _)) (he _ _ _ _ _ _ _ _ S V w fun v1 d1 cs1 F1 H1 h1 x1 S1 r1 q1 => ?_)
  refine hs _ _ _ _ _ _ _ _ S1 (V.step x1) q1 fun v2 d2 cs2 F2 H2 h2 x2 S2 r2 q2 => ?_
  exact p _ _ _ _ _ _ (x1.trans x2) S2 (.cons (r1.step x2) r2) q2
theorem s_call {f : Nat} {es : Es} {id : Str} {p1 pos : Pos} {xs : List Expr} (O : XOk C T Cl X) (h0 : T.fname f = some id) (h1 : glB X.env.scope id = true) (h2 : plainName id = true) (hx : xs.all notStar = true) (hn : xs = [] → es = .nil) (ha : SA C Cl X es xs) :
    SE C Cl X b (.call f es) (.Call (.Name id p1) xs [] pos) := fun ρ h Q σ cs F H R S V w p => by
  simp only [WpE] at w
  obtain ⟨k, a, fd, ps, G, hr, hm, hk, hb⟩ := O.fn f id h0
  have key : WA X xs σ H fun vs H1 => spOf X.K Cl C f vs H1 R E0 := by
    refine ha _ _ _ _ _ _ _ _ S V w fun vs ds cs1 F1 H1 h1 x1 S1 rs q1 => ?_
    exact ⟨cs1, F1, h1, ds, Q, S1, rs.plain, q1, fun v d cs' F' H' h' y S' r q => p _ _ _ _ _ _ (x1.trans y) S' (.inl r) q⟩
  cases xs with
  | nil =>
    refine we_of (G.call0 O.gd hr (glB_ok h1) hm hk hb (plainName_ok h2).1) ?_
    show spOf X.K Cl C f [] H R E0
    cases es with
    | nil =>
      simp only [WpEs] at w
      exact ⟨cs, F, h, [], Q, S, .nil, w, fun v d cs' F' H' h' y S' r q => p _ _ _ _ _ _ y S' (.inl r) q⟩
    | cons e es => cases hn rfl
  | cons x xs =>
    rw [List.all_cons, Bool.and_eq_true] at hx
    exact we_of (G.call O.gd hr (glB_ok h1) hm hk hb pa_we (plainName_ok h2).1 (star_cons hx.1 _ _) (star_all hx.2 _ _)) key
theorem s_blt {bt : Blt} {es : Es} {id : Str} {p1 pos : Pos} {y : Expr} {xs : List Expr} (O : XOk C T Cl X) (h0 : id = bName bt) (h1 : glB X.env.scope id = true) (hx : (y :: xs).all notStar = true) (ha : SB C Cl X es (y :: xs)) :
    SE C Cl X b (.blt bt es) (.Call (.Name id p1) (y :: xs) [] pos) := fun ρ h Q σ cs F H R S V w p => by
  simp only [WpE] at w
  subst h0
  rw [List.all_cons, Bool.and_eq_true] at hx
  have hm := O.blt _ (bName_mem bt)
  obtain ⟨n1, n2, n3⟩ := plainName_ok (bName_plain bt)
  have hv := bName_boot bt
  have key : WA X (y :: xs) σ H fun vs H1 => CallW X (bVal bt) vs H1 R := by
    refine ha _ _ _ _ _ _ _ _ S V w fun vs ds cs1 F1 H1 h1 x1 S1 rs q1 => ?_
    exact bltK_ok O.calm O.gd (by have := O.units; omega) S1 rs q1 ((p.lift x1).post)
  have hg : Gl X (bName bt) := glB_ok h1
  revert hm hv key hg n1 n3
  generalize bName bt = nm
  generalize hbv : bVal bt = bv
  intro hm n1 n3 hv key hg
  cases bt <;> cases hbv <;> first
    | exact we_of (pe_callB callw_ok hg hm hv pa_we n3 n1 (star_cons hx.1 _ _) (star_all hx.2 _ _)) key
    | exact we_of (pe_callTy callw_ok hg hm hv pa_we n3 n1 (star_cons hx.1 _ _) (star_all hx.2 _ _)) key
end
end VL

set_option maxRecDepth 100000
set_option maxHeartbeats 1000000
/-! zip over a list or a tuple each, in any mix -/
namespace VL
open PySem PySem.Spec PyProof.Rows L2
/-- b: a tuple; else a list -/
def SqB (K : PySem.W.Frag) (b : Bool) (H : Hp) (a : Addr) (xs : List V) : Prop := match b with
  | true => SqT K H a xs
  | false => SqL K H a xs
def HasB (h : Heap) (b : Bool) (a : Addr) (us : Array Value) : Prop := match b with
  | true => h.IsTuple a us
  | false => h.IsList a us
def AtB (h : Heap) (b : Bool) (it a : Addr) (i : Nat) : Prop := match b with
  | true => h.IsTupleIter it a i
  | false => h.IsListIter it a i
def itB (b : Bool) (a : Addr) : Obj := match b with
  | true => { cls := .type "tuple_iterator", data := .fields #[.ref a, .int 0 0] }
  | false => { cls := .type "list_iterator", data := .fields #[.ref a, .int 0 0] }
theorem begB (b : Bool) (a : Addr) (us : Array Value) : Begins (.ref a) (itB b a) fun h => HasB h b a us := by
  cases b
  · exact begins_list a us
  · exact begins_tuple a us
theorem drB {prog : Program} {w : World} {A : Around} (b : Bool) (hh : A.handled = none) (it a : Addr) (hne : a ≠ it) (us : Array Value) : Draws prog w A it [it, a] us.size (fun i v => us[i]? = some v) (fun i h => AtB h b it a i ∧ HasB h b a us) := by
  cases b
  · exact Draws.list hh it a hne us
  · exact Draws.tuple hh it a hne us
theorem AtB.new {h : Heap} {b : Bool} {it a : Addr} (e : h.get? it = some (itB b a)) : AtB h b it a 0 := by
  cases b
  · exact ⟨_, e, rfl, rfl⟩
  · exact ⟨_, e, rfl, rfl⟩
theorem AtB.upto {h h' : Heap} {b : Bool} {it a : Addr} {i : Nat} (x : AtB h b it a i) (k : ∀ o, h.get? it = some o → h'.get? it = some o) : AtB h' b it a i := by
  cases b
  · exact Heap.IsListIter.at x k
  · exact Heap.IsTupleIter.at x k
theorem AtB.obj {h : Heap} {b : Bool} {it a : Addr} {i : Nat} (x : AtB h b it a i) : ∃ o, h.get? it = some o ∧ ∀ v, o.data ≠ .cell v := by
  cases b
  · obtain ⟨o, e, _, d⟩ := x
    exact ⟨o, e, fun v q => by rw [d] at q; cases q⟩
  · obtain ⟨o, e, _, d⟩ := x
    exact ⟨o, e, fun v q => by rw [d] at q; cases q⟩
theorem HasB.lt {h : Heap} {b : Bool} {a : Addr} {us : Array Value} (x : HasB h b a us) : a < h.objs.size := by
  cases b
  · obtain ⟨_, e, _⟩ := x
    exact Heap.lt_size e
  · obtain ⟨_, e, _⟩ := x
    exact Heap.lt_size e
theorem inv_B {X : Cx} {pins} {σ : L2.St} {H : Hp} {s : Shared} (I : Inv X pins σ H s) {b : Bool} {a : Addr} {xs : List V} (q : SqB X.K b H a xs) : ∃ its : List Value, Vals xs its ∧ HasB s.heap b a its.toArray := by
  cases b
  · obtain ⟨its, rv, p, _⟩ := I.list q
    exact ⟨its, rv, p.isList⟩
  · obtain ⟨its, rv, p, _⟩ := I.tuple q
    exact ⟨its, rv, p⟩
/-- what stands at a and b at each turn, the items in new pairs -/
def ItzB (K : PySem.W.Frag) (b1 b2 : Bool) (a b : Addr) : L2.It where
  go := fun i H => ∃ (xs ys : List V) (x y : V), SqB K b1 H a xs ∧ SqB K b2 H b ys ∧ xs[i]? = some x ∧ ys[i]? = some y
  yld := fun i H v H' => ∃ T x y, v = .ref T ∧ H T = none ∧ H' = upd H T (.tup [x, y]) ∧ (∀ xs, SqB K b1 H a xs → xs[i]? = some x) ∧ ∀ ys, SqB K b2 H b ys → ys[i]? = some y
  stop := fun i H => ∃ xs ys : List V, SqB K b1 H a xs ∧ SqB K b2 H b ys ∧ i = min xs.length ys.length
theorem inj_B {X : Cx} {pins} {σ : L2.St} {H : Hp} {s : Shared} (I : Inv X pins σ H s) {b : Bool} {a : Addr} {xs ys : List V} (q : SqB X.K b H a xs) (r : SqB X.K b H a ys) : xs = ys := by
  cases b
  · exact I.list_inj q r
  · exact I.tuple_inj q r
theorem mem5 {α : Type} {c z TI TO i1 i2 : α} {Q : α → Prop} (h : c ∈ [z, TI, TO, i1, i2]) (a1 : Q z) (a2 : Q TI) (a3 : Q TO) (a4 : Q i1) (a5 : Q i2) : Q c := by
  simp only [List.mem_cons, List.not_mem_nil, or_false] at h
  rcases h with rfl | rfl | rfl | rfl | rfl
  · exact a1
  · exact a2
  · exact a3
  · exact a4
  · exact a5
theorem turn_zipB {P : Program} {w : World} {K : PySem.W.Frag} {es : List Expr} {kk : Nat} {tp : Pos} {b1 b2 : Bool} {a b z TI TO i1 i2 : Addr} (S : ZipSep2 z TI TO i1 i2 [i1, a] [i2, b]) (na : a ≠ i1) (nb : b ≠ i2) :
    Turn P w K (.Tuple es kk tp) (ItzB K b1 b2 a b) [z, TI, TO, i1, i2] z (fun i h => IsZip h z TI TO .none ∧ IsTupOf2 h TI (.ref i1) (.ref i2) ∧ (∃ x y, IsTupOf2 h TO x y) ∧ AtB h b1 i1 a i ∧ AtB h b2 i2 b i) where
  mem := by simp
  obj := fun i h st c hc => by
    obtain ⟨hz, hT, ⟨x, y, hO⟩, h1, h2⟩ := st
    exact mem5 (Q := fun c => ∃ o, h.get? c = some o ∧ ∀ v, o.data ≠ .cell v) hc ⟨_, hz, fun v => nofun⟩ ⟨_, hT, fun v => nofun⟩ ⟨_, hO, fun v => nofun⟩ h1.obj h2.obj
  keep := fun i h h' st k => by
    obtain ⟨hz, hT, ⟨x, y, hO⟩, h1, h2⟩ := st
    have kz := k z (by simp); have kT := k TI (by simp); have kO := k TO (by simp)
    exact ⟨kz _ hz, kT _ hT, ⟨x, y, kO _ hO⟩, h1.upto (k i1 (by simp)), h2.upto (k i2 (by simp))⟩
  item := by
    intro X hP hw hK hc i pins s σ H E I hf st hg
    subst hP hw hK
    obtain ⟨hz, hT, ⟨x0, y0, hO⟩, h1, h2⟩ := st
    obtain ⟨xs, ys, x, y, qx, qy, ex, ey⟩ := hg
    obtain ⟨us, ru, pu⟩ := inv_B I qx
    obtain ⟨ws, rw', pw⟩ := inv_B I qy
    obtain ⟨u, hu, rx⟩ := ru.get ex
    obtain ⟨u', hu', ry⟩ := rw'.get ey
    have l1 := (List.getElem?_eq_some_iff.mp hu).1
    have l2 := (List.getElem?_eq_some_iff.mp hu').1
    have zl : z < s.heap.objs.size := Heap.lt_size hz
    have hh : X.A.in1.handled = none := by rw [show X.A.in1.handled = X.A.handled from rfl]; exact I.ok.hd hc
    refine wpAny_pyNext_zipD2_item (i := i) S (drB b1 hh i1 a na us.toArray) (drB b2 hh i2 b nb ws.toArray) hz hT hO ⟨h1, pu⟩ ⟨h2, pw⟩ (by simpa using l1) (by simpa using l2) fun v v' h' tk ev ev' z' O' t1 t2 T' sz ks => ?_
    have ev : v = u := by
      have := ev.symm.trans (show us.toArray[i]? = some u by simpa using hu)
      injection this
    have ev' : v' = u' := by
      have := ev'.symm.trans (show ws.toArray[i]? = some u' by simpa using hu')
      injection this
    subst ev ev'
    refine ⟨_, rfl, wpAny_letOwnedTupleGo_zip (s := { s with heap := h', toks := tk }) z' fun h2' z2 sb => ?_⟩
    have up : ∀ c o, c ≠ z → c ≠ TO → c ≠ i1 → c ≠ i2 → s.heap.get? c = some o → h2'.get? c = some o := fun c o n1 n2 n3 n4 e => (sb.2 c n1).trans (ks c o n1 n2 n3 n4 e)
    have T2 : h2'.get? s.heap.objs.size = some { cls := .type "tuple", data := .seq #[v, v'] } := (sb.2 _ (Nat.ne_of_gt zl)).trans T'
    have ok : ObjOk X.prog X.w (upd H s.heap.objs.size (.tup [x, y])) h2' s.heap.objs.size (.tup [x, y]) := ⟨by show 2 ≤ sizeLine; decide, [v, v'], .cons rx (.cons ry .nil), ⟨_, T2, rfl, _, rfl⟩⟩
    have I2 : Inv X pins σ (upd H s.heap.objs.size (.tup [x, y])) { s with heap := h2', toks := tk } := I.turnedNew (t' := tk) (ch := [z, TI, TO, i1, i2]) (fun c o n e => by
      simp only [List.mem_cons, List.not_mem_nil, or_false, not_or] at n
      exact up c o n.1 n.2.2.1 n.2.2.2.1 n.2.2.2.2 e) hf (Nat.le_refl _) ok
    refine ⟨.ref s.heap.objs.size, _, I2, rfl, ⟨_, x, y, rfl, I.hok.fresh (Nat.le_refl _), rfl, fun l q => by rw [inj_B I q qx]; exact ex, fun l q => by rw [inj_B I q qy]; exact ey⟩, ⟨z2, up _ _ S.TIz S.TITO S.TIi1 S.TIi2 hT, ⟨v, v', (sb.2 _ S.TOz).trans O'⟩, t1.1.upto fun o e => (sb.2 _ S.zi1.symm).trans e, t2.1.upto fun o e => (sb.2 _ S.zi2.symm).trans e⟩, fun c hc => ?_⟩
    have lt : c < s.heap.objs.size := mem5 (Q := fun c => c < s.heap.objs.size) hc zl (Heap.lt_size hT) (Heap.lt_size hO) (by obtain ⟨o, e, _⟩ := h1.obj; exact Heap.lt_size e) (by obtain ⟨o, e, _⟩ := h2.obj; exact Heap.lt_size e)
    rw [upd_ne (Nat.ne_of_lt lt)]
    exact (hf c hc).1
  done := by
    intro X hP hw hK hc i pins s σ H E I hf st hg
    subst hP hw hK
    obtain ⟨hz, hT, ⟨x0, y0, hO⟩, h1, h2⟩ := st
    obtain ⟨xs, ys, qx, qy, ei⟩ := hg
    obtain ⟨us, ru, pu⟩ := inv_B I qx
    obtain ⟨ws, rw', pw⟩ := inv_B I qy
    have l1 := ru.length; have l2 := rw'.length
    have hh : X.A.in1.handled = none := by rw [show X.A.in1.handled = X.A.handled from rfl]; exact I.ok.hd hc
    have s1 : us.toArray.size = us.length := by simp
    have s2 : ws.toArray.size = ws.length := by simp
    refine wpAny_pyNext_zipD2_end (i := i) S (drB b1 hh i1 a na us.toArray) (drB b2 hh i2 b nb ws.toArray) hz hT hO ⟨h1, pu⟩ ⟨h2, pw⟩ (by omega) (by omega) (by omega) fun h' tk ks => ⟨rfl, I.turnedL (t' := tk) (ch := [z, TI, TO, i1, i2]) (fun c o n e => ?_) hf⟩
    simp only [List.mem_cons, List.not_mem_nil, or_false, not_or] at n
    exact ks c o n.1 n.2.2.1 n.2.2.2.1 n.2.2.2.2 e
  self := fun A i s Q E st h => wpAny_pyIter_zip st.1 h
def iZipB (K : PySem.W.Frag) (ta : TA) : TI := fun σ H R => ta σ H fun vs H1 => ∃ a b k1 k2 xs ys, vs = [.ref a, .ref b] ∧ SqB K k1 H1 a xs ∧ SqB K k2 H1 b ys ∧ R (ItzB K k1 k2 a b) H1
theorem pi_zipB {X : Cx} {e e2 : Expr} {ta : TA} {p pos tp : Pos} {es : List Expr} {kk : Nat} (hg : Gl X "zip") (hm : X.mg "zip" = none) (ha : PA X [e, e2] ta)
    (hs : starEach [e, e2] X.env = (false, eval e X.env) :: starEach [e2] X.env := by rfl) (hl : (backTo pos (starEach [e2] X.env)).any (·.1) = false := by rfl) :
    PI X (.Tuple es kk tp) (.Call (.Name "zip" p) [e, e2] [] pos) (iZipB X.K ta) := by
  refine ⟨fun pins s σ H R I h => ?_⟩
  refine Call_ (ld_blt I hg hm PyProof.Rows.boot_zip (PyProof.Rows.callWith_type1 (thn (ha.run pos pins s σ H _ I h) fun us s1 ⟨vs, H1, I1, r1, q1⟩ => ?_) hs hl))
  obtain ⟨a, b, k1, k2, xs, ys, ev, qx, qy, q⟩ := q1
  subst ev
  cases r1 with
  | cons ra rr =>
    cases rr with
    | cons rb rr =>
      cases rr
      cases ra
      cases rb
      obtain ⟨us, ru, pu⟩ := inv_B I1 qx
      obtain ⟨ws, rw', pw⟩ := inv_B I1 qy
      have la := pu.lt; have lb := pw.lt
      have fp : ∀ c, c ∈ [s1.heap.objs.size + 4, s1.heap.objs.size + 2, s1.heap.objs.size + 3, s1.heap.objs.size, s1.heap.objs.size + 1] → FpOk X pins H1 c := fun c hc => by
        have le : s1.heap.objs.size ≤ c := mem5 (Q := fun c => s1.heap.objs.size ≤ c) hc (Nat.le_add_right _ _) (Nat.le_add_right _ _) (Nat.le_add_right _ _) (Nat.le_refl _) (Nat.le_add_right _ _)
        exact I1.fpOk le (I1.hok.fresh le)
      have sep := zip_sep2 (N := s1.heap.objs.size) (fp1 := [a]) (fp2 := [b]) (fun c hc => by rw [List.mem_singleton.mp hc]; exact la) (fun c hc => by rw [List.mem_singleton.mp hc]; exact lb)
      refine zip_begins2 (begB k1 a us.toArray) (begB k2 b ws.toArray) pu pw fun h' hz hT hO g1 g2 sz hk => wpAny_pyIter_zip hz ?_
      have I2 : Inv X pins σ H1 { s1 with heap := h' } := I1.kept (t' := s1.toks) hk
      exact ⟨s1.heap.objs.size + 4, [s1.heap.objs.size + 4, s1.heap.objs.size + 2, s1.heap.objs.size + 3, s1.heap.objs.size, s1.heap.objs.size + 1], _, _, H1, rfl, I2, turn_zipB sep (Nat.ne_of_lt la) (Nat.ne_of_lt (Nat.lt_succ_of_lt lb)), ⟨hz, hT, ⟨_, _, hO⟩, AtB.new g1, AtB.new g2⟩, fp, q⟩
theorem walk_zipB {K : PySem.W.Frag} {b1 b2 : Bool} {a b : Addr} {xs ys : List V} {n : Nat} (hn : n = min xs.length ys.length) : Walk (ItzB K b1 b2 a b) n (fun H => SqB K b1 H a xs ∧ SqB K b2 H b ys) (YPair (fun i => xs[i]?) (fun i => ys[i]?)) where
  goes := fun i H hi ⟨q1, q2⟩ => by
    have l1 : i < xs.length := by omega
    have l2 : i < ys.length := by omega
    exact ⟨xs, ys, xs[i], ys[i], q1, q2, List.getElem?_eq_getElem l1, List.getElem?_eq_getElem l2⟩
  stops := fun H ⟨q1, q2⟩ => ⟨xs, ys, q1, q2, hn⟩
  yields := fun i H v H' hi ⟨q1, q2⟩ ⟨T, x, y, e1, e2, e3, e4, e5⟩ => ⟨T, x, y, e1, e2, e3, e4 xs q1, e5 ys q2⟩
end VL

set_option maxRecDepth 100000
set_option maxHeartbeats 2000000
/-! VL: isinstance, join, new lists, what is walked, comprehensions. -/
namespace VL
open PySem L2 Evl PyProof.Rows PySem.Spec

section
variable {C : Ctx} {T : Tab} {Cl : Nat → Addr} {X : Cx} {b : Bool} {K : PySem.W.Frag} {cs cs' cs'' : List Addr} {F F' F'' H H' H'' : Hp} {h : AHeap}
theorem tyx_l {a : Addr} {vs : List V} (q : SqL K H a vs) : TyX K H (.ref a) (.type "list") := by
  rcases q with (q | ⟨o, q⟩) | ⟨o, its, n, h1, h2, _⟩
  · exact .base (.lst q)
  · exact .base (.frz q)
  · exact .kList h1 h2
theorem tyx_t {a : Addr} {vs : List V} (q : SqT K H a vs) : TyX K H (.ref a) (.type "tuple") := by
  rcases q with (q | ⟨o, q⟩) | ⟨o, its, n, h1, h2, _⟩
  · exact .base (.tup q)
  · exact .fTuple q
  · exact .kTuple h1 h2
def tyNames : List String := ["int", "bool", "str", "list", "tuple"]
theorem ty_boot {t : String} (h : tyNames.contains t = true) : bootBuiltins (Str.ofString t) = some (.type t) ∧ Str.ofString t ∈ bltNames ∧ plainName (Str.ofString t) = true := by
  have h' : t ∈ tyNames := by simpa using h
  simp only [tyNames, List.mem_cons, List.not_mem_nil, or_false] at h'
  rcases h' with rfl | rfl | rfl | rfl | rfl <;> exact ⟨by decide +kernel, by decide +kernel, by decide +kernel⟩
theorem isiK_ok (S : StOk X.K Cl cs F H h) {x : V} {d : AV} (rx : RepB X.K cs F H b x d) {t : String} {Q : KA} {R : VK} (q : isiK d t h Q) (p : PostV X.K Cl cs F H h Q R) : rIsi X.K [x, .ty t] H R := by
  have fin : ∀ {tx : String} {k : Bool}, TyX X.K H x (.type tx) → kitB tx t = some k → Q (.bl k) → rIsi X.K [x, .ty t] H R := fun {tx k} h1 h2 q => ⟨x, .ty t, .type tx, .type t, k, rfl, .ty t, h1, kit_ty h2, p.bl S q⟩
  unfold isiK at q
  split at q
  · cases rx.non
    obtain ⟨e, q⟩ := q
    rcases e with rfl | rfl | rfl | rfl | rfl <;> exact fin (.base .non) (by decide +kernel) q
  · cases rx.bl
    rcases q with ⟨rfl, q⟩ | ⟨rfl, q⟩ | ⟨rfl | rfl | rfl, q⟩ <;> exact fin (.base (.bl _)) (by decide +kernel) q
  · cases rx.int
    rcases q with ⟨rfl, q⟩ | ⟨rfl | rfl | rfl | rfl, q⟩ <;> exact fin (.base (.int _)) (by decide +kernel) q
  · cases rx.str
    rcases q with ⟨rfl, q⟩ | ⟨rfl | rfl | rfl | rfl, q⟩ <;> exact fin (.base (.str _)) (by decide +kernel) q
  · rename_i xs
    have hx : ∃ a vs, x = .ref a ∧ SqT X.K H a vs := by
      rcases rx with r | ⟨_, _, _, _, _, ⟨_, _, e, _⟩ | ⟨_, _, e, _⟩⟩
      · cases r with
        | tup h1 r1 => exact ⟨_, _, rfl, ex_t S.sub h1⟩
      · cases e
      · cases e
    obtain ⟨a, vs, rfl, hq⟩ := hx
    rcases q with ⟨rfl, q⟩ | ⟨rfl | rfl | rfl | rfl, q⟩ <;> exact fin (tyx_t hq) (by decide +kernel) q
  · exact q.elim
  · split at q
    · rename_i xs hv
      obtain ⟨a, vs, rfl, hq, _⟩ := rx.view S hv
      rcases q with ⟨rfl, q⟩ | ⟨rfl | rfl | rfl | rfl, q⟩ <;> exact fin (tyx_l hq) (by decide +kernel) q
    · exact q.elim
theorem s_isi {a : E} {t : String} {id id2 : Str} {p1 p2 pos : Pos} {y : Expr} (O : XOk C T Cl X) (h0 : id = "isinstance") (h1 : glB X.env.scope id = true) (h2 : id2 = Str.ofString t) (h3 : glB X.env.scope id2 = true) (ht : tyNames.contains t = true) (hy : notStar y = true)
    (ha : SE C Cl X true a y) : SE C Cl X b (.isi a t) (.Call (.Name id p1) [y, .Name id2 p2] [] pos) := fun ρ h Q σ cs F H R S V w p => by
  simp only [WpE] at w
  subst h0 h2
  obtain ⟨e1, e2, e3⟩ := ty_boot ht
  obtain ⟨n1, n2, n3⟩ := plainName_ok e3
  have pt : PE X (.Name (Str.ofString t) p2) (tC (.ty t)) := pe_bltn (glB_ok h3) (O.blt _ e2) e1 rfl n3 n1
  refine we_of (pe_callB call_isi (glB_ok h1) (O.blt _ (by decide +kernel)) (by decide +kernel) (pa_cons pe_we (pa_cons pt pa_nil) (star_cons hy _ _)) (by decide +kernel) (by decide +kernel) (star_cons hy _ _)) ?_
  refine ha _ _ _ _ _ _ _ _ S V w fun v1 d1 cs1 F1 H1 h1 x1 S1 r1 q1 => ?_
  exact isiK_ok S1 r1 q1 ((p.lift x1).post)
theorem s_smt {m : Sm} {o a : E} {nm : Str} {y z : Expr} {apos cpos : Pos} (hm : (match m with | .join => decide (nm = "join")) = true) (ho : SE C Cl X false o y) (ha : SE C Cl X true a z) (hz : notStar z = true) (hy : notSup y = true) (hl : (apos.endLine == cpos.line) = true) :
    SE C Cl X b (.smt m o a) (.Call (.Attribute y nm apos) [z] [] cpos) := fun ρ h Q σ cs F H R S V w p => by
  simp only [WpE] at w
  cases m with
  | join =>
    have hm : nm = "join" := of_decide_eq_true hm
    subst hm
    refine we_of (pe_join pe_we pe_we (star_cons hz _ _) (base_of hy _ _) hl) ?_
    refine ho _ _ _ _ _ _ _ _ S V w fun v1 d1 cs1 F1 H1 h1 x1 S1 r1 q1 => ?_
    split at q1
    · cases r1.str
      refine ⟨⟨_, rfl⟩, ha _ _ _ _ _ _ _ _ S1 (V.step x1) q1 fun v2 d2 cs2 F2 H2 h2 x2 S2 r2 q2 => ?_⟩
      unfold smtK at q2
      simp only at q2
      split at q2
      · rename_i ys hv
        obtain ⟨xs, hv, hn⟩ := Option.bind_eq_some_iff.mp hv
        obtain ⟨a, vs, rfl, hq, r⟩ := r2.viewT S2 hv
        rw [r.strs hn] at hq
        exact ⟨_, a, ys, rfl, rfl, hq, q2.1, (p.lift (x1.trans x2)).post.str S2 q2.2⟩
      · exact q2.elim
    · exact q1.elim

/-! ### objects of own classes -/
theorem Rep.adr_inv {K : PySem.W.Frag} {cs : List Addr} {F : Hp} {v : V} {n : Nat} (r : Rep K cs F v (.adr n)) : ∃ a, v = .ref a ∧ cs[n]? = some a := by
  cases r with
  | adr e => exact ⟨_, rfl, e⟩
theorem obj_at (S : StOk K Cl cs F H h) {n c : Nat} {a : Addr} {fs : List (Str × AV)} (e : cs[n]? = some a) (hc : cells h n = .obj c fs) : ∃ dx fvs, H a = some (.ins (Cl c) dx fvs) ∧ RepF K cs F fvs fs := by
  have := S.cell n a e
  rw [hc] at this
  exact this
theorem s_attr {a : E} {f : Str} {y : Expr} {pos : Pos} (O : XOk C T Cl X) (ha : SE C Cl X false a y) (hy : notSup y = true) : SE C Cl X b (.attr a f) (.Attribute y f pos) := fun ρ h Q σ cs F H R S V w p => by
  simp only [WpE] at w
  refine we_of (pe_fld pe_we (base_of hy _ _)) (ha _ _ _ _ _ _ _ _ S V w fun v1 d1 cs1 F1 H1 h1 x1 S1 r1 q1 => ?_)
  split at q1
  · rename_i n
    split at q1
    · rename_i c fs hc
      obtain ⟨hf, q1⟩ := q1
      split at q1
      · rename_i d hd
        obtain ⟨a, rfl, e⟩ := Rep.adr_inv r1.plain
        obtain ⟨dx, fvs, e2, r⟩ := obj_at S1 e hc
        obtain ⟨v, hv, rv⟩ := r.get hd
        exact ⟨a, Cl c, dx, fvs, v, rfl, e2, (O.fld c f hf).1, (O.fld c f hf).2, hv, p _ _ _ _ _ _ x1 S1 (.inl rv) q1⟩
      · exact q1.elim
    · exact q1.elim
  · exact q1.elim
theorem few_form {xs : List Expr} (hx : xs.all notStar = true) (hn : xs.length < 30) (pos : Pos) (env : PySem.Env) : methodCallForm xs.length (backTo pos (starEach xs env)) [] = true := by
  have := star_all hx pos env
  unfold methodCallForm
  rw [List.any_eq_false] at this
  have e : (backTo pos (starEach xs env)).all (fun x => !x.1) = true := by
    rw [List.all_eq_true]
    intro x hx
    have := this x hx
    simpa using this
  simp [e, hn]
theorem s_mcall {o : E} {m : Str} {es : Es} {y : Expr} {apos cpos : Pos} {xs : List Expr} (O : XOk C T Cl X) (ho : SE C Cl X false o y) (hy : notSup y = true) (hl : (apos.endLine == cpos.line) = true) (hx : xs.all notStar = true) (hn : xs.length < 30) (hnil : xs = [] → es = .nil) (ha : SA C Cl X es xs) :
    SE C Cl X b (.mcall o m es) (.Call (.Attribute y m apos) xs [] cpos) := fun ρ h Q σ cs F H R S V w p => by
  simp only [WpE] at w
  have key : ∀ v1 d1 cs1 F1 H1 h1, Stp cs F H cs1 F1 H1 → StOk X.K Cl cs1 F1 H1 h1 → RepB X.K cs1 F1 H1 false v1 d1 → (match d1 with
      | .adr n => match cells h1 n with
        | .obj c fs => match fs.lookup m with
          | some _ => False
          | none => match C.meth c m with
            | some f => WpEs C es ρ h1 fun xs h2 => C.call f (d1 :: xs) h2 Q
            | none => False
        | _ => False
      | _ => False) → ∃ a CC dx fs sp, v1 = .ref a ∧ H1 a = some (.ins CC dx fs) ∧ fs.lookup m = none ∧ MethAt X CC m sp ∧ WA X xs σ H1 fun vs H2 => sp (v1 :: vs) H2 R E0 := by
    intro v1 d1 cs1 F1 H1 h1 x1 S1 r1 q1
    split at q1
    · rename_i n
      split at q1
      · rename_i c fs hc
        split at q1
        · exact q1.elim
        · rename_i hlk
          split at q1
          · rename_i f hf
            obtain ⟨a, rfl, e⟩ := Rep.adr_inv r1.plain
            obtain ⟨dx, fvs, e2, r⟩ := obj_at S1 e hc
            obtain ⟨k, g, fd, ps, G, room, hc1, hm, hb⟩ := O.mth c m f hf
            refine ⟨a, Cl c, dx, fvs, spOf X.K Cl C f, rfl, e2, r.none hlk, ⟨k, g, fd, ps, hc1, hm, G, room, hb⟩, ?_⟩
            refine ha _ _ _ _ _ _ _ _ S1 (V.step x1) q1 fun vs ds cs2 F2 H2 h2 x2 S2 rs q2 => ?_
            exact ⟨cs2, F2, h2, .adr n :: ds, Q, S2, .cons (r1.plain.mono x2.f x2.c) rs.plain, q2, fun v d cs' F' H' h' y S' r q => p _ _ _ _ _ _ ((x1.trans x2).trans y) S' (.inl r) q⟩
          · exact q1.elim
      · exact q1.elim
    · exact q1.elim
  cases xs with
  | nil =>
    have := hnil rfl
    subst this
    refine we_of (pe_methG0 pe_we (base_of hy _ _) hl O.gd) (ho _ _ _ _ _ _ _ _ S V w fun v1 d1 cs1 F1 H1 h1 x1 S1 r1 q1 => ?_)
    obtain ⟨a, CC, dx, fs, sp, e1, e2, e3, e4, _⟩ := key v1 d1 cs1 F1 H1 h1 x1 S1 r1 q1
    subst e1
    split at q1
    · rename_i n
      split at q1
      · rename_i c fs' hc
        split at q1
        · exact q1.elim
        · rename_i hlk
          split at q1
          · rename_i f hf
            obtain ⟨a', ea, e⟩ := Rep.adr_inv r1.plain
            cases ea
            obtain ⟨dx', fvs, e2', r⟩ := obj_at S1 e hc
            obtain ⟨k, g, fd, ps, G, room, hc1, hm, hb⟩ := O.mth c m f hf
            simp only [WpEs] at q1
            exact ⟨a, Cl c, dx', fvs, spOf X.K Cl C f, rfl, e2', r.none hlk, ⟨k, g, fd, ps, hc1, hm, G, room, hb⟩, cs1, F1, h1, [.adr n], Q, S1, .cons r1.plain .nil, q1, fun v d cs' F' H' h' y S' r q => p _ _ _ _ _ _ (x1.trans y) S' (.inl r) q⟩
          · exact q1.elim
      · exact q1.elim
    · exact q1.elim
  | cons x xs =>
    have hx2 := hx
    rw [List.all_cons, Bool.and_eq_true] at hx2
    refine we_of (pe_methG pe_we (base_of hy _ _) hl (few_form hx hn _ _) O.gd pa_we (star_cons hx2.1 _ _) (star_all hx2.2 _ _)) (ho _ _ _ _ _ _ _ _ S V w fun v1 d1 cs1 F1 H1 h1 x1 S1 r1 q1 => ?_)
    exact key v1 d1 cs1 F1 H1 h1 x1 S1 r1 q1
theorem s_make {c : Nat} {es : Es} {id : Str} {p1 pos : Pos} {x : Expr} {xs : List Expr} (O : XOk C T Cl X) (h0 : T.cname c = some id) (h1 : glB X.env.scope id = true) (h2 : plainName id = true) (hx : (x :: xs).all notStar = true) (ha : SA C Cl X es (x :: xs)) :
    SE C Cl X b (.make c es) (.Call (.Name id p1) (x :: xs) [] pos) := fun ρ h Q σ cs F H R S V w p => by
  simp only [WpE] at w
  obtain ⟨f, k, g, fd, ps, hi, G, room, hm, M, hb⟩ := O.cls c id h0
  rw [List.all_cons, Bool.and_eq_true] at hx
  refine we_of (G.make M O.gd room (glB_ok h1) hm hb pa_we (plainName_ok h2).1 (star_cons hx.1 _ _) (star_all hx.2 _ _)) (ha _ _ _ _ _ _ _ _ S V w fun vs ds cs1 F1 H1 h1' x1 S1 rs q1 => ?_)
  rw [hi] at q1
  intro a dx na nd ne
  have ne2 : a ≠ dx := fun z => ne z.symm
  have hF : F1 a = none := by
    cases q : F1 a with
    | none => rfl
    | some u => rw [S1.sub _ _ q] at na; cases na
  have hc : a ∉ cs1 := fun z => by
    obtain ⟨n, hn⟩ := List.mem_iff_getElem?.mp z
    exact (S1.cell n a hn).some na
  have na2 : upd H1 dx (.own a) a = none := by rw [upd_ne ne2]; exact na
  have S2 := (S1.newN (o := .own a) nd).newN (o := .ins (Cl c) dx []) na2
  have y1 : Stp cs1 F1 H1 cs1 F1 (upd (upd H1 dx (.own a)) a (.ins (Cl c) dx [])) := (Stp.newN nd).trans (Stp.newN na2)
  have S3 := S2.cellNew (c := .obj c []) hF hc ⟨dx, [], upd_same, .nil⟩
  have y2 : Stp cs1 F1 H1 (cs1 ++ [a]) F1 (upd (upd H1 dx (.own a)) a (.ins (Cl c) dx [])) := by
    refine ⟨y1.f, ⟨[a], rfl⟩, y1.k, y1.d, y1.n, fun b q1 q2 => ?_⟩
    rw [List.mem_append] at q1
    rcases q1 with q1 | q1
    · exact absurd q1 q2
    · simp at q1; subst q1; exact na
  have ga : (cs1 ++ [a])[h1'.length]? = some a := by
    rw [← S1.len]
    simp
  refine ⟨cs1 ++ [a], F1, h1' ++ [.obj c []], .adr h1'.length :: ds, _, S3, .cons (.adr ga) (rs.plain.mono y2.f y2.c), q1, fun v d cs' F' H' h' y S' r q => ?_⟩
  split at q
  · cases r
    refine ⟨rfl, p _ _ _ _ _ _ ((x1.trans y2).trans y) S' (.inl (.adr ?_)) q⟩
    obtain ⟨r, e⟩ := y.c
    exact get_pre e ga
  · exact q.elim

/-! ### dicts of the module, places, tuples turned round, own classes asked for -/
theorem s_gGet {a : E} {g : Nat} {id : Str} {p1 pos : Pos} {r : Expr} (O : XOk C T Cl X) (h0 : T.dname g = some id) (h1 : glB X.env.scope id = true) (h2 : plainName id = true) (hs : notSlice r = true) (ha : SE C Cl X false a r) :
    SE C Cl X b (.gGet g a) (.Subscript (.Name id p1) r pos) := fun ρ h Q σ cs F H R S V w p => by
  simp only [WpE] at w
  obtain ⟨kvs, d, hg, m1, D⟩ := O.gdc g id h0
  rw [hg] at w
  have pt : PE X (.Name id p1) (tC (.ref d)) := pe_glob (glB_ok h1) m1 rfl (plainName_ok h2).1
  refine we_of (pe_ix (ix_gdict D) pt pe_we (plainIx_of hs)) ?_
  refine ha _ _ _ _ _ _ _ _ S V w fun v1 d1 cs1 F1 H1 h1 x1 S1 r1 q1 => ?_
  unfold gGetK at q1
  simp only at q1
  split at q1
  · cases r1.str
    split at q1
    · rename_i i hi
      exact ⟨_, _, rfl, rfl, hi, (p.lift x1).post.int S1 q1⟩
    · exact q1.elim
  · exact q1.elim
theorem s_gIn {neg : Bool} {a : E} {g : Nat} {id : Str} {p1 pos : Pos} {l : Expr} {o : CmpOp} (O : XOk C T Cl X) (ho : o = if neg then .NotIn else .In) (h0 : T.dname g = some id) (h1 : glB X.env.scope id = true) (h2 : plainName id = true) (hm : behindInMarks o (.Name id p1) = false) (ha : SE C Cl X false a l) :
    SE C Cl X b (.gIn neg a g) (.Compare l [o] [.Name id p1] pos) := fun ρ h Q σ cs F H R S V w p => by
  simp only [WpE] at w
  obtain ⟨kvs, d, hg, m1, D⟩ := O.gdc g id h0
  rw [hg] at w
  have pt : PE X (.Name id p1) (tC (.ref d)) := pe_glob (glB_ok h1) m1 rfl (plainName_ok h2).1
  cases neg with
  | true =>
    simp only [if_true] at ho
    subst ho
    refine we_of (pe_cmpR (op_gNotIn D) pe_we pt hm) (ha _ _ _ _ _ _ _ _ S V w fun v1 d1 cs1 F1 H1 h1 x1 S1 r1 q1 => ?_)
    unfold gInK at q1
    simp only at q1
    split at q1
    · cases r1.str
      exact ⟨_, rfl, rfl, (p.lift x1).post.bl S1 q1⟩
    · exact q1.elim
  | false =>
    simp only [Bool.false_eq_true, if_false] at ho
    subst ho
    refine we_of (pe_cmpR (op_gIn D) pe_we pt hm) (ha _ _ _ _ _ _ _ _ S V w fun v1 d1 cs1 F1 H1 h1 x1 S1 r1 q1 => ?_)
    unfold gInK at q1
    simp only at q1
    split at q1
    · cases r1.str
      exact ⟨_, rfl, rfl, (p.lift x1).post.bl S1 q1⟩
    · exact q1.elim
theorem s_gInT {neg : Bool} {a : E} {g : Nat} {id : Str} {p1 pos : Pos} {l : Expr} {o : CmpOp} (O : XOk C T Cl X) (ho : o = if neg then .NotIn else .In) (h0 : T.dname g = some id) (h1 : glB X.env.scope id = true) (h2 : plainName id = true) (hm : behindInMarks o (.Name id p1) = false) (ha : SE C Cl X false a l) :
    ST C Cl X (.gIn neg a g) (.Compare l [o] [.Name id p1] pos) := fun ρ h Q σ cs F H R S V w p => by
  simp only [WpT] at w
  obtain ⟨kvs, d, hg, m1, D⟩ := O.gdc g id h0
  rw [hg] at w
  have pt : PE X (.Name id p1) (tC (.ref d)) := pe_glob (glB_ok h1) m1 rfl (plainName_ok h2).1
  cases neg with
  | true =>
    simp only [if_true] at ho
    subst ho
    refine wt_of (pt_cmpR (op_gNotIn D) pe_we pt hm) (ha _ _ _ _ _ _ _ _ S V w fun v1 d1 cs1 F1 H1 h1 x1 S1 r1 q1 => ?_)
    unfold gInK at q1
    simp only at q1
    split at q1
    · cases r1.str
      exact ⟨_, rfl, rfl, _, rfl, p _ _ _ _ _ x1 S1 q1⟩
    · exact q1.elim
  | false =>
    simp only [Bool.false_eq_true, if_false] at ho
    subst ho
    refine wt_of (pt_cmpR (op_gIn D) pe_we pt hm) (ha _ _ _ _ _ _ _ _ S V w fun v1 d1 cs1 F1 H1 h1 x1 S1 r1 q1 => ?_)
    unfold gInK at q1
    simp only at q1
    split at q1
    · cases r1.str
      exact ⟨_, rfl, rfl, _, rfl, p _ _ _ _ _ x1 S1 q1⟩
    · exact q1.elim
theorem s_idx {l a : E} {nm : Str} {y z : Expr} {apos cpos : Pos} (hm : nm = "index") (hl : SE C Cl X true l y) (ha : SE C Cl X false a z) (hz : notStar1 z = true) (hy : notSup y = true) (hp : (apos.endLine == cpos.line) = true) :
    SE C Cl X b (.idx l a) (.Call (.Attribute y nm apos) [z] [] cpos) := fun ρ h Q σ cs F H R S V w p => by
  simp only [WpE] at w
  subst hm
  refine we_of (pe_index pe_we pe_we hz (base_of hy _ _) hp) ?_
  refine hl _ _ _ _ _ _ _ _ S V w fun v1 d1 cs1 F1 H1 h1 x1 S1 r1 q1 => ?_
  obtain ⟨hv, q1⟩ := q1
  obtain ⟨xs0, hv⟩ := Option.isSome_iff_exists.mp hv
  obtain ⟨a0, vs0, e0, hq0, _⟩ := r1.view S1 hv
  refine ⟨by rw [e0]; exact .inl ⟨rfl, _, hq0⟩, ?_⟩
  refine ha _ _ _ _ _ _ _ _ S1 (V.step x1) q1 fun v2 d2 cs2 F2 H2 h2 x2 S2 r2 q2 => ?_
  unfold idxK at q2
  split at q2
  · rename_i xs hv2
    obtain ⟨f1, f2, q3⟩ := q2
    obtain ⟨a1, vs, e1, hq, r⟩ := (r1.step x2).view S2 hv2
    split at q3
    · rename_i j hj
      obtain ⟨hlt, hp1, hp2⟩ := List.findIdx?_eq_some_iff_getElem.mp hj
      have hlv : j < vs.length := by rw [r.length]; exact hlt
      refine ⟨a1, vs, v2, j, vs[j], e1, rfl, hq, (r2.flat f1).1, (r.flat f2 r2 f1).1, List.getElem?_eq_getElem hlv, ?_, fun m z' hm hz' => ?_, (p.lift (x1.trans x2)).post.int S2 q3⟩
      · rw [r.flatAt f2 r2 f1 (List.getElem?_eq_getElem hlv) (List.getElem?_eq_getElem hlt)]
        exact hp1
      · have hm2 : m < xs.length := Nat.lt_trans hm hlt
        rw [r.flatAt f2 r2 f1 hz' (List.getElem?_eq_getElem hm2)]
        exact Bool.eq_false_iff.mpr (hp2 m hm)
    · exact q3.elim
  · exact q2.elim
theorem s_popE {o : E} {nm : Str} {y : Expr} {apos cpos : Pos} (hm : nm = "pop") (ho : SE C Cl X false o y) (hy : notSup y = true) (hp : (apos.endLine == cpos.line) = true) :
    SE C Cl X b (.popE o) (.Call (.Attribute y nm apos) [] [] cpos) := fun ρ h Q σ cs F H R S V w p => by
  simp only [WpE] at w
  subst hm
  refine we_of (pe_bm0 PySem.F.plainAttrs_list PySem.F.slot_list_pop PySem.F.type_list_pop mt_pop pe_we (base_of hy _ _) hp) ?_
  refine ho _ _ _ _ _ _ _ _ S V w fun v1 d1 cs1 F1 H1 h1 x1 S1 r1 q1 => ?_
  split at q1
  · rename_i m
    split at q1
    · rename_i xs hc
      split at q1
      · rename_i d hl
        have r1 := r1.plain
        cases r1 with
        | adr g1 =>
          rename_i a
          obtain ⟨vs, g2, g3⟩ := cell_at S1 g1 hc
          have hl2 : xs[xs.length - 1]? = some d := by rw [← List.getLast?_eq_getElem?]; exact hl
          obtain ⟨v, hv, rv⟩ := g3.get hl2
          rw [← g3.length] at hv
          refine ⟨.inl ⟨rfl, vs, sq_of g2⟩, a, vs, v, rfl, rfl, g2, hv, ?_⟩
          have ds : Reps X.K cs1 F1 vs.dropLast xs.dropLast := by
            rw [List.dropLast_eq_take, List.dropLast_eq_take, g3.length]
            exact g3.take _
          exact (p.lift (x1.trans (Stp.chg (List.mem_of_getElem? g1)))) v d _ _ _ _ .refl (S1.cellSet g1 (show COk X.K Cl cs1 F1 _ a (.lst xs.dropLast) from ⟨_, upd_same, ds⟩)) (.inl rv) q1
      · exact q1.elim
    · exact q1.elim
  · exact q1.elim
theorem s_revT {a : E} {l : Expr} {k : Nat} {p1 p2 p3 pos : Pos} (ha : SE C Cl X false a l) : SE C Cl X b (.revT a) (.Subscript l (.Slice none none (some (.UnaryOp .USub (.Constant (.int 1) k p1) p2)) p3) pos) := fun ρ h Q σ cs F H R S V w p => by
  simp only [WpE] at w
  refine we_of (pe_revT pe_we) (ha _ _ _ _ _ _ _ _ S V w fun v1 d1 cs1 F1 H1 h1 x1 S1 r1 q1 => ?_)
  split at q1
  · have r1' := r1.plain
    cases r1' with
    | tup g1 g2 => exact ⟨_, _, rfl, ex_t S1.sub g1, (p.lift x1).post.newT S1 g2.rev q1⟩
  · exact q1.elim
theorem s_isC {a : E} {c : Nat} {id id2 : Str} {p1 p2 pos : Pos} {y : Expr} (O : XOk C T Cl X) (h0 : id = "isinstance") (h1 : glB X.env.scope id = true) (h2 : T.iname c = some id2) (h3 : glB X.env.scope id2 = true) (h4 : plainName id2 = true) (hy : notStar y = true)
    (ha : SE C Cl X false a y) : SE C Cl X b (.isC a c) (.Call (.Name id p1) [y, .Name id2 p2] [] pos) := fun ρ h Q σ cs F H R S V w p => by
  simp only [WpE] at w
  subst h0
  obtain ⟨m1, IC⟩ := O.isc c id2 h2
  have pt : PE X (.Name id2 p2) (tC (.ref (Cl c))) := pe_glob (glB_ok h3) m1 rfl (plainName_ok h4).1
  refine we_of (pe_callB (C8.call_isC IC) (glB_ok h1) (O.blt _ (by decide +kernel)) (by decide +kernel) (pa_cons pe_we (pa_cons pt pa_nil) (star_cons hy _ _)) (by decide +kernel) (by decide +kernel) (star_cons hy _ _)) ?_
  refine ha _ _ _ _ _ _ _ _ S V w fun v1 d1 cs1 F1 H1 h1 x1 S1 r1 q1 => ?_
  unfold isCK at q1
  split at q1
  · rename_i n
    split at q1
    · rename_i c' fs hc
      obtain ⟨rfl, q1⟩ := q1
      obtain ⟨a, rfl, e⟩ := Rep.adr_inv r1.plain
      obtain ⟨dx, fvs, e2, r⟩ := obj_at S1 e hc
      exact ⟨a, dx, fvs, rfl, e2, (p.lift x1).post.bl S1 q1⟩
    · exact q1.elim
  · exact q1.elim

/-! ### new lists -/
theorem NOk.made {Q : Cell → AHeap → Prop} {R : VK} (p : NOk K Cl cs F H Q R) (S : StOk K Cl cs F H h) {a : Addr} {o : HO} {c : Cell} (ha : H a = none) (r : COk K Cl cs F (upd H a o) a c) (q : Q c h) : R (.ref a) (upd H a o) := by
  have hF : F a = none := by
    cases w : F a with
    | none => rfl
    | some u => rw [S.sub _ _ w] at ha; cases ha
  have hc : a ∉ cs := fun z => by
    obtain ⟨n, hn⟩ := List.mem_iff_getElem?.mp z
    exact (S.cell n a hn).some ha
  exact p a c cs F _ h (.newN ha) (S.newN ha) ha hF hc r q
theorem n_lst {es : Es} {xs : List Expr} {pos : Pos} (ha : SA C Cl X es xs) : SN C Cl X (.lst es) (.List xs pos) := fun ρ h Q σ cs F H R S V w p => by
  simp only [WpN] at w
  refine we_of (pe_lst pa_we) (ha _ _ _ _ _ _ _ _ S V w fun vs ds cs1 F1 H1 h1 x1 S1 rs q1 => ?_)
  have rs := rs.plain
  exact ⟨by rw [rs.length]; exact q1.1, fun a ha => (p.lift x1).made S1 ha (show COk X.K Cl cs1 F1 _ a (.lst ds) from ⟨vs, upd_same, rs⟩) q1.2⟩
theorem reps_strs {K : PySem.W.Frag} {cs : List Addr} {F : Hp} : ∀ ys : List Str, Reps K cs F (ys.map V.str) (ys.map AV.str)
  | [] => .nil
  | y :: ys => .cons (.str y) (reps_strs ys)
theorem n_split {o a : E} {nm : Str} {y z : Expr} {apos cpos : Pos} (hm : nm = "split") (ho : SE C Cl X false o y) (ha : SE C Cl X false a z) (hz : notStar z = true) (hy : notSup y = true) (hl : (apos.endLine == cpos.line) = true) :
    SN C Cl X (.split o a) (.Call (.Attribute y nm apos) [z] [] cpos) := fun ρ h Q σ cs F H R S V w p => by
  simp only [WpN] at w
  subst hm
  refine we_of (pe_split pe_we pe_we (star_cons hz _ _) (base_of hy _ _) hl) ?_
  refine ho _ _ _ _ _ _ _ _ S V w fun v1 d1 cs1 F1 H1 h1 x1 S1 r1 q1 => ?_
  split at q1
  · cases r1.str
    refine ⟨⟨_, rfl⟩, ha _ _ _ _ _ _ _ _ S1 (V.step x1) q1 fun v2 d2 cs2 F2 H2 h2 x2 S2 r2 q2 => ?_⟩
    split at q2
    · cases r2.str
      obtain ⟨q3, q4, q5⟩ := q2
      exact ⟨_, _, rfl, rfl, q3, q4, fun a ha => (p.lift (x1.trans x2)).made S2 ha (show COk X.K Cl cs2 F2 _ a (.lst _) from ⟨_, upd_same, reps_strs _⟩) q5⟩
    · exact q2.elim
  · exact q1.elim
theorem n_slice {a : E} {lo hi : Oe} {l : Expr} {u v : Option Expr} {p2 pos : Pos} (ha : SE C Cl X true a l) (hl : SO C Cl X lo u) (hh : SO C Cl X hi v) : SN C Cl X (.slice a lo hi) (.Subscript l (.Slice u v none p2) pos) := fun ρ h Q σ cs F H R S V w p => by
  simp only [WpN] at w
  refine we_of (pe_slice sl_list pe_we po_we po_we) (ha _ _ _ _ _ _ _ _ S V w fun v1 d1 cs1 F1 H1 h1 x1 S1 r1 q1 => ?_)
  refine hl _ _ _ _ _ _ _ _ S1 (V.step x1) q1 fun k2 cs2 F2 H2 h2 x2 S2 q2 => ?_
  refine hh _ _ _ _ _ _ _ _ S2 ((V.step x1).step x2) q2 fun k3 cs3 F3 H3 h3 x3 S3 q3 => ?_
  split at q3
  · rename_i xs hv
    obtain ⟨a, vs, rfl, hq, r⟩ := ((r1.step x2).step x3).view S3 hv
    exact ⟨a, vs, rfl, hq, fun a ha => (p.lift ((x1.trans x2).trans x3)).made S3 ha (show COk X.K Cl cs3 F3 _ a (.lst (cut xs k2 k3)) from ⟨_, upd_same, r.cut k2 k3⟩) q3⟩
  · exact q3.elim
theorem n_list {a : E} {id : Str} {p1 pos : Pos} {y : Expr} (O : XOk C T Cl X) (h0 : id = "list") (h1 : glB X.env.scope id = true) (hy : notStar y = true) (ha : SE C Cl X true a y) : SN C Cl X (.listOf a) (.Call (.Name id p1) [y] [] pos) := fun ρ h Q σ cs F H R S V w p => by
  simp only [WpN] at w
  subst h0
  refine we_of (pe_callTy (callw_ok (f := .type "list")) (glB_ok h1) (O.blt _ (by decide +kernel)) (by decide +kernel) (pa_cons pe_we pa_nil (star_cons hy _ _)) (by decide +kernel) (by decide +kernel) (star_cons hy _ _)) ?_
  refine ha _ _ _ _ _ _ _ _ S V w fun v1 d1 cs1 F1 H1 h1 x1 S1 r1 q1 => ?_
  split at q1
  · rename_i xs hv
    obtain ⟨a, vs, rfl, hq, r⟩ := r1.viewT S1 hv
    exact callw_of call_list_of ⟨a, vs, rfl, hq, fun a ha => (p.lift x1).made S1 ha (show COk X.K Cl cs1 F1 _ a (.lst xs) from ⟨_, upd_same, r⟩) q1⟩
  · split at q1
    · rename_i kvs hn
      obtain ⟨a, es, rfl, hq, r⟩ := r1.viewN S1 hn
      exact callw_of (call_list_dN O.calm) ⟨a, es, rfl, hq, fun a ha => (p.lift x1).made S1 ha (show COk X.K Cl cs1 F1 _ a (.lst _) from ⟨_, upd_same, r.list⟩) q1⟩
    · exact q1.elim
theorem n_dctN0 {pos : Pos} : SN C Cl X .dctN0 (.Dict [] [] pos) := fun ρ h Q σ cs F H R S V w p => by
  simp only [WpN] at w
  exact we_of pe_dnewN fun a ha => p.made S ha (show COk X.K Cl cs F _ a (.dctN []) from ⟨_, upd_same, .nil⟩) w
theorem n_cat {a c : E} {l r : Expr} {pos : Pos} (ha : SE C Cl X true a l) (hc : SE C Cl X true c r) : SN C Cl X (.cat a c) (.BinOp l .Add r pos) := fun ρ h Q σ cs F H R S V w p => by
  simp only [WpN] at w
  refine we_of (pe_op op_cat pe_we pe_we) (ha _ _ _ _ _ _ _ _ S V w fun v1 d1 cs1 F1 H1 h1 x1 S1 r1 q1 => ?_)
  refine hc _ _ _ _ _ _ _ _ S1 (V.step x1) q1 fun v2 d2 cs2 F2 H2 h2 x2 S2 r2 q2 => ?_
  split at q2
  · rename_i xs ys hx hy
    obtain ⟨a1, vs, rfl, e1, t1⟩ := (r1.step x2).viewW S2 hx
    obtain ⟨a2, ws, rfl, e2, t2⟩ := r2.viewW S2 hy
    exact ⟨a1, a2, vs, ws, rfl, rfl, e1, e2, by rw [t1.length, t2.length]; exact q2.1, fun a ha => (p.lift (x1.trans x2)).made S2 ha (show COk X.K Cl cs2 F2 _ a (.lst (xs ++ ys)) from ⟨_, upd_same, t1.append t2⟩) q2.2⟩
  · exact q2.elim

theorem Reps.rep {vs : List V} {ds : List AV} (r : Reps K cs F vs ds) : ∀ n : Nat, Reps K cs F (List.replicate n vs).flatten (List.replicate n ds).flatten
  | 0 => .nil
  | n + 1 => by rw [List.replicate_succ, List.replicate_succ, List.flatten_cons, List.flatten_cons]; exact r.append (Reps.rep r n)
theorem n_rep {a c : E} {l r : Expr} {pos : Pos} (ha : SE C Cl X true a l) (hc : SE C Cl X false c r) : SN C Cl X (.rep a c) (.BinOp l .Mult r pos) := fun ρ h Q σ cs F H R S V w p => by
  simp only [WpN] at w
  refine we_of (pe_op op_rep pe_we pe_we) (ha _ _ _ _ _ _ _ _ S V w fun v1 d1 cs1 F1 H1 h1 x1 S1 r1 q1 => ?_)
  refine hc _ _ _ _ _ _ _ _ S1 (V.step x1) q1 fun v2 d2 cs2 F2 H2 h2 x2 S2 r2 q2 => ?_
  split at q2
  · rename_i xs k hx
    obtain ⟨a1, vs, rfl, e1, t1⟩ := (r1.step x2).viewW S2 hx
    have r2 := r2.plain
    cases r2
    exact ⟨a1, k, vs, rfl, rfl, e1, q2.1.1, q2.1.2, by rw [t1.length]; exact q2.2.1, fun a ha => (p.lift (x1.trans x2)).made S2 ha (show COk X.K Cl cs2 F2 _ a (.lst (List.replicate k.toNat xs).flatten) from ⟨_, upd_same, t1.rep k.toNat⟩) q2.2.2⟩
  · exact q2.elim

theorem Stp.chgNew {p : Addr} {o : HO} (x : Stp cs F H cs' F' H') (hp : H p = none) : Stp cs F H cs' F' (upd H' p o) := by
  refine ⟨x.f, x.c, fun b u q n => ?_, fun b q => ?_, x.n, x.m⟩
  · rw [upd_ne fun z => by subst z; rw [hp] at q; cases q]
    exact x.k b u q n
  · by_cases hb : b = p
    · subst hb; rw [upd_same]; simp
    · rw [upd_ne hb]; exact x.d b q
theorem keyOf_rep {d : AV} {v : V} {k : Key} (e : keyOf d = some k) (r : RepB K cs F H false v d) : v = kV k := by
  have r := r.plain
  cases d <;> simp only [keyOf] at e <;> cases e <;> cases r <;> rfl
theorem n_dct1 {k v : E} {x y : Expr} {pos : Pos} (hk : SE C Cl X false k x) (hv : SE C Cl X false v y) : SN C Cl X (.dct1 k v) (.Dict [some x] [y] pos) := fun ρ h Q σ cs F H R S V w p => by
  simp only [WpN] at w
  refine we_of (pe_disp (pps_cons pe_we pe_we pps_nil) rfl rfl (by simp) (by simp)) ?_
  intro a na
  have S1 := S.newN (o := .dK []) na
  have x0 : Stp cs F H cs F (upd H a (.dK [])) := Stp.newN na
  refine hk _ _ _ _ _ _ _ _ S1 (V.step x0) w fun v1 d1 cs1 F1 H1 h1 x1 S2 r1 q1 => ?_
  refine hv _ _ _ _ _ _ _ _ S2 ((V.step x0).step x1) q1 fun v2 d2 cs2 F2 H2 h2 x2 S3 r2 q2 => ?_
  split at q2
  · rename_i key e
    have x12 := x1.trans x2
    have here : upd H a (.dK []) a = some (.dK []) := upd_same
    have hc : a ∉ cs := fun z => by
      obtain ⟨n, hn⟩ := List.mem_iff_getElem?.mp z
      exact (S.cell n a hn).some na
    have hF : F a = none := by
      cases q : F a with
      | none => rfl
      | some u => rw [S.sub _ _ q] at na; cases na
    have e2 : H2 a = some (.dK []) := x12.k a _ here hc
    have hF2 : F2 a = none := by
      cases q : F2 a with
      | none => rfl
      | some u =>
        have := x12.n a hF (by rw [q]; simp)
        rw [here] at this; cases this
    have hn2 : a ∉ cs2 := fun z => by
      have := x12.m a z hc
      rw [here] at this; cases this
    refine ⟨e2, [(key, v2)], ?_, by simp, ?_⟩
    · rw [keyOf_rep e r1]; rfl
    · exact p a (.dct [(key, d2)]) cs2 F2 _ h2 ((x0.trans x12).chgNew na) (S3.chgN hF2 hn2) na hF2 hn2 ⟨_, upd_same, .cons r2.plain .nil⟩ q2
  · exact q2.elim
/-! ### displays of pairs -/
def trsOf (X : Cx) : List (Option Expr) → List Expr → List (TE × TE)
  | some x :: xs, y :: ys => (WE X x, WE X y) :: trsOf X xs ys
  | _, _ => []
def flatP : List (V × V) → List V
  | [] => []
  | (a, b) :: r => a :: b :: flatP r
def PD (K : PySem.W.Frag) (Cl : Nat → Addr) (cs : List Addr) (F H : Hp) (Q : List AV → AHeap → Prop) (R : List (V × V) → Hp → Prop) : Prop :=
  ∀ ps ds cs' F' H' h', Stp cs F H cs' F' H' → StOk K Cl cs' F' H' h' → Reps K cs' F' (flatP ps) ds → Q ds h' → R ps H'
theorem PD.lift {Q : List AV → AHeap → Prop} {R : List (V × V) → Hp → Prop} (p : PD K Cl cs F H Q R) (x : Stp cs F H cs' F' H') : PD K Cl cs' F' H' Q R := fun ps ds cs2 F2 H2 h2 y S r q => p ps ds cs2 F2 H2 h2 (x.trans y) S r q
def SD (C : Ctx) (Cl : Nat → Addr) (X : Cx) (es : Es) (xs : List (Option Expr)) (ys : List Expr) : Prop :=
  (∀ pos, PPs X pos xs ys (trsOf X xs ys)) ∧ xs.all (·.isSome) = true ∧ xs.length = ys.length ∧
  ∀ ρ h Q σ cs F H R, StOk X.K Cl cs F H h → EnvOk X.K Cl cs F H σ ρ → WpEs C es ρ h Q → PD X.K Cl cs F H Q R → tPairs (trsOf X xs ys) σ H R
theorem d_nil : SD C Cl X .nil [] [] := ⟨fun _ => pps_nil, rfl, rfl, fun ρ h Q σ cs F H R S V w p => by
  simp only [WpEs] at w
  exact p [] [] _ _ _ _ .refl S .nil w⟩
theorem d_cons {k v : E} {es : Es} {x y : Expr} {xs : List (Option Expr)} {ys : List Expr} (hk : SE C Cl X false k x) (hv : SE C Cl X false v y) (hr : SD C Cl X es xs ys) : SD C Cl X (.cons k (.cons v es)) (some x :: xs) (y :: ys) := by
  obtain ⟨a1, a2, a3, a4⟩ := hr
  refine ⟨fun pos => pps_cons pe_we pe_we (a1 pos), by simp [a2], by simp [a3], fun ρ h Q σ cs F H R S V w p => ?_⟩
  simp only [WpEs] at w
  refine hk _ _ _ _ _ _ _ _ S V w fun v1 d1 cs1 F1 H1 h1 x1 S1 r1 q1 => ?_
  refine hv _ _ _ _ _ _ _ _ S1 (V.step x1) q1 fun v2 d2 cs2 F2 H2 h2 x2 S2 r2 q2 => ?_
  refine a4 _ _ _ _ _ _ _ _ S2 ((V.step x1).step x2) q2 fun ps ds cs3 F3 H3 h3 x3 S3 rs q3 => ?_
  exact p ((v1, v2) :: ps) _ _ _ _ _ ((x1.trans x2).trans x3) S3 (.cons ((r1.step x2).step x3).plain (.cons (r2.step x3).plain rs)) q3
theorem RepK.merge {vs : List (Key × V)} {ds : List (Key × AV)} (r : RepK K cs F vs ds) : ∀ {ws : List (Key × V)} {es : List (Key × AV)}, RepK K cs F ws es → RepK K cs F (mergeK ws vs) (mergeA es ds) := by
  induction vs generalizing ds with
  | nil => intro ws es h; cases r; exact h
  | cons v vs ih =>
    intro ws es h
    cases r with
    | cons r1 r2 => exact ih r2 (h.put r1)
theorem pairs_rep : ∀ {ps : List (V × V)} {ds : List AV} {kps : List (Key × AV)}, Reps K cs F (flatP ps) ds → pairsOf ds = some kps → ∃ kvs : List (Key × V), ps = kvs.map (fun kv => (kV kv.1, kv.2)) ∧ RepK K cs F kvs kps
  | [], _, _, .nil, e => by simp [pairsOf] at e; subst e; exact ⟨[], rfl, .nil⟩
  | (a, b) :: ps, _, kps, .cons r1 (.cons r2 rs), e => by
    simp only [pairsOf] at e
    split at e
    · rename_i k ks e1 e2
      cases e
      obtain ⟨kvs, h1, h2⟩ := pairs_rep rs e2
      refine ⟨(k, b) :: kvs, ?_, .cons r2 h2⟩
      rw [h1, keyOf_rep (H := F) e1 (.inl r1)]
      rfl
    · cases e
theorem n_dctL {es : Es} {xs : List (Option Expr)} {ys : List Expr} {pos : Pos} (hsz : xs ≠ [] ∧ xs.length ≤ 15) (hd : SD C Cl X es xs ys) : SN C Cl X (.dctL es) (.Dict xs ys pos) := fun ρ h Q σ cs F H R S V w p => by
  simp only [WpN] at w
  obtain ⟨a1, a2, a3, a4⟩ := hd
  have key : xs ≠ [] ∧ xs.length ≤ 15 → WE X (.Dict xs ys pos) σ H R := by
    intro hx
    refine we_of (pe_disp (a1 pos) a2 a3 hx.1 hx.2) ?_
    intro a na
    have S1 := S.newN (o := .dK []) na
    have x0 : Stp cs F H cs F (upd H a (.dK [])) := Stp.newN na
    refine a4 _ _ _ _ _ _ _ _ S1 (V.step x0) w fun ps ds cs2 F2 H2 h2 x12 S3 rs q2 => ?_
    split at q2
    · rename_i kps e
      obtain ⟨q3, q4, q2⟩ := q2
      have here : upd H a (.dK []) a = some (.dK []) := upd_same
      have hc : a ∉ cs := fun z => by
        obtain ⟨n, hn⟩ := List.mem_iff_getElem?.mp z
        exact (S.cell n a hn).some na
      have hF : F a = none := by
        cases q : F a with
        | none => rfl
        | some u => rw [S.sub _ _ q] at na; cases na
      have e2 : H2 a = some (.dK []) := x12.k a _ here hc
      have hF2 : F2 a = none := by
        cases q : F2 a with
        | none => rfl
        | some u =>
          have := x12.n a hF (by rw [q]; simp)
          rw [here] at this; cases this
      have hn2 : a ∉ cs2 := fun z => by
        have := x12.m a z hc
        rw [here] at this; cases this
      obtain ⟨kvs, g1, g2⟩ := pairs_rep rs e
      refine ⟨e2, kvs, g1, by rw [g2.length]; exact q3, ?_⟩
      exact p a (.dct (mergeA [] kps)) cs2 F2 _ h2 ((x0.trans x12).chgNew na) (S3.chgN hF2 hn2) na hF2 hn2 ⟨_, upd_same, g2.merge .nil⟩ q2
    · exact q2.elim
  exact key hsz
theorem n_dct0 {pos : Pos} : SN C Cl X .dct0 (.Dict [] [] pos) := fun ρ h Q σ cs F H R S V w p => by
  simp only [WpN] at w
  exact we_of pe_dnewK fun a ha => p.made S ha (show COk X.K Cl cs F _ a (.dct []) from ⟨_, upd_same, .nil⟩) w
theorem n_dictOf {a : E} {id : Str} {p1 pos : Pos} {y : Expr} (O : XOk C T Cl X) (h0 : id = "dict") (h1 : glB X.env.scope id = true) (hy : notStar y = true) (ha : SE C Cl X false a y) : SN C Cl X (.dictOf a) (.Call (.Name id p1) [y] [] pos) := fun ρ h Q σ cs F H R S V w p => by
  simp only [WpN] at w
  subst h0
  refine we_of (pe_callTy call_dictD (glB_ok h1) (O.blt _ (by decide +kernel)) (by decide +kernel) (pa_cons pe_we pa_nil (star_cons hy _ _)) (by decide +kernel) (by decide +kernel) (star_cons hy _ _)) ?_
  refine ha _ _ _ _ _ _ _ _ S V w fun v1 d1 cs1 F1 H1 h1 x1 S1 r1 q1 => ?_
  split at q1
  · rename_i xs hv
    obtain ⟨a, vs, rfl, hq, r⟩ := r1.viewD S1 hv
    exact ⟨a, vs, rfl, hq, fun a ha => (p.lift x1).made S1 ha (show COk X.K Cl cs1 F1 _ a (.dct xs) from ⟨_, upd_same, r⟩) q1⟩
  · exact q1.elim
theorem reps_ints {K : PySem.W.Frag} {cs : List Addr} {F : Hp} : ∀ ns : List Int, Reps K cs F (ns.map V.int) (ns.map AV.int)
  | [] => .nil
  | n :: ns => .cons (.int n) (reps_ints ns)
theorem n_sorted {a : E} {id : Str} {p1 pos : Pos} {y : Expr} (O : XOk C T Cl X) (h0 : id = "sorted") (h1 : glB X.env.scope id = true) (hy : notStar y = true) (ha : SE C Cl X false a y) : SN C Cl X (.sorted a) (.Call (.Name id p1) [y] [] pos) := fun ρ h Q σ cs F H R S V w p => by
  simp only [WpN] at w
  subst h0
  refine we_of (pe_callB cr_sortedI (glB_ok h1) (O.blt _ (by decide +kernel)) (by decide +kernel) (pa_cons pe_we pa_nil (star_cons hy _ _)) (by decide +kernel) (by decide +kernel) (star_cons hy _ _)) ?_
  refine ha _ _ _ _ _ _ _ _ S V w fun v1 d1 cs1 F1 H1 h1 x1 S1 r1 q1 => ?_
  split at q1
  · rename_i ns hv
    obtain ⟨xs, hv1, hv2⟩ := Option.bind_eq_some_iff.mp hv
    obtain ⟨a, vs, rfl, hq, r⟩ := r1.view S1 hv1
    rw [r.ints hv2] at hq
    exact ⟨a, ns, rfl, hq, fun ns' p1 g1 g2 g3 => (p.lift x1).made S1 g3 (show COk X.K Cl cs1 F1 _ p1 (.lst (ns'.map .int)) from ⟨_, upd_same, reps_ints ns'⟩) (q1 ns' g1 g2)⟩
  · exact q1.elim
theorem n_rngL {a c : E} {id id2 : Str} {p1 p2 pos pos2 : Pos} {y z : Expr} (O : XOk C T Cl X) (h0 : id = "list") (h1 : glB X.env.scope id = true) (h2 : id2 = "range") (h3 : glB X.env.scope id2 = true) (hy : notStar y = true) (hz : notStar z = true) (ha : SE C Cl X false a y) (hc : SE C Cl X false c z) :
    SN C Cl X (.rngL a c) (.Call (.Name id p1) [.Call (.Name id2 p2) [y, z] [] pos2] [] pos) := fun ρ h Q σ cs F H R S V w p => by
  simp only [WpN] at w
  subst h0 h2
  refine we_of (pe_listRgW O.calm (glB_ok h1) (O.blt _ (by decide +kernel)) (prg_2 (glB_ok h3) (O.blt _ (by decide +kernel)) pe_we pe_we (star_cons hy _ _) (star_cons hz _ _) (star_all (es := [z]) (by rw [List.all_cons, hz]; rfl) _ _)) rfl) ?_
  refine ha _ _ _ _ _ _ _ _ S V w fun v1 d1 cs1 F1 H1 h1 x1 S1 r1 q1 => ?_
  refine hc _ _ _ _ _ _ _ _ S1 (V.step x1) q1 fun v2 d2 cs2 F2 H2 h2 x2 S2 r2 q2 => ?_
  split at q2
  · rename_i i n
    obtain ⟨b5, q2⟩ := q2
    cases r1.int
    cases r2.int
    refine ⟨i, n, rfl, rfl, b5, fun q hq => (p.lift (x1.trans x2)).made S2 hq (show COk X.K Cl cs2 F2 _ q (.lst ((List.range (n - i).toNat).map fun (k : Nat) => .int (i + (k : Int)))) from ⟨_, upd_same, ?_⟩) q2⟩
    unfold rgV
    have := reps_ints (K := X.K) (cs := cs2) (F := F2) ((List.range (n - i).toNat).map fun (k : Nat) => i + (k : Int))
    rw [List.map_map, List.map_map] at this
    exact this
  · exact q2.elim
theorem n_rev {a : E} {l : Expr} {k : Nat} {p1 p2 p3 pos : Pos} (ha : SE C Cl X true a l) : SN C Cl X (.rev a) (.Subscript l (.Slice none none (some (.UnaryOp .USub (.Constant (.int 1) k p1) p2)) p3) pos) := fun ρ h Q σ cs F H R S V w p => by
  simp only [WpN] at w
  refine we_of (pe_revL pe_we) (ha _ _ _ _ _ _ _ _ S V w fun v1 d1 cs1 F1 H1 h1 x1 S1 r1 q1 => ?_)
  split at q1
  · rename_i xs hv
    obtain ⟨a, vs, rfl, hq, r⟩ := r1.view S1 hv
    exact ⟨a, vs, rfl, hq, fun a ha => (p.lift x1).made S1 ha (show COk X.K Cl cs1 F1 _ a (.lst xs.reverse) from ⟨_, upd_same, r.rev⟩) q1⟩
  · exact q1.elim

/-! ### what is walked -/
/-- from where the walk began: st, also through what the frame owns -/
def Rl (st : Bool) (cs : List Addr) (F H : Hp) (cs' : List Addr) (F' H' : Hp) : Prop := match st with
  | true => Stp cs F H cs' F' H'
  | false => Ex F F' ∧ ∃ r, cs' = cs ++ r
theorem Rl.of {st : Bool} (x : Stp cs F H cs' F' H') : Rl st cs F H cs' F' H' := by
  cases st with
  | true => exact x
  | false => exact ⟨x.f, x.c⟩
def IOk (K : PySem.W.Frag) (Cl : Nat → Addr) (st : Bool) (cs : List Addr) (F H : Hp) (Q : List AV → (AHeap → Prop) → AHeap → Prop) (R : L2.It → Hp → Prop) : Prop :=
  ∀ J items chk G Y cs' F' H' h', Stp cs F H cs' F' H' → StOk K Cl cs' F' H' h' → L2.Walk J items.length G Y →
    (∀ cs2 F2 H2 h2, Rl st cs' F' H' cs2 F2 H2 → StOk K Cl cs2 F2 H2 h2 → chk h2 → G H2) →
    (∀ i H2 v H3 cs2 F2 h2 d, StOk K Cl cs2 F2 H2 h2 → Ex F' F2 → (∃ r, cs2 = cs' ++ r) → items[i]? = some d → chk h2 → Y i H2 v H3 → ∃ F3, Stp cs2 F2 H2 cs2 F3 H3 ∧ StOk K Cl cs2 F3 H3 h2 ∧ Rep K cs2 F3 v d) →
    Q items chk h' → R J H'
def WI (X : Cx) (tg iter : Expr) : TI := fun σ H R => ∀ pins s, Inv X pins σ H s → wpAny (model X.prog X.w) X.A (eval iter X.env) (fun v s1 => wpAny (model X.prog X.w) X.A (pyIter v) (PIE X pins σ tg R) X.xe s1) X.xe s
theorem pi_we {tg iter : Expr} : PI X tg iter (WI X tg iter) := ⟨fun pins s σ H R I h => h pins s I⟩
theorem wi_of {tg iter : Expr} {t : TI} (p : PI X tg iter t) {σ : L2.St} {H : Hp} {R : L2.It → Hp → Prop} (h : t σ H R) : WI X tg iter σ H R := fun pins s I => p.run pins s σ H R I h
def SI (C : Ctx) (Cl : Nat → Addr) (X : Cx) (st : Bool) (tg : Expr) (e : It) (x : Expr) : Prop := ∀ ρ h Q σ cs F H (R : L2.It → Hp → Prop), StOk X.K Cl cs F H h → EnvOk X.K Cl cs F H σ ρ → WpI C e ρ h Q → IOk X.K Cl st cs F H Q R → WI X tg x σ H R
theorem i_rng1 {st : Bool} {tg : Expr} {a : E} {id : Str} {p1 pos : Pos} {y : Expr} (O : XOk C T Cl X) (h0 : id = "range") (h1 : glB X.env.scope id = true) (hy : notStar y = true) (ha : SE C Cl X false a y) : SI C Cl X st tg (.rng1 a) (.Call (.Name id p1) [y] [] pos) := fun ρ h Q σ cs F H R S V w p => by
  simp only [WpI] at w
  subst h0
  refine wi_of (pi_range1 (glB_ok h1) (O.blt _ (by decide +kernel)) (pa_cons pe_we pa_nil (star_cons hy _ _)) (star_cons hy _ _)) ?_
  refine ha _ _ _ _ _ _ _ _ S V w fun v1 d1 cs1 F1 H1 h1 x1 S1 r1 q1 => ?_
  split at q1
  · rename_i n
    cases r1.int
    refine ⟨n, rfl, q1.1.1, q1.1.2, p _ _ _ (fun _ => True) (YFn fun i => .int (0 + i)) _ _ _ _ x1 S1 (by rw [List.length_map, List.length_range]; exact walk_range) (fun _ _ _ _ _ _ _ => trivial) ?_ q1.2⟩
    intro i H2 v H3 cs2 F2 h2 d S e c hd _ ⟨y1, y2⟩
    subst y1 y2
    rw [List.getElem?_map] at hd
    obtain ⟨j, hj, rfl⟩ := Option.map_eq_some_iff.mp hd
    have hj' := (List.getElem?_eq_some_iff.mp hj).2
    simp at hj'
    subst hj'
    refine ⟨F2, .refl, S, ?_⟩
    show Rep X.K cs2 F2 (.int (0 + (i : Int))) (.int (i : Int))
    rw [Int.zero_add]
    exact .int _
  · exact q1.elim
theorem i_rng2 {st : Bool} {tg : Expr} {a c : E} {id : Str} {p1 pos : Pos} {y z : Expr} (O : XOk C T Cl X) (h0 : id = "range") (h1 : glB X.env.scope id = true) (hy : notStar y = true) (hz : notStar z = true) (ha : SE C Cl X false a y) (hc : SE C Cl X false c z) :
    SI C Cl X st tg (.rng2 a c) (.Call (.Name id p1) [y, z] [] pos) := fun ρ h Q σ cs F H R S V w p => by
  simp only [WpI] at w
  subst h0
  refine wi_of (pi_range2W (glB_ok h1) (O.blt _ (by decide +kernel)) (pa_cons pe_we (pa_cons pe_we pa_nil (star_cons hz _ _)) (star_cons hy _ _)) (by rw [star_cons hy, star_cons hz]; rfl) (star_cons hz _ _)) ?_
  refine ha _ _ _ _ _ _ _ _ S V w fun v1 d1 cs1 F1 H1 h1 x1 S1 r1 q1 => ?_
  refine hc _ _ _ _ _ _ _ _ S1 (V.step x1) q1 fun v2 d2 cs2 F2 H2 h2 x2 S2 r2 q2 => ?_
  split at q2
  · rename_i i0 n
    cases r1.int
    cases r2.int
    refine ⟨i0, n, rfl, p _ _ _ (fun _ => True) (YFn fun i => .int (i0 + i)) _ _ _ _ (x1.trans x2) S2 (by simpa using walk_range) (fun _ _ _ _ _ _ _ => trivial) ?_ q2.2⟩
    intro i H2 v H3 cs2 F2 h2 d S e c hd _ ⟨y1, y2⟩
    subst y1 y2
    rw [List.getElem?_map] at hd
    obtain ⟨j, hj, rfl⟩ := Option.map_eq_some_iff.mp hd
    have hj' := (List.getElem?_eq_some_iff.mp hj).2
    simp at hj'
    subst hj'
    exact ⟨F2, .refl, S, .int _⟩
  · exact q2.elim
theorem i_chars {st : Bool} {tg : Expr} {a : E} {x : Expr} (ha : SE C Cl X false a x) : SI C Cl X st tg (.chars a) x := fun ρ h Q σ cs F H R S V w p => by
  simp only [WpI] at w
  refine wi_of (pi_str pe_we) (ha _ _ _ _ _ _ _ _ S V w fun v1 d1 cs1 F1 H1 h1 x1 S1 r1 q1 => ?_)
  split at q1
  · rename_i z
    cases r1.str
    refine ⟨z, rfl, p _ _ _ (fun _ => True) _ _ _ _ _ x1 S1 (by simpa using walk_str) (fun _ _ _ _ _ _ _ => trivial) ?_ q1⟩
    intro i H2 v H3 cs2 F2 h2 d S e c hd _ ⟨y1, cc, y2, y3⟩
    subst y1 y3
    rw [List.getElem?_map] at hd
    obtain ⟨j, hj, rfl⟩ := Option.map_eq_some_iff.mp hd
    have : z.cps[i]? = some j := by simpa using hj
    rw [y2] at this
    cases this
    exact ⟨F2, .refl, S, .str _⟩
  · exact q1.elim
theorem keys_reps {K : PySem.W.Frag} {cs : List Addr} {F : Hp} {us : List (Key × V)} {kvs : List (Key × AV)} (r : RepK K cs F us kvs) {i : Nat} {k : Key} {v : V} (e : us[i]? = some (k, v)) : ∃ d, kvs[i]? = some (k, d) := by
  induction us generalizing kvs i with
  | nil => simp at e
  | cons u us ih =>
    cases r with
    | cons r rs =>
      cases i with
      | zero => simp at e ⊢; exact e.1
      | succ i => simp at e ⊢; exact ih rs e
theorem i_keys {st : Bool} {tg : Expr} {a : E} {x : Expr} (ha : SE C Cl X false a x) : SI C Cl X st tg (.keys a) x := fun ρ h Q σ cs F H R S V w p => by
  simp only [WpI] at w
  refine wi_of (pi_keys pe_we) (ha _ _ _ _ _ _ _ _ S V w fun v1 d1 cs1 F1 H1 h1 x1 S1 r1 q1 => ?_)
  split at q1
  · rename_i kvs
    have r1' := r1.plain
    cases r1' with
    | dct g1 g2 =>
      rename_i a o us
      refine ⟨a, o, rfl, .inl ⟨us, S1.sub _ _ g1, ?_⟩⟩
      refine p _ _ _ (fun H => H a = some (.frz o (.dK us))) _ _ _ _ _ x1 S1 (by rw [List.length_map, ← g2.length]; exact walk_keys) (fun cs2 F2 H2 h2 rl S2 _ => ?_) ?_ q1
      · have mo : Ex F1 F2 := by
          cases st with
          | true => exact Stp.f rl
          | false => exact rl.1
        exact S2.sub _ _ (mo _ _ g1)
      · intro i H2 v H3 cs2 F2 h2 d S e c hd _ ⟨y1, k, u, y2, y3⟩
        subst y1 y3
        obtain ⟨d0, hk⟩ := keys_reps g2 y2
        rw [List.getElem?_map, hk] at hd
        cases hd
        refine ⟨F2, .refl, S, ?_⟩
        cases k with
        | inl i => exact .int i
        | inr z => exact .str z
  · exact q1.elim
/-- a list or a tuple that zip goes through: it stays as it is -/
theorem zs_rep {K : PySem.W.Frag} {cs : List Addr} {F : Hp} {v : V} {d : AV} {xs : List AV} (e : zs d = some xs) (r : Rep K cs F v d) : ∃ a k vs, v = .ref a ∧ (∀ F' H' : Hp, Ex F F' → Ex F' H' → SqB K k H' a vs) ∧ Reps K cs F vs xs := by
  cases d <;> simp only [zs] at e <;> try cases e
  · cases r with
    | tup g1 g2 => exact ⟨_, true, _, rfl, fun F' H' m s => ex_t s (ex_t m g1), g2⟩
  · cases r with
    | lst g1 g2 => exact ⟨_, false, _, rfl, fun F' H' m s => sq_of (s _ _ (m _ _ g1)), g2⟩
theorem i_zip {st : Bool} {tg : Expr} {a c : E} {id : Str} {p1 pos : Pos} {y z : Expr} (O : XOk C T Cl X) (h0 : id = "zip") (h1 : glB X.env.scope id = true) (hy : notStar y = true) (hz : notStar z = true) (ht : ∃ es k tp, tg = .Tuple es k tp) (ha : SE C Cl X false a y) (hc : SE C Cl X false c z) :
    SI C Cl X st tg (.zip a c) (.Call (.Name id p1) [y, z] [] pos) := fun ρ h Q σ cs F H R S V w p => by
  simp only [WpI] at w
  subst h0
  obtain ⟨es, kk, tp, rfl⟩ := ht
  refine wi_of (pi_zipB (glB_ok h1) (O.blt _ (by decide +kernel)) (pa_cons pe_we (pa_cons pe_we pa_nil (star_cons hz _ _)) (star_cons hy _ _)) (star_cons hy _ _) (star_all (es := [z]) (by rw [List.all_cons, hz]; rfl) _ _)) ?_
  refine ha _ _ _ _ _ _ _ _ S V w fun v1 d1 cs1 F1 H1 h1 x1 S1 r1 q1 => ?_
  refine hc _ _ _ _ _ _ _ _ S1 (V.step x1) q1 fun v2 d2 cs2 F2 H2 h2 x2 S2 r2 q2 => ?_
  split at q2
  · rename_i xs ys ex ey
    obtain ⟨a1, k1, vs, e1, st1, g2⟩ := zs_rep ex (r1.step x2).plain
    obtain ⟨a2, k2, ws, e2, st2, g3⟩ := zs_rep ey r2.plain
    subst e1 e2
    refine ⟨a1, a2, k1, k2, vs, ws, rfl, st1 _ _ (fun _ _ z => z) S2.sub, st2 _ _ (fun _ _ z => z) S2.sub, ?_⟩
    refine p _ _ _ (fun H => SqB X.K k1 H a1 vs ∧ SqB X.K k2 H a2 ws) _ _ _ _ _ (x1.trans x2) S2 (walk_zipB (by rw [List.length_map, List.length_zip, g2.length, g3.length])) (fun cs3 F3 H3 h3 rl S3 _ => ?_) ?_ q2
    · have mo : Ex F2 F3 := by
        cases st with
        | true => exact Stp.f rl
        | false => exact rl.1
      exact ⟨st1 _ _ mo S3.sub, st2 _ _ mo S3.sub⟩
    · intro i H3 v H4 cs3 F3 h3 d S e c hd _ ⟨T, x, y, y1, y2, y3, y4, y5⟩
      subst y1 y3
      obtain ⟨da, ha, ra⟩ := g2.get' y4
      obtain ⟨db, hb, rb⟩ := g3.get' y5
      have hd' : d = .tup [da, db] := by
        rw [List.getElem?_map, List.getElem?_zip_eq_some (z := (da, db)) |>.mpr ⟨ha, hb⟩] at hd
        cases hd; rfl
      subst hd'
      refine ⟨upd F3 T (.tup [x, y]), Stp.newF S y2, S.newF y2, .tup (.inl (.inl upd_same)) ?_⟩
      have hF : F3 T = none := by
        cases q : F3 T with
        | none => rfl
        | some u => rw [S.sub _ _ q] at y2; cases y2
      exact .cons ((ra.mono e c).mono (Ex.new hF) ⟨[], by simp⟩) (.cons ((rb.mono e c).mono (Ex.new hF) ⟨[], by simp⟩) .nil)
  · exact q2.elim
theorem WpI_seq_vw {i : Nat} {ρ : Env} {h : AHeap} {Q} (w : WpI C (.seq (.vw i)) ρ h Q) : False := by
  simp only [WpI, WpE] at w
/-- a list or a tuple: which of the two shows where it is walked -/
theorem pi_seq {tg iter : Expr} {te : TE} (he : PE X iter te) : PI X tg iter (fun σ H R => te σ H fun x H1 => ∃ a, x = .ref a ∧ (((∃ xs, SqL X.K H1 a xs) ∧ R (Itl X.K a) H1) ∨ ((∃ xs, SqT X.K H1 a xs) ∧ R (Itt X.K a) H1))) := by
  refine ⟨fun pins s σ H R I h => ?_⟩
  refine thn (he.run pins s σ H _ I h) fun v s1 ⟨x, H1, I1, r1, a, e, q⟩ => ?_
  subst e
  rcases q with ⟨⟨xs, hq⟩, q⟩ | ⟨⟨xs, hq⟩, q⟩
  · obtain ⟨its, rv, pl, hz⟩ := I1.list hq
    cases r1
    have fresh : H1 s1.heap.objs.size = none := I1.hok.fresh (Nat.le_refl _)
    refine wpAny_pyIter_list pl.isList ⟨s1.heap.objs.size, [s1.heap.objs.size], _, Itl X.K a, H1, rfl, ?_, turn_list a _, ?_, ?_, q⟩
    · exact I1.kept (t' := s1.toks) fun _ _ z => Heap.get?_push_of_some _ z
    · exact ⟨_, Heap.get?_push_size _ rfl, rfl, rfl⟩
    · intro c hc
      obtain rfl : c = s1.heap.objs.size := by simpa using hc
      exact I1.fpOk (Nat.le_refl _) fresh
  · obtain ⟨its, rv, pl, hz⟩ := I1.tuple hq
    cases r1
    have fresh : H1 s1.heap.objs.size = none := I1.hok.fresh (Nat.le_refl _)
    refine wpAny_pyIter_tuple (show s1.heap.IsTuple a its.toArray from pl) ⟨s1.heap.objs.size, [s1.heap.objs.size], _, Itt X.K a, H1, rfl, ?_, turn_tuple a _, ?_, ?_, q⟩
    · exact I1.kept (t' := s1.toks) fun _ _ z => Heap.get?_push_of_some _ z
    · exact ⟨_, Heap.get?_push_size _ rfl, rfl, rfl⟩
    · intro c hc
      obtain rfl : c = s1.heap.objs.size := by simpa using hc
      exact I1.fpOk (Nat.le_refl _) fresh
theorem i_seq {st : Bool} {tg : Expr} {a : E} {x : Expr} (ha : SE C Cl X false a x) : SI C Cl X st tg (.seq a) x := fun ρ h Q σ cs F H R S V w p => by
  simp only [WpI] at w
  refine wi_of (pi_seq pe_we) (ha _ _ _ _ _ _ _ _ S V w fun v1 d1 cs1 F1 H1 h1 x1 S1 r1 q1 => ?_)
  split at q1
  · rename_i items hv
    have r1' := r1.plain
    rcases viewT_eq hv with e | hv'
    · subst e
      cases r1' with
      | tup g1 g2 =>
        rename_i a vs
        refine ⟨a, rfl, .inr ⟨⟨vs, ex_t S1.sub g1⟩, p _ items _ (fun H => SqT X.K H a vs) (YAt vs) _ _ _ _ x1 S1 (by rw [← g2.length]; exact walk_tup) (fun cs2 F2 H2 h2 rl S2 _ => ?_) ?_ q1⟩⟩
        · have mo : Ex F1 F2 := by
            cases st with
            | true => exact Stp.f rl
            | false => exact rl.1
          exact ex_t S2.sub (ex_t mo g1)
        · intro i H2 v H3 cs2 F2 h2 d S e c hd _ ⟨y1, y2⟩
          subst y1
          obtain ⟨v', e1, r2⟩ := g2.get hd
          rw [y2] at e1
          cases e1
          exact ⟨F2, .refl, S, r2.mono e c⟩
    · obtain ⟨a, vs, e, hq, r⟩ := r1.view S1 hv'
      have stay : ∀ cs2 F2 H2 h2, Ex F1 F2 → (∃ r, cs2 = cs1 ++ r) → StOk X.K Cl cs2 F2 H2 h2 → viewT h2 d1 = some items → ∃ vs2, SqL X.K H2 a vs2 ∧ Reps X.K cs2 F2 vs2 items := by
        intro cs2 F2 H2 h2 m1 m2 S2 hv2
        have r2 : RepB X.K cs2 F2 H2 false v1 d1 := .inl (r1'.mono m1 m2)
        have hv3 : view h2 d1 = some items := by
          rcases viewT_eq hv2 with z | z
          · subst z
            simp [VL.view] at hv'
          · exact z
        obtain ⟨a2, vs2, e2, hq2, rr⟩ := r2.view S2 hv3
        rw [e] at e2
        cases e2
        exact ⟨vs2, hq2, rr⟩
      refine ⟨a, e, .inl ⟨⟨vs, hq⟩, p (Itl X.K a) items _ (fun H => ∃ vs2, SqL X.K H a vs2 ∧ vs2.length = items.length) (fun i H v H' => H' = H ∧ ∀ vs2, SqL X.K H a vs2 → vs2[i]? = some v) _ _ _ _ x1 S1 ?_ (fun cs2 F2 H2 h2 rl S2 hc => ?_) ?_ q1⟩⟩
      · refine ⟨fun i H hi ⟨vs2, g1, g2⟩ => ⟨vs2, vs2[i], g1, by simp [hi, g2]⟩, fun H ⟨vs2, g1, g2⟩ => ⟨vs2, g1, Nat.le_of_eq g2⟩, fun i H v H' hi _ y => y⟩
      · have mo : Ex F1 F2 ∧ ∃ r, cs2 = cs1 ++ r := by
          cases st with
          | true => exact ⟨Stp.f rl, Stp.c rl⟩
          | false => exact rl
        obtain ⟨vs2, g1, g2⟩ := stay cs2 F2 H2 h2 mo.1 mo.2 S2 hc
        exact ⟨vs2, g1, g2.length⟩
      · intro i H2 v H3 cs2 F2 h2 d S2 e c hd hc ⟨y1, y2⟩
        subst y1
        obtain ⟨vs2, g1, g2⟩ := stay cs2 F2 H3 h2 e c S2 hc
        obtain ⟨v', e1, r2⟩ := g2.get hd
        rw [y2 vs2 g1] at e1
        cases e1
        exact ⟨F2, .refl, S2, r2⟩
  · exact q1.elim
theorem i_own {tg : Expr} {i : Nat} {x : Expr} (hag : agVar X.env.scope X.N i x = true) : SI C Cl X true tg (.own i) x := fun ρ h Q σ cs F H R S V w p => by
  unfold agVar at hag
  split at hag
  · rename_i id pos
    simp only [Bool.and_eq_true, decide_eq_true_eq] at hag
    obtain ⟨⟨h1, h2⟩, h3⟩ := hag
    obtain ⟨n1, n2, _⟩ := plainName_ok h3
    simp only [WpI] at w
    split at w
    · rename_i items hd
      obtain ⟨a, e1, e2, e3, vs, e4, r⟩ := V.own i _ hd
      refine wi_of (pi_list (pe_var h1 (visB_ok h2) n1 n2)) ⟨_, e1, a, rfl, ⟨vs, sq_of e4⟩, p _ items _ (fun H => SqL X.K H a vs) (YAt vs) _ _ _ _ .refl S (by rw [← r.length]; exact walk_list) (fun cs2 F2 H2 h2 rl S2 _ => ?_) ?_ w⟩
      · exact sq_of (Stp.k rl _ _ e4 e2)
      · intro j H2 v H3 cs2 F2 h2 d S2 e c hd _ ⟨y1, y2⟩
        subst y1
        obtain ⟨v', g1, r2⟩ := r.get hd
        rw [y2] at g1
        cases g1
        exact ⟨F2, .refl, S2, r2.mono e c⟩
    · exact w.elim
  · cases hag

/-! ### targets -/
def gNames : List Nat → TGs
  | [] => gNil
  | i :: is => gCons (gName i) (gNames is)
def gOf (K : PySem.W.Frag) : Tg → TG
  | .nm i => gName i
  | .tup is => fun v σ H Q => gTup K is.length (gNames is) v σ H Q ∨ gUnl K is.length (gNames is) v σ H Q
/-- a name that may be stored to in this context -/
def Sto (sc0 : Scope) (X : Cx) : Prop := ∀ id, tgN sc0 X.env.scope id = true → Loc X.env.scope id ∧ (X.fn id = true ∨ X.env.scope.names.lookup id = some .local)
theorem pgs_names {sc0 : Scope} (nd : X.N.Nodup) (st : Sto sc0 X) : ∀ {is : List Nat} {es : List Expr}, agNames sc0 X.env.scope X.N is es = true → PGs X es (gNames is) ∧ (assignEach es X.env).length = is.length ∧ (assignEach es X.env).findIdx? (·.1) = none
  | [], [], _ => ⟨pgs_nil, rfl, rfl⟩
  | [], _ :: _, h => by simp [agNames] at h
  | i :: is, [], h => by simp [agNames] at h
  | i :: is, e :: es, h => by
    cases e <;> simp [agNames] at h
    rename_i id pos
    obtain ⟨⟨h1, h2⟩, h3⟩ := h
    obtain ⟨g1, g2, g3⟩ := pgs_names nd st h3
    obtain ⟨s1, s2⟩ := st id h2
    refine ⟨pgs_cons (pg_name nd h1 s1 s2) g1 rfl, ?_, ?_⟩
    · show (assignEach es X.env).length + 1 = is.length + 1
      rw [g2]
    · show ((false, assign (.Name id pos) X.env) :: assignEach es X.env).findIdx? (·.1) = none
      rw [List.findIdx?_cons, g3] <;> rfl
theorem pg_ok {sc0 : Scope} (nd : X.N.Nodup) (calm : X.calm = true) (st : Sto sc0 X) {tg : Tg} {x : Expr} (h : agTg sc0 X.env.scope X.N tg x = true) : PG X x (gOf X.K tg) := by
  cases tg with
  | nm i =>
    cases x <;> simp [agTg] at h
    obtain ⟨s1, s2⟩ := st _ h.2
    exact pg_name nd h.1 s1 s2
  | tup is =>
    cases x <;> simp [agTg] at h
    obtain ⟨g1, g2, g3⟩ := pgs_names nd st h
    exact ⟨fun pins s σ H v u Q I r hw => hw.elim (fun z => (pg_tup calm g1 g2 g3).run pins s σ H v u Q I r z) fun z => (pg_unl calm g1 g2 g3).run pins s σ H v u Q I r z⟩
theorem sets_len {ρ' : Env} : ∀ {is : List Nat} {xs : List AV} {ρ : Env}, setsS ρ is xs = some ρ' → xs.length = is.length := by
  intro is
  induction is with
  | nil => intro xs ρ h; cases xs <;> simp [setsS] at h ⊢
  | cons i is ih => intro xs ρ h; cases xs <;> simp [setsS] at h ⊢; exact ih h
theorem tgK_tup {is : List Nat} {x : AV} {ρ : Env} {Q : Env → Prop} (w : tgK (.tup is) x ρ Q) : ∃ xs ρ', (x = .tup xs ∨ x = .lst xs) ∧ setsS ρ is xs = some ρ' ∧ Q ρ' := by
  unfold tgK at w
  simp only at w
  split at w
  · rename_i xs
    split at w
    · rename_i ρ' hs
      exact ⟨xs, ρ', .inl rfl, hs, w⟩
    · exact w.elim
  · rename_i xs
    split at w
    · rename_i ρ' hs
      exact ⟨xs, ρ', .inr rfl, hs, w⟩
    · exact w.elim
  · exact w.elim
theorem gTL_of {K : PySem.W.Frag} {cs : List Addr} {F H : Hp} (sub : Ex F H) {is : List Nat} {v : V} {d : AV} {xs : List AV} {σ : L2.St} {R : L2.St → Hp → Prop} {ρ ρ' : Env} (r : Rep K cs F v d) (e : d = .tup xs ∨ d = .lst xs) (hs : setsS ρ is xs = some ρ')
    (k : ∀ vs, Reps K cs F vs xs → gNames is vs σ H R) : gOf K (.tup is) v σ H R := by
  rcases e with rfl | rfl
  · cases r with
    | tup g1 g2 =>
      rename_i a vs
      exact .inl ⟨a, vs, rfl, ex_t sub g1, by rw [g2.length, sets_len hs], k vs g2⟩
  · cases r with
    | lst g1 g2 =>
      rename_i a vs
      exact .inr ⟨a, vs, rfl, sq_of (sub _ _ g1), by rw [g2.length, sets_len hs], k vs g2⟩
theorem sets_ok {ρ' : Env} : ∀ {is : List Nat} {xs : List AV} {vs : List V} {σ : L2.St} {ρ : Env} {R : L2.St → Hp → Prop}, EnvOk K Cl cs F H σ ρ → Reps K cs F vs xs → setsS ρ is xs = some ρ' →
    (∀ σ', EnvOk K Cl cs F H σ' ρ' → (∀ own : List Nat, (∀ i ∈ is, i ∈ own) → wipe σ' own = wipe σ own) → R σ' H) → gNames is vs σ H R
  | [], [], _, σ, ρ, R, V, .nil, e, k => by
    simp [setsS] at e
    subst e
    exact ⟨rfl, k σ V fun _ _ => rfl⟩
  | [], _ :: _, _, _, _, _, _, _, e, _ => by simp [setsS] at e
  | _ :: _, [], _, _, _, _, _, _, e, _ => by simp [setsS] at e
  | i :: is, x :: xs, _, σ, ρ, R, V, .cons r rs, e, k => by
    rename_i v vs
    simp only [setsS] at e
    refine ⟨v, vs, rfl, sets_ok (V.setV r) rs e fun σ' V' hw => k σ' V' fun own ho => ?_⟩
    rw [hw own fun j hj => ho j (List.mem_cons_of_mem _ hj)]
    exact wipe_set (ho i List.mem_cons_self)
where
  wipe_set {σ : L2.St} {i : Nat} {v : Option V} : ∀ {own : List Nat}, i ∈ own → wipe (σ.set i v) own = wipe σ own
    | j :: own, h => by
      unfold wipe
      by_cases hj : i ∈ own
      · rw [wipe_set hj]
      · have e : i = j := by
          rcases List.mem_cons.mp h with e | e
          · exact e
          · exact absurd e hj
        subst e
        have : ∀ (own : List Nat) (σ : L2.St), i ∉ own → (wipe (σ.set i v) own) = (wipe σ own).set i v := by
          intro own
          induction own with
          | nil => intro σ _; rfl
          | cons k own ih =>
            intro σ hk
            unfold wipe
            rw [ih σ fun z => hk (List.mem_cons_of_mem _ z)]
            exact List.set_comm _ _ fun z => hk (z ▸ List.mem_cons_self)
        rw [this own σ hj, List.set_set]
theorem tg_ok {σ : L2.St} {ρ : Env} {tg : Tg} {d : AV} {v : V} {Q : Env → Prop} {R : L2.St → Hp → Prop} (S : StOk K Cl cs F H h) (V : EnvOk K Cl cs F H σ ρ) (r : Rep K cs F v d) (w : tgK tg d ρ Q)
    (k : ∀ σ' ρ', EnvOk K Cl cs F H σ' ρ' → (∀ own : List Nat, (∀ i ∈ tgIds tg, i ∈ own) → wipe σ' own = wipe σ own) → Q ρ' → R σ' H) : gOf K tg v σ H R := by
  cases tg with
  | nm i =>
    exact k _ _ (V.setV r) (fun own ho => sets_ok.wipe_set (ho i (by simp [tgIds]))) w
  | tup is =>
    obtain ⟨xs, ρ', e, hs, w⟩ := tgK_tup w
    exact gTL_of S.sub r e hs fun vs g2 => sets_ok V g2 hs fun σ' V' hw => k σ' ρ' V' hw w

/-! ### comprehensions -/
def WEb (X : Cx) (scope : Scope) (e : Expr) : TE := fun σ H Q => ∀ (s : Shared) (H0 : Hp) (D : Addr) (cl : List (Str × Addr)) (fp : List Addr), WE (X.blk s H0 scope (compEnvC scope cl D X.env) fp) e σ H Q
def WTb (X : Cx) (scope : Scope) (e : Expr) : TT := fun σ H Q => ∀ (s : Shared) (H0 : Hp) (D : Addr) (cl : List (Str × Addr)) (fp : List Addr), WT (X.blk s H0 scope (compEnvC scope cl D X.env) fp) e σ H Q
/-- a test of a comprehension: none, or one -/
def WCb (X : Cx) (scope : Scope) : List Expr → TT
  | [] => tYes
  | c :: _ => WTb X scope c
theorem sto_blk {X : Cx} {scope : Scope} (s : Shared) (H0 : Hp) (D : Addr) (cl : List (Str × Addr)) (fp : List Addr) : Sto scope (X.blk s H0 scope (compEnvC scope cl D X.env) fp) := fun id h => by
  unfold tgN at h
  simp only [Bool.or_eq_true, Bool.and_eq_true, decide_eq_true_eq] at h
  rcases h with ⟨h1, h2⟩ | ⟨h1, h2⟩
  · exact ⟨.inl h2, .inr h2⟩
  · refine ⟨.inr h2, .inl ?_⟩
    show (scope.names.lookup id == some .cell) = true
    rw [h1]; rfl
theorem wipe_in {i : Nat} : ∀ {own : List Nat} (σ : L2.St), i ∈ own → (wipe σ own)[i]? = if i < σ.length then some none else none
  | j :: own, σ, hi => by
    unfold wipe
    by_cases hj : j = i
    · subst hj
      rw [List.getElem?_set]
      simp [wipe_length]
    · rw [List.getElem?_set_ne hj]
      exact wipe_in σ (by simpa [Ne.symm hj] using hi)
theorem wipe_idem {σ : L2.St} {own : List Nat} : wipe (wipe σ own) own = wipe σ own := by
  apply List.ext_getElem?
  intro i
  by_cases hi : i ∈ own
  · rw [wipe_in _ hi, wipe_in _ hi, wipe_length]
  · rw [wipe_out hi]
def compB (C : Ctx) (elt : E) (tg : Tg) (cond : Oe) (own : List Nat) (ρ : Env) : AV → AHeap → (Option AV → AHeap → Prop) → Prop := fun x h2 R => tgK tg x (wipeS ρ own) fun ρ2 => WpC C cond ρ2 h2 fun k h3 =>
  if k = true then WpE C false elt ρ2 h3 fun y h4 => R (some y) h4 else R none h3
/-- what stands between two turns of a comprehension -/
def CInv (K : PySem.W.Frag) (Cl : Nat → Addr) (cs1 : List Addr) (F1 H1 : Hp) (B : AV → AHeap → (Option AV → AHeap → Prop) → Prop) (chk : AHeap → Prop) (items : List AV) (Q : List AV → AHeap → Prop) (D : Addr) (i : Nat) (H' : Hp) : Prop :=
  ∃ cs2 F2 h2 acc vs, Stp cs1 F1 H1 cs2 F2 H' ∧ StOk K Cl cs2 F2 H' h2 ∧ H' D = some (.lst vs) ∧ Reps K cs2 F2 vs acc ∧ D ∉ cs2 ∧ F2 D = none ∧ acc.length ≤ i ∧ compL B chk (items.drop i) acc h2 Q
theorem n_comp {elt : E} {tg : Tg} {it : It} {cond : Oe} {own : List Nat} {y t i : Expr} {ifs : List Expr} {scope : Scope} {pos : Pos} (O : XOk C T Cl X) (hb : BlkOk X.N X.env.scope scope (ownP X.N own)) (ho : ∀ i ∈ tgIds tg, i ∈ own)
    (ht : agTg scope (relS scope X.env.scope) X.N tg t = true) (hi : SI C Cl X true t it i) (hs : notSet i = true) (he : ∀ s H0 D cl fp, SE C Cl (X.blk s H0 scope (compEnvC scope cl D X.env) fp) false elt y)
    (hc : (ifs = [] ∧ cond = .no) ∨ ∃ c e, ifs = [c] ∧ cond = .so e ∧ ∀ s H0 D cl fp, ST C Cl (X.blk s H0 scope (compEnvC scope cl D X.env) fp) e c) : ∀ ρ h Q σ cs F H R, StOk X.K Cl cs F H h → EnvOk X.K Cl cs F H σ ρ → WpN C (.comp elt tg it cond own) ρ h Q → NOk X.K Cl cs F H Q R →
      tLc (WI X t i) (gOf X.K tg) (WCb X scope ifs) (WEb X scope y) own σ H R := fun ρ h Q σ cs F H R S V w p => by
  simp only [WpN] at w
  unfold tLc
  refine hi _ _ _ _ _ _ _ _ S V w fun J items chk G Y cs1 F1 H1 h1 x1 S1 wk hG hY q1 => ?_
  obtain ⟨hlen, q1⟩ := q1
  intro D hD
  have hF1 : F1 D = none := by
    cases w : F1 D with
    | none => rfl
    | some u => rw [S1.sub _ _ w] at hD; cases hD
  have hc1 : D ∉ cs1 := fun z => by
    obtain ⟨n, hn⟩ := List.mem_iff_getElem?.mp z
    exact (S1.cell n D hn).some hD
  refine lc_it wk (CInv X.K Cl cs1 F1 H1 (compB C elt tg cond own ρ) chk items (fun acc h2 => Q (.lst acc) h2) D) ?_ ?_ ?_ ?_
  · exact ⟨cs1, F1, h1, [], [], .newN hD, S1.newN hD, upd_same, .nil, hc1, hF1, Nat.le_refl _, q1⟩
  · rintro j H' hj ⟨cs2, F2, h2, acc, vs, x2, S2, e1, e2, e3, e4, e5, e6⟩
    refine hG cs2 F2 H' h2 x2 S2 ?_
    cases hd : items.drop j with
    | nil => rw [hd] at e6; exact e6.1
    | cons d r => rw [hd] at e6; exact e6.1
  · rintro j v H' H3 hj ⟨cs2, F2, h2, acc, vs, x2, S2, e1, e2, e3, e4, e5, e6⟩ hy
    rw [List.drop_eq_getElem_cons hj] at e6
    obtain ⟨ck, e6⟩ := e6
    obtain ⟨F3, x3, S3, rv⟩ := hY j H' v H3 cs2 F2 h2 _ S2 x2.f x2.c (List.getElem?_eq_getElem hj) ck hy
    have V3 : EnvOk X.K Cl cs2 F3 H3 σ ρ := V.step ((x1.trans x2).trans x3)
    refine tg_ok S3 (V3.wipe own) rv e6 fun σ4 ρ4 V4 hw e7 => ⟨by rw [hw own ho, wipe_idem], ?_⟩
    have d3 : H3 D = some (.lst vs) := x3.k _ _ e1 e3
    have n3 : F3 D = none := by
      cases w : F3 D with
      | none => rfl
      | some o =>
        have z := x3.n D e4 (by rw [w]; simp)
        rw [e1] at z; cases z
    have x13 : Stp cs1 F1 H1 cs2 F3 H3 := x2.trans x3
    -- the test
    have test : ∀ {R2 : Bool → Hp → Prop}, BOk X.K Cl cs2 F3 H3 (fun k h3 => if k = true then WpE C false elt ρ4 h3 fun y h4 => compL (compB C elt tg cond own ρ) chk (items.drop (j + 1)) (acc ++ [y]) h4 (fun acc h2 => Q (.lst acc) h2) else compL (compB C elt tg cond own ρ) chk (items.drop (j + 1)) acc h3 (fun acc h2 => Q (.lst acc) h2)) R2 → WCb X scope ifs σ4 H3 R2 := by
      intro R2 post
      rcases hc with ⟨rfl, rfl⟩ | ⟨c, e, rfl, rfl, hc⟩
      · simp only [WpC] at e7
        exact post _ _ _ _ _ .refl S3 e7
      · simp only [WpC] at e7
        intro s H0 D' cl fp
        exact hc s H0 D' cl fp _ _ _ _ _ _ _ _ S3 V4 e7 post
    refine test fun k cs4 F4 H4 h4 x4 S4 q4 => ?_
    have d4 : H4 D = some (.lst vs) := x4.k _ _ d3 e3
    have n4 : F4 D = none := by
      cases w : F4 D with
      | none => rfl
      | some o =>
        have z := x4.n D n3 (by rw [w]; simp)
        rw [d3] at z; cases z
    have c4 : D ∉ cs4 := fun z => by
      have := x4.m D z e3
      rw [d3] at this; cases this
    cases k with
    | false =>
      rw [if_neg Bool.false_ne_true] at q4 ⊢
      exact ⟨cs4, F4, h4, acc, vs, x13.trans x4, S4, d4, (e2.mono (x3.trans x4).f (x3.trans x4).c), c4, n4, by omega, q4⟩
    | true =>
      rw [if_pos rfl] at q4 ⊢
      intro s H0 D' cl fp
      refine he s H0 D' cl fp _ _ _ _ _ _ _ _ S4 (V4.step x4) q4 fun v5 d5 cs5 F5 H5 h5 x5 S5 r5 q5 => ?_
      have d5' : H5 D = some (.lst vs) := x5.k _ _ d4 c4
      have n5 : F5 D = none := by
        cases w : F5 D with
        | none => rfl
        | some o =>
          have z := x5.n D n4 (by rw [w]; simp)
          rw [d4] at z; cases z
      have c5 : D ∉ cs5 := fun z => by
        have := x5.m D z c4
        rw [d4] at this; cases this
      have x35 := (x3.trans x4).trans x5
      have lv : vs.length = acc.length := e2.length
      refine ⟨vs, d5', by omega, cs5, F5, h5, acc ++ [d5], vs ++ [v5], ((x13.trans x4).trans x5).chgNew hD, S5.chgN n5 c5, upd_same, (e2.mono x35.f x35.c).append (.cons r5.plain .nil), c5, n5, by rw [List.length_append, List.length_singleton]; omega, q5⟩
  · rintro H' ⟨cs2, F2, h2, acc, vs, x2, S2, e1, e2, e3, e4, e5, e6⟩
    rw [List.drop_of_length_le (Nat.le_refl _)] at e6
    exact p D (.lst acc) cs2 F2 H' h2 (x1.trans x2) S2 (x1.fresh hD) e4 e3 ⟨vs, e1, e2⟩ e6.2
end
end VL

set_option maxRecDepth 100000
set_option maxHeartbeats 4000000
/-! VL: every expression that agrees with the text. -/
namespace VL
open PySem L2 Evl PyProof.Rows PySem.Spec

section
variable {C : Ctx} {T : Tab} {Cl : Nat → Addr}
theorem agEs_all {sc : Scope} {N : List Str} : ∀ {es : Es} {xs : List Expr}, agEs T sc N es xs = true → xs.all notStar = true ∧ (xs = [] → es = .nil)
  | .nil, [], _ => ⟨rfl, fun _ => rfl⟩
  | .nil, _ :: _, h => by simp [agEs] at h
  | .cons e es, [], h => by simp [agEs] at h
  | .cons e es, x :: xs, h => by
    simp only [agEs, Bool.and_eq_true] at h
    refine ⟨?_, fun z => by cases z⟩
    rw [List.all_cons, h.1.2, (agEs_all h.2).1]; rfl
theorem agC_so {sc : Scope} {N : List Str} {e : Oe} {c : Expr} (h : agC T sc N e c = true) : ∃ e', e = .so e' := by
  cases e with
  | no => simp [agC] at h
  | so e => exact ⟨e, rfl⟩
/-- what a comprehension of the text must show -/
structure CompOk (C : Ctx) (T : Tab) (Cl : Nat → Addr) (X : Cx) (elt : E) (tg : Tg) (it : It) (cond : Oe) (own : List Nat) (y t i : Expr) (ifs : List Expr) (scope : Scope) : Prop where
  hb : BlkOk X.N X.env.scope scope (ownP X.N own)
  ho : ∀ i ∈ tgIds tg, i ∈ own
  ht : agTg scope (relS scope X.env.scope) X.N tg t = true
  hi : SI C Cl X true t it i
  hs : notSet i = true
  he : ∀ s H0 D cl fp, SE C Cl (X.blk s H0 scope (compEnvC scope cl D X.env) fp) false elt y
  hc : (ifs = [] ∧ cond = .no) ∨ ∃ c e, ifs = [c] ∧ cond = .so e ∧ ∀ s H0 D cl fp, ST C Cl (X.blk s H0 scope (compEnvC scope cl D X.env) fp) e c
section
variable {X : Cx} {elt : E} {tg : Tg} {it : It} {cond : Oe} {own : List Nat} {y t i : Expr} {ifs : List Expr} {scope : Scope}
theorem CompOk.pg (K : CompOk C T Cl X elt tg it cond own y t i ifs scope) (O : XOk C T Cl X) : ∀ (s : Shared) (H0 : Hp) (D : Addr) (cl : List (Str × Addr)) (fp : List Addr), PG (X.blk s H0 scope (compEnvC scope cl D X.env) fp) t (gOf X.K tg) := fun s H0 D cl fp =>
  pg_ok (X := X.blk s H0 scope (compEnvC scope cl D X.env) fp) O.nd O.calm (sto_blk s H0 D cl fp) K.ht
theorem CompOk.pts (K : CompOk C T Cl X elt tg it cond own y t i ifs scope) : ∀ (s : Shared) (H0 : Hp) (D : Addr) (cl : List (Str × Addr)) (fp : List Addr), PTs (X.blk s H0 scope (compEnvC scope cl D X.env) fp) ifs (WCb X scope ifs) := fun s H0 D cl fp => by
  rcases K.hc with ⟨rfl, _⟩ | ⟨c, e, rfl, _, _⟩
  · exact pts_nil
  · exact pts_one ⟨fun pins s' σ H Q I h => h s H0 D cl fp pins s' I⟩
theorem CompOk.pe (K : CompOk C T Cl X elt tg it cond own y t i ifs scope) : ∀ (s : Shared) (H0 : Hp) (D : Addr) (cl : List (Str × Addr)) (fp : List Addr), PE (X.blk s H0 scope (compEnvC scope cl D X.env) fp) y (WEb X scope y) := fun s H0 D cl fp =>
  ⟨fun pins s' σ H Q I h => h s H0 D cl fp pins s' I⟩
theorem CompOk.reads (K : CompOk C T Cl X elt tg it cond own y t i ifs scope) (O : XOk C T Cl X) : ∀ ρ h Q σ cs F H R, StOk X.K Cl cs F H h → EnvOk X.K Cl cs F H σ ρ → WpN C (.comp elt tg it cond own) ρ h Q → NOk X.K Cl cs F H Q R →
    tLc (WI X t i) (gOf X.K tg) (WCb X scope ifs) (WEb X scope y) ((ownP X.N own).map (·.2)) σ H R := by
  rw [ownP_ids]
  exact n_comp O K.hb K.ho K.ht K.hi K.hs K.he K.hc (pos := ⟨0, 0, 0, 0⟩)
theorem CompOk.sn (K : CompOk C T Cl X elt tg it cond own y t i ifs scope) (O : XOk C T Cl X) {pos : Pos} : SN C Cl X (.comp elt tg it cond own) (.ListComp y [⟨t, i, ifs, 0⟩] scope pos) := fun ρ h Q σ cs F H R S V w p =>
  we_of (pe_lc O.calm O.nd pi_we K.hb (K.pg O) K.pts K.pe (folded_of K.hs _)) (K.reads O ρ h Q σ cs F H R S V w p)
end

mutual
theorem sE : ∀ (e : E) (b : Bool) (x : Expr) (X : Cx), XOk C T Cl X → agE T X.env.scope X.N e x = true → SE C Cl X b e x
  | .var i, b, x, X, O, h => s_var (by simpa only [agE] using h)
  | .vw i, b, x, X, O, h => s_vw (by simpa only [agE] using h)
  | .cint i, b, x, X, O, h => fun ρ h' Q σ cs F H R S V w p => by
    simp only [agE] at h
    split at h
    · have e := of_decide_eq_true h
      subst e
      simp only [WpE] at w
      exact we_of pe_int (p _ _ _ _ _ _ .refl S (.inl (.int i)) w)
    · cases h
  | .cstr i, b, x, X, O, h => fun ρ h' Q σ cs F H R S V w p => by
    simp only [agE] at h
    split at h
    · have e := of_decide_eq_true h
      subst e
      simp only [WpE] at w
      exact we_of pe_str (p _ _ _ _ _ _ .refl S (.inl (.str i)) w)
    · cases h
  | .cbl i, b, x, X, O, h => fun ρ h' Q σ cs F H R S V w p => by
    simp only [agE] at h
    split at h
    · have e := of_decide_eq_true h
      subst e
      simp only [WpE] at w
      exact we_of pe_bl (p _ _ _ _ _ _ .refl S (.inl (.bl i)) w)
    · cases h
  | .cnon, b, x, X, O, h => fun ρ h' Q σ cs F H R S V w p => by
    simp only [agE] at h
    split at h
    · simp only [WpE] at w
      exact we_of pe_non (p _ _ _ _ _ _ .refl S (.inl .non) w)
    · cases h
  | .glob g, b, x, X, O, h => by
    simp only [agE] at h
    split at h
    · simp only [Bool.and_eq_true, decide_eq_true_eq] at h
      exact s_glob O h.1.1 h.1.2 h.2
    · cases h
  | .bin op a c, b, x, X, O, h => by
    simp only [agE] at h
    split at h
    · simp only [Bool.and_eq_true, decide_eq_true_eq] at h
      obtain ⟨⟨rfl, h1⟩, h2⟩ := h
      exact s_bin (sE a false _ X O h1) (sE c false _ X O h2)
    · cases h
  | .neg a, b, x, X, O, h => by
    simp only [agE] at h
    split at h
    · exact s_neg (sE a false _ X O h)
    · cases h
  | .not a, b, x, X, O, h => by
    simp only [agE] at h
    split at h
    · exact s_not (sE a false _ X O h)
    · cases h
  | .cmp op a c, b, x, X, O, h => by
    simp only [agE] at h
    split at h
    · simp only [Bool.and_eq_true, decide_eq_true_eq, Bool.not_eq_true'] at h
      obtain ⟨⟨⟨rfl, h1⟩, h2⟩, h3⟩ := h
      exact s_cmp O (sE a true _ X O h1) (sE c true _ X O h2) h3
    · cases h
  | .chain o1 o2 a c d, b, x, X, O, h => by
    simp only [agE] at h
    split at h
    · simp only [Bool.and_eq_true, decide_eq_true_eq, Bool.not_eq_true'] at h
      obtain ⟨⟨⟨⟨⟨rfl, rfl⟩, h1⟩, h2⟩, h3⟩, h4⟩ := h
      exact s_chain O (sE a false _ X O h1) (sE c false _ X O h2) (sE d false _ X O h3) h4
    · cases h
  | .and a c, b, x, X, O, h => by
    simp only [agE] at h
    split at h
    · simp only [Bool.and_eq_true] at h
      exact s_and (sE a false _ X O h.1) (sE c false _ X O h.2)
    · cases h
  | .or a c, b, x, X, O, h => by
    simp only [agE] at h
    split at h
    · simp only [Bool.and_eq_true] at h
      exact s_or (sE a false _ X O h.1) (sE c false _ X O h.2)
    · cases h
  | .ite c a d, b, x, X, O, h => by
    simp only [agE] at h
    split at h
    · simp only [Bool.and_eq_true] at h
      exact s_ite (sT c _ X O h.1.1) (sE a false _ X O h.1.2) (sE d false _ X O h.2)
    · cases h
  | .tup es, b, x, X, O, h => by
    simp only [agE] at h
    split at h
    · exact s_tup (sEs es _ X O h)
    · cases h
  | .fz n, b, x, X, O, h => s_fz (sN n x X O (by simpa only [agE] using h))
  | .new n, b, x, X, O, h => s_new (sN n x X O (by simpa only [agE] using h))
  | .sub a i, b, x, X, O, h => by
    simp only [agE] at h
    split at h
    · simp only [Bool.and_eq_true] at h
      exact s_sub O (sE a true _ X O h.1.1) (sE i false _ X O h.1.2) h.2
    · cases h
  | .slice a lo hi, b, x, X, O, h => by
    simp only [agE] at h
    split at h
    · simp only [Bool.and_eq_true] at h
      exact s_slice (sE a false _ X O h.1.1) (sO lo _ X O h.1.2) (sO hi _ X O h.2)
    · cases h
  | .call f es, b, x, X, O, h => by
    simp only [agE] at h
    split at h
    · simp only [Bool.and_eq_true, decide_eq_true_eq] at h
      obtain ⟨⟨⟨h0, h1⟩, h2⟩, h3⟩ := h
      obtain ⟨q1, q2⟩ := agEs_all h3
      exact s_call O h0 h1 h2 q1 q2 (sEs es _ X O h3)
    · cases h
  | .blt bt es, b, x, X, O, h => by
    simp only [agE] at h
    split at h
    · simp only [Bool.and_eq_true, decide_eq_true_eq] at h
      obtain ⟨⟨h0, h1⟩, h3⟩ := h
      exact s_blt O h0 h1 (agEs_all h3).1 (sBs es _ X O h3)
    · cases h
  | .isi a t, b, x, X, O, h => by
    simp only [agE] at h
    split at h
    · simp only [Bool.and_eq_true, decide_eq_true_eq] at h
      obtain ⟨⟨⟨⟨⟨⟨h0, h1⟩, h2⟩, h3⟩, h4⟩, h5⟩, h6⟩ := h
      exact s_isi O h0 h1 h2 h3 h6 h5 (sE a true _ X O h4)
    · cases h
  | .smt m o a, b, x, X, O, h => by
    simp only [agE] at h
    split at h
    · simp only [Bool.and_eq_true] at h
      obtain ⟨⟨⟨⟨⟨h0, h1⟩, h2⟩, h3⟩, h4⟩, h5⟩ := h
      exact s_smt h0 (sE o false _ X O h1) (sE a true _ X O h2) h3 h4 h5
    · cases h
  | .attr a f, b, x, X, O, h => by
    simp only [agE] at h
    split at h
    · simp only [Bool.and_eq_true, decide_eq_true_eq] at h
      obtain ⟨⟨rfl, h1⟩, h2⟩ := h
      exact s_attr O (sE a false _ X O h1) h2
    · cases h
  | .mcall o m es, b, x, X, O, h => by
    simp only [agE] at h
    split at h
    · simp only [Bool.and_eq_true, decide_eq_true_eq] at h
      obtain ⟨⟨⟨⟨⟨rfl, h1⟩, h2⟩, h3⟩, h4⟩, h5⟩ := h
      exact s_mcall O (sE o false _ X O h1) h3 h4 (agEs_all h2).1 h5 (agEs_all h2).2 (sEs es _ X O h2)
    · cases h
  | .make c es, b, x, X, O, h => by
    simp only [agE] at h
    split at h
    · simp only [Bool.and_eq_true, decide_eq_true_eq] at h
      obtain ⟨⟨⟨h0, h1⟩, h2⟩, h3⟩ := h
      exact s_make O h0 h1 h2 (agEs_all h3).1 (sEs es _ X O h3)
    · cases h
  | .tru a, b, x, X, O, h => fun ρ h' Q σ cs F H R S V w p => by simp only [WpE] at w
  | .isC a c, b, x, X, O, h => by
    simp only [agE] at h
    split at h
    · simp only [Bool.and_eq_true, decide_eq_true_eq] at h
      obtain ⟨⟨⟨⟨⟨⟨h0, h1⟩, h2⟩, h3⟩, h4⟩, h5⟩, h6⟩ := h
      exact s_isC O h0 h1 h2 h3 h4 h6 (sE a false _ X O h5)
    · cases h
  | .gIn neg a g, b, x, X, O, h => by
    simp only [agE] at h
    split at h
    · simp only [Bool.and_eq_true, decide_eq_true_eq, Bool.not_eq_true'] at h
      obtain ⟨⟨⟨⟨⟨h0, h1⟩, h2⟩, h3⟩, h4⟩, h5⟩ := h
      exact s_gIn O h0 h2 h3 h4 h5 (sE a false _ X O h1)
    · cases h
  | .gGet g a, b, x, X, O, h => by
    simp only [agE] at h
    split at h
    · simp only [Bool.and_eq_true, decide_eq_true_eq] at h
      obtain ⟨⟨⟨⟨h0, h1⟩, h2⟩, h3⟩, h4⟩ := h
      exact s_gGet O h0 h1 h2 h4 (sE a false _ X O h3)
    · cases h
  | .idx l a, b, x, X, O, h => by
    simp only [agE] at h
    split at h
    · simp only [Bool.and_eq_true, decide_eq_true_eq] at h
      obtain ⟨⟨⟨⟨⟨h0, h1⟩, h2⟩, h3⟩, h4⟩, h5⟩ := h
      exact s_idx h0 (sE l true _ X O h1) (sE a false _ X O h2) h3 h4 h5
    · cases h
  | .popE o, b, x, X, O, h => by
    simp only [agE] at h
    split at h
    · simp only [Bool.and_eq_true, decide_eq_true_eq] at h
      obtain ⟨⟨⟨h0, h1⟩, h2⟩, h3⟩ := h
      exact s_popE h0 (sE o false _ X O h1) h2 h3
    · cases h
  | .revT a, b, x, X, O, h => by
    simp only [agE] at h
    split at h
    · exact s_revT (sE a false _ X O h)
    · cases h
theorem sT : ∀ (e : E) (x : Expr) (X : Cx), XOk C T Cl X → agE T X.env.scope X.N e x = true → ST C Cl X e x
  | .and a c, x, X, O, h => by
    simp only [agE] at h
    split at h
    · simp only [Bool.and_eq_true] at h
      exact s_andT (sT a _ X O h.1) (sT c _ X O h.2)
    · cases h
  | .or a c, x, X, O, h => by
    simp only [agE] at h
    split at h
    · simp only [Bool.and_eq_true] at h
      exact s_orT (sT a _ X O h.1) (sT c _ X O h.2)
    · cases h
  | .not a, x, X, O, h => by
    simp only [agE] at h
    split at h
    · exact s_notT (sT a _ X O h)
    · cases h
  | .cmp op a c, x, X, O, h => by
    simp only [agE] at h
    split at h
    · simp only [Bool.and_eq_true, decide_eq_true_eq, Bool.not_eq_true'] at h
      obtain ⟨⟨⟨rfl, h1⟩, h2⟩, h3⟩ := h
      exact s_cmpT O (sE a true _ X O h1) (sE c true _ X O h2) h3
    · cases h
  | .chain o1 o2 a c d, x, X, O, h => by
    simp only [agE] at h
    split at h
    · simp only [Bool.and_eq_true, decide_eq_true_eq, Bool.not_eq_true'] at h
      obtain ⟨⟨⟨⟨⟨rfl, rfl⟩, h1⟩, h2⟩, h3⟩, h4⟩ := h
      exact s_chainT O (sE a false _ X O h1) (sE c false _ X O h2) (sE d false _ X O h3) h4
    · cases h
  | .tru a, x, X, O, h => by
    simp only [agE, Bool.and_eq_true] at h
    exact s_truT (sE a false _ X O h.1) h.2
  | .cbl k, x, X, O, h => fun ρ h' Q σ cs F H R S V w p => by
    simp only [agE] at h
    split at h
    · have e := of_decide_eq_true h
      subst e
      simp only [WpT] at w
      exact wt_of (pt_truth pe_bl (plainT_ok rfl _)) ⟨_, rfl, p _ _ _ _ _ .refl S w⟩
    · cases h
  | .gIn neg a g, x, X, O, h => by
    simp only [agE] at h
    split at h
    · simp only [Bool.and_eq_true, decide_eq_true_eq, Bool.not_eq_true'] at h
      obtain ⟨⟨⟨⟨⟨h0, h1⟩, h2⟩, h3⟩, h4⟩, h5⟩ := h
      exact s_gInT O h0 h2 h3 h4 h5 (sE a false _ X O h1)
    · cases h
  | .isC _ _, _, _, _, _ => fun ρ h' Q σ cs F H R S V w p => by simp only [WpT] at w
  | .gGet _ _, _, _, _, _ => fun ρ h' Q σ cs F H R S V w p => by simp only [WpT] at w
  | .idx _ _, _, _, _, _ => fun ρ h' Q σ cs F H R S V w p => by simp only [WpT] at w
  | .popE _, _, _, _, _ => fun ρ h' Q σ cs F H R S V w p => by simp only [WpT] at w
  | .revT _, _, _, _, _ => fun ρ h' Q σ cs F H R S V w p => by simp only [WpT] at w
  | .var _, _, _, _, _ => fun ρ h' Q σ cs F H R S V w p => by simp only [WpT] at w
  | .vw _, _, _, _, _ => fun ρ h' Q σ cs F H R S V w p => by simp only [WpT] at w
  | .cint _, _, _, _, _ => fun ρ h' Q σ cs F H R S V w p => by simp only [WpT] at w
  | .cstr _, _, _, _, _ => fun ρ h' Q σ cs F H R S V w p => by simp only [WpT] at w
  | .cnon, _, _, _, _ => fun ρ h' Q σ cs F H R S V w p => by simp only [WpT] at w
  | .glob _, _, _, _, _ => fun ρ h' Q σ cs F H R S V w p => by simp only [WpT] at w
  | .bin _ _ _, _, _, _, _ => fun ρ h' Q σ cs F H R S V w p => by simp only [WpT] at w
  | .neg _, _, _, _, _ => fun ρ h' Q σ cs F H R S V w p => by simp only [WpT] at w
  | .ite _ _ _, _, _, _, _ => fun ρ h' Q σ cs F H R S V w p => by simp only [WpT] at w
  | .tup _, _, _, _, _ => fun ρ h' Q σ cs F H R S V w p => by simp only [WpT] at w
  | .fz _, _, _, _, _ => fun ρ h' Q σ cs F H R S V w p => by simp only [WpT] at w
  | .new _, _, _, _, _ => fun ρ h' Q σ cs F H R S V w p => by simp only [WpT] at w
  | .sub _ _, _, _, _, _ => fun ρ h' Q σ cs F H R S V w p => by simp only [WpT] at w
  | .slice _ _ _, _, _, _, _ => fun ρ h' Q σ cs F H R S V w p => by simp only [WpT] at w
  | .call _ _, _, _, _, _ => fun ρ h' Q σ cs F H R S V w p => by simp only [WpT] at w
  | .blt _ _, _, _, _, _ => fun ρ h' Q σ cs F H R S V w p => by simp only [WpT] at w
  | .isi _ _, _, _, _, _ => fun ρ h' Q σ cs F H R S V w p => by simp only [WpT] at w
  | .smt _ _ _, _, _, _, _ => fun ρ h' Q σ cs F H R S V w p => by simp only [WpT] at w
  | .attr _ _, _, _, _, _ => fun ρ h' Q σ cs F H R S V w p => by simp only [WpT] at w
  | .mcall _ _ _, _, _, _, _ => fun ρ h' Q σ cs F H R S V w p => by simp only [WpT] at w
  | .make _ _, _, _, _, _ => fun ρ h' Q σ cs F H R S V w p => by simp only [WpT] at w
theorem sEs : ∀ (es : Es) (xs : List Expr) (X : Cx), XOk C T Cl X → agEs T X.env.scope X.N es xs = true → SA C Cl X es xs
  | .nil, xs, X, O, h => by
    simp only [agEs] at h
    split at h
    · exact s_nil
    · cases h
  | .cons e es, xs, X, O, h => by
    simp only [agEs] at h
    split at h
    · simp only [Bool.and_eq_true] at h
      exact s_cons (sE e false _ X O h.1.1) (sEs es _ X O h.2) h.1.2
    · cases h
theorem sBs : ∀ (es : Es) (xs : List Expr) (X : Cx), XOk C T Cl X → agEs T X.env.scope X.N es xs = true → SB C Cl X es xs
  | .nil, xs, X, O, h => by
    simp only [agEs] at h
    split at h
    · exact s_nilB
    · cases h
  | .cons e es, xs, X, O, h => by
    simp only [agEs] at h
    split at h
    · simp only [Bool.and_eq_true] at h
      exact s_consB (sE e true _ X O h.1.1) (sBs es _ X O h.2) h.1.2
    · cases h
theorem sD : ∀ (es : Es) (xs : List (Option Expr)) (ys : List Expr) (X : Cx), XOk C T Cl X → agD T X.env.scope X.N es xs ys = true → SD C Cl X es xs ys
  | .nil, xs, ys, X, O, h => by
    simp only [agD] at h
    split at h
    · exact d_nil
    · cases h
  | .cons k (.cons v es), xs, ys, X, O, h => by
    simp only [agD] at h
    split at h
    · simp only [Bool.and_eq_true] at h
      exact d_cons (sE k false _ X O h.1.1) (sE v false _ X O h.1.2) (sD es _ _ X O h.2)
    · cases h
  | .cons _ .nil, _, _, _, _, h => by simp only [agD] at h; cases h
theorem sO : ∀ (e : Oe) (x : Option Expr) (X : Cx), XOk C T Cl X → agO T X.env.scope X.N e x = true → SO C Cl X e x
  | .no, x, X, O, h => by
    simp only [agO] at h
    split at h
    · exact s_no
    · cases h
  | .so e, x, X, O, h => by
    simp only [agO] at h
    split at h
    · exact s_so (sE e false _ X O h)
    · cases h
theorem sC : ∀ (e : Oe) (c : Expr) (e' : E), e = .so e' → ∀ (X : Cx), XOk C T Cl X → agC T X.env.scope X.N e c = true → ST C Cl X e' c
  | .no, c, e', q, X, O, h => by cases q
  | .so e, c, e', q, X, O, h => by
    have q2 : e = e' := by injection q
    rw [← q2]
    exact sT e c X O (by simpa only [agC] using h)
theorem sN : ∀ (n : Nw) (x : Expr) (X : Cx), XOk C T Cl X → agN T X.env.scope X.N n x = true → SN C Cl X n x
  | .lst es, x, X, O, h => by
    simp only [agN] at h
    split at h
    · exact n_lst (sEs es _ X O h)
    · cases h
  | .comp elt tg it cond own, x, X, O, h => by
    simp only [agN] at h
    split at h
    · rename_i y t i ifs a scope pos
      simp only [Bool.and_eq_true, decide_eq_true_eq] at h
      obtain ⟨⟨⟨⟨⟨⟨⟨⟨rfl, hb⟩, ho⟩, ht⟩, hi⟩, hzz⟩, hs⟩, he⟩, hc⟩ := h
      have K : CompOk C T Cl X elt tg it cond own y t i ifs scope := by
        refine ⟨blkOk_by hb, fun j hj => by simpa using List.all_eq_true.mp ho j hj, ht, sI it true t i X O hi (fun _ => rfl) hzz, hs, fun s H0 D cl fp => sE elt false y _ (O.blk s H0 scope cl D fp) he, ?_⟩
        split at hc
        · split at hc
          · exact .inl ⟨rfl, rfl⟩
          · cases hc
        · rename_i c
          obtain ⟨e', q1⟩ := agC_so hc
          exact .inr ⟨c, e', rfl, q1, fun s H0 D cl fp => sC cond c e' q1 _ (O.blk s H0 scope cl D fp) hc⟩
        · cases hc
      exact K.sn O
    · cases h
  | .slice a lo hi, x, X, O, h => by
    simp only [agN] at h
    split at h
    · simp only [Bool.and_eq_true] at h
      exact n_slice (sE a true _ X O h.1.1) (sO lo _ X O h.1.2) (sO hi _ X O h.2)
    · cases h
  | .listOf a, x, X, O, h => by
    simp only [agN] at h
    split at h
    · simp only [Bool.and_eq_true, decide_eq_true_eq] at h
      exact n_list O h.1.1.1 h.1.1.2 h.2 (sE a true _ X O h.1.2)
    · cases h
  | .cat a c, x, X, O, h => by
    simp only [agN] at h
    split at h
    · simp only [Bool.and_eq_true, decide_eq_true_eq] at h
      obtain ⟨⟨rfl, h1⟩, h2⟩ := h
      exact n_cat (sE a true _ X O h1) (sE c true _ X O h2)
    · cases h
  | .rep a c, x, X, O, h => by
    simp only [agN] at h
    split at h
    · simp only [Bool.and_eq_true, decide_eq_true_eq] at h
      obtain ⟨⟨rfl, h1⟩, h2⟩ := h
      exact n_rep (sE a true _ X O h1) (sE c false _ X O h2)
    · cases h
  | .rev a, x, X, O, h => by
    simp only [agN] at h
    split at h
    · exact n_rev (sE a true _ X O h)
    · cases h
  | .dct1 k v, x, X, O, h => by
    simp only [agN] at h
    split at h
    · simp only [Bool.and_eq_true] at h
      exact n_dct1 (sE k false _ X O h.1) (sE v false _ X O h.2)
    · cases h
  | .dctL es, x, X, O, h => by
    simp only [agN] at h
    split at h
    · simp only [Bool.and_eq_true, decide_eq_true_eq] at h
      exact n_dctL ⟨fun z => by rw [z] at h; simp at h, h.2⟩ (sD es _ _ X O h.1.1)
    · cases h
  | .dctN0, x, X, O, h => by
    simp only [agN] at h
    split at h
    · exact n_dctN0
    · cases h
  | .split o a, x, X, O, h => by
    simp only [agN] at h
    split at h
    · simp only [Bool.and_eq_true, decide_eq_true_eq] at h
      obtain ⟨⟨⟨⟨⟨h0, h1⟩, h2⟩, h3⟩, h4⟩, h5⟩ := h
      exact n_split h0 (sE o false _ X O h1) (sE a false _ X O h2) h3 h4 h5
    · cases h
  | .dct0, x, X, O, h => by
    simp only [agN] at h
    split at h
    · exact n_dct0
    · cases h
  | .dictOf a, x, X, O, h => by
    simp only [agN] at h
    split at h
    · simp only [Bool.and_eq_true, decide_eq_true_eq] at h
      exact n_dictOf O h.1.1.1 h.1.1.2 h.2 (sE a false _ X O h.1.2)
    · cases h
  | .sorted a, x, X, O, h => by
    simp only [agN] at h
    split at h
    · simp only [Bool.and_eq_true, decide_eq_true_eq] at h
      exact n_sorted O h.1.1.1 h.1.1.2 h.2 (sE a false _ X O h.1.2)
    · cases h
  | .rngL a c, x, X, O, h => by
    simp only [agN] at h
    split at h
    · simp only [Bool.and_eq_true, decide_eq_true_eq] at h
      obtain ⟨⟨⟨⟨⟨⟨⟨h0, h1⟩, h2⟩, h3⟩, h4⟩, h5⟩, h6⟩, h7⟩ := h
      exact n_rngL O h0 h1 h2 h3 h5 h7 (sE a false _ X O h4) (sE c false _ X O h6)
    · cases h
theorem sI : ∀ (it : It) (st : Bool) (tg x : Expr) (X : Cx), XOk C T Cl X → agI T X.env.scope X.N it x = true → ((∃ i, it = .own i) → st = true) → zipOk it tg = true → SI C Cl X st tg it x
  | .rng1 a, st, tg, x, X, O, h, _, _ => by
    simp only [agI] at h
    split at h
    · simp only [Bool.and_eq_true, decide_eq_true_eq] at h
      exact i_rng1 O h.1.1.1 h.1.1.2 h.2 (sE a false _ X O h.1.2)
    · cases h
  | .rng2 a c, st, tg, x, X, O, h, _, _ => by
    simp only [agI] at h
    split at h
    · simp only [Bool.and_eq_true, decide_eq_true_eq] at h
      obtain ⟨⟨⟨⟨⟨h0, h1⟩, h2⟩, h3⟩, h4⟩, h5⟩ := h
      exact i_rng2 O h0 h1 h3 h5 (sE a false _ X O h2) (sE c false _ X O h4)
    · cases h
  | .seq a, st, tg, x, X, O, h, _, _ => i_seq (sE a false _ X O (by simpa only [agI] using h))
  | .own i, st, tg, x, X, O, h, hst, _ => by
    have e := hst ⟨i, rfl⟩
    subst e
    exact i_own (by simpa only [agI] using h)
  | .chars a, st, tg, x, X, O, h, _, _ => i_chars (sE a false _ X O (by simpa only [agI] using h))
  | .keys a, st, tg, x, X, O, h, _, _ => i_keys (sE a false _ X O (by simpa only [agI] using h))
  | .zip a c, st, tg, x, X, O, h, _, hz => by
    simp only [agI] at h
    split at h
    · simp only [Bool.and_eq_true, decide_eq_true_eq] at h
      obtain ⟨⟨⟨⟨⟨h0, h1⟩, h2⟩, h3⟩, h4⟩, h5⟩ := h
      have ht : ∃ es k tp, tg = .Tuple es k tp := by
        unfold zipOk at hz
        simp only at hz
        split at hz
        · exact ⟨_, _, _, rfl⟩
        · cases hz
      exact i_zip O h0 h1 h3 h5 ht (sE a false _ X O h2) (sE c false _ X O h4)
    · cases h
end
end
end VL

set_option maxRecDepth 100000
set_option maxHeartbeats 4000000
/-! VL: statements, defs. -/
namespace VL
open PySem L2 Evl PyProof.Rows PySem.Spec

/-! ### agreement -/
def notComp : Expr → Bool
  | .ListComp _ _ _ _ => false
  | .SetComp _ _ _ _ => false
  | .DictComp _ _ _ _ _ => false
  | _ => true
def notTup : Expr → Bool
  | .Tuple _ _ _ => false
  | _ => true
def compN : E → Option Nw
  | .fz (.comp a b c d e) => some (.comp a b c d e)
  | .new (.comp a b c d e) => some (.comp a b c d e)
  | _ => none
def isCompN : Nw → Bool
  | .comp _ _ _ _ _ => true
  | _ => false
def agApp (x : Expr) : Option (Expr × Expr) := match x with
  | .Call (.Attribute o nm apos) [y] [] cpos => if (decide (nm = "append") && notSup o && (apos.endLine == cpos.line) && notStar y) = true then some (o, y) else none
  | _ => none
def agExt (x : Expr) : Option (Expr × Expr) := match x with
  | .Call (.Attribute o nm apos) [y] [] cpos => if (decide (nm = "extend") && notSup o && (apos.endLine == cpos.line) && notStar y) = true then some (o, y) else none
  | _ => none
def agPop (x : Expr) : Option Expr := match x with
  | .Call (.Attribute o nm apos) [] [] cpos => if (decide (nm = "pop") && notSup o && (apos.endLine == cpos.line)) = true then some o else none
  | _ => none
mutual
def agS (T : Tab) (sc : Scope) (N : List Str) : S → Stmt → Bool
  | .asg tg e, st => match st with
    | .Assign [t] x _ => agTg sc sc N tg t && agE T sc N e x && (match tg with
      | .nm _ => notComp x || (compN e).isSome
      | .tup _ => notTup x && notComp x)
    | _ => false
  | .asgO i n, st => match st with
    | .Assign [t] x _ => agTg sc sc N (.nm i) t && agN T sc N n x && (notComp x || isCompN n)
    | _ => false
  | .frz _, _ => false
  | .par i j a b, st => match st with
    | .Assign [.Tuple [.Name x px, .Name y py] _ _] (.Tuple [ea, eb] _ _) _ => decide (N[i]? = some x) && (decide (N[j]? = some y) && (decide (i ≠ j) && (decide (x ≠ y) && (decide (sc.names.lookup x = some .local) && (decide (sc.names.lookup y = some .local) && (decide (py.line = px.line) && (agE T sc N a ea && (agE T sc N b eb && (notStar ea && (notStar eb && (!([ea, eb].all (foldedForSure 8)) && !([ea, eb].all (constantsAlone 8)))))))))))))
    | _ => false
  | .aug i op e, st => match st with
    | .AugAssign (.Name id _) o x _ => decide (N[i]? = some id) && tgN sc sc id && decide (op = o) && (decide (op = .Add) || decide (op = .Sub)) && agE T sc N e x
    | _ => false
  | .app i e, st => match st with
    | .Expr x _ => match agApp x with
      | some (o, y) => agVar sc N i o && agE T sc N e y
      | none => false
    | _ => false
  | .appE o e, st => match st with
    | .Expr x _ => match agApp x with
      | some (o', y) => agE T sc N o o' && agE T sc N e y
      | none => false
    | _ => false
  | .ext i e, st => match st with
    | .Expr x _ => match agExt x with
      | some (o, y) => agVar sc N i o && agE T sc N e y
      | none => false
    | _ => false
  | .extE o e, st => match st with
    | .Expr x _ => match agExt x with
      | some (o', y) => agE T sc N o o' && agE T sc N e y
      | none => false
    | _ => false
  | .popS i, st => match st with
    | .Expr x _ => match agPop x with
      | some o => agVar sc N i o
      | none => false
    | _ => false
  | .popA tg i, st => match st with
    | .Assign [t] x _ => match agPop x with
      | some o => agVar sc N i o && agTg sc sc N tg t
      | none => false
    | _ => false
  | .put i k e, st => match st with
    | .Assign [.Subscript o k' _] x _ => agVar sc N i o && agE T sc N k k' && agE T sc N e x && notSlice k'
    | _ => false
  | .putE o k e, st => match st with
    | .Assign [.Subscript o' k' _] x _ => agE T sc N o o' && agE T sc N k k' && agE T sc N e x && notSlice k'
    | _ => false
  | .fld o f e, st => match st with
    | .Assign [.Attribute o' g _] x _ => decide (f = g) && agE T sc N o o' && agE T sc N e x
    | _ => false
  | .expr e, st => match st with
    | .Expr x _ => agE T sc N e x && notComp x
    | _ => false
  | .ret e, st => match st with
    | .Return (some x) _ => agE T sc N e x
    | _ => false
  | .retN, st => match st with
    | .Return none _ => true
    | _ => false
  | .ite c a b, st => match st with
    | .If x p q _ => agE T sc N c x && agSs T sc N a p && agSs T sc N b q
    | _ => false
  | .wh c b, st => match st with
    | .While x p [] _ => agE T sc N c x && agSs T sc N b p
    | _ => false
  | .for tg it b, st => match st with
    | .For t x p [] _ => agTg sc sc N tg t && agI T sc N it x && zipOk it t && notSet x && (match it with | .own _ => false | _ => true) && agSs T sc N b p
    | _ => false
  | .pass, st => match st with
    | .Pass _ => true
    | _ => false
  | .brk, st => match st with
    | .Break _ => true
    | _ => false
  | .cont, st => match st with
    | .Continue _ => true
    | _ => false
  | .bad, _ => true
  | .rse c e, st => match st with
    | .Raise (some (.Call (.Name x _) [a] [] _)) none _ => decide (T.ename c = some x) && glB sc x && plainName x && notStar a && agE T sc N e a
    | _ => false
def agSs (T : Tab) (sc : Scope) (N : List Str) : Ss → List Stmt → Bool
  | .nil, st => match st with
    | [] => true
    | _ => false
  | .cons s r, st => match s with
    | .frz _ => agSs T sc N r st
    | s => match st with
      | x :: xs => agS T sc N s x && agSs T sc N r xs
      | [] => false
end

/-! ### what stands between statements: base of the innermost loop (csb, Fb), the def's entry (cs0, F0, H0) -/
structure Nt (K : PySem.W.Frag) (Cl : Nat → Addr) (csb : List Addr) (Fb : Hp) (cs0 : List Addr) (F0 H0 : Hp) (cs : List Addr) (F H : Hp) (h : AHeap) (σ : L2.St) (ρ : Env) : Prop where
  S : StOk K Cl cs F H h
  V : EnvOk K Cl cs F H σ ρ
  x : Stp cs0 F0 H0 cs F H
  o : ∀ i c a, getS ρ i = .own c → σ[i]? = some (some (.ref a)) → H0 a = none
  y : Ex Fb F ∧ ∃ r, cs = csb ++ r
structure DOk (X : Cx) (Cl : Nat → Addr) (csb : List Addr) (Fb : Hp) (cs0 : List Addr) (F0 H0 : Hp) (D : Kt) (D' : Ends) : Prop where
  nx : ∀ cs F H h σ ρ, Nt X.K Cl csb Fb cs0 F0 H0 cs F H h σ ρ → D.nx ρ h → D'.nx σ H
  rt : ∀ v d cs F H h, Stp cs0 F0 H0 cs F H → StOk X.K Cl cs F H h → Rep X.K cs F v d → D.rt d h → D'.rt v H
  bk : ∀ cs F H h σ ρ, Nt X.K Cl csb Fb cs0 F0 H0 cs F H h σ ρ → D.bk ρ h → D'.bk σ H
  ct : ∀ cs F H h σ ρ, Nt X.K Cl csb Fb cs0 F0 H0 cs F H h σ ρ → D.ct ρ h → D'.ct σ H
  ex : ∃ W : WX, Takes X W ∧ ∀ c n cs F H h σ ρ, Nt X.K Cl csb Fb cs0 F0 H0 cs F H h σ ρ → D.ex c n h → ∀ dd, H dd = none → W (.ref (Cl c)) (some dd) σ (upd H dd (.xd [("row", .int n)]))
/-- a class whose exceptions keep a row -/
structure ExcM (X : Cx) (x : Str) (C : Addr) : Prop where
  mg : X.mg x = some (.ref C)
  ox : OexC X.K C
  row : PySem.W.findIn X.K (.ref C) "row" = some none
  ini : ∃ fI k fd, PySem.W.findIn X.K (.ref C) "__init__" = some (some (.ref fI)) ∧ PySem.W.typeIn X.K (.ref fI) = some (.type "function") ∧ FnOk X.prog X.w X.K X.mg X.base CX0 k fI fd ["self", "row"] (spRow X.K) ∧ Room (k + 1) X.A ∧ Binds X.K fd ["self", "row"] []
structure SOk (C : Ctx) (T : Tab) (Cl : Nat → Addr) (X : Cx) : Prop extends XOk C T Cl X where
  exc : ∀ c x, T.ename c = some x → ExcM X x (Cl c)
  pass : PassesOwn (model X.prog X.w) X.A X.env X.xe
  sto : Sto X.env.scope X
def WS (X : Cx) (st : Stmt) : TS := fun D σ H => ∀ pins s, Inv X pins σ H s → wpAny (model X.prog X.w) X.A (exec st X.env) (SP X pins D) X.xe s
def WSs (X : Cx) (st : List Stmt) : TS := fun D σ H => ∀ pins s, Inv X pins σ H s → wpAny (model X.prog X.w) X.A (execs st X.env) (SP X pins D) X.xe s
section
variable {X : Cx}
theorem ps_we {e : Stmt} : PS X e (WS X e) := ⟨fun pins s σ H D I h => h pins s I⟩
theorem pss_we {e : List Stmt} : PSs X e (WSs X e) := ⟨fun pins s σ H D I h => h pins s I⟩
theorem ws_of {e : Stmt} {t : TS} (p : PS X e t) {σ : L2.St} {H : Hp} {D : Ends} (h : t D σ H) : WS X e D σ H := fun pins s I => p.run pins s σ H D I h
theorem wss_of {e : List Stmt} {t : TS} (p : PSs X e t) {σ : L2.St} {H : Hp} {D : Ends} (h : t D σ H) : WSs X e D σ H := fun pins s I => p.run pins s σ H D I h
end
section
variable (C : Ctx) (Cl : Nat → Addr)
def SS (X : Cx) (s : S) (st : Stmt) : Prop := ∀ csb Fb cs0 F0 H0 D D' ρ h σ cs F H, DOk X Cl csb Fb cs0 F0 H0 D D' → Nt X.K Cl csb Fb cs0 F0 H0 cs F H h σ ρ → WpS C s D ρ h → WS X st D' σ H
def SSs (X : Cx) (s : Ss) (st : List Stmt) : Prop := ∀ csb Fb cs0 F0 H0 D D' ρ h σ cs F H, DOk X Cl csb Fb cs0 F0 H0 D D' → Nt X.K Cl csb Fb cs0 F0 H0 cs F H h σ ρ → WpSs C s D ρ h → WSs X st D' σ H
end
section
variable {C : Ctx} {T : Tab} {Cl : Nat → Addr} {X : Cx} {K : PySem.W.Frag} {csb cs0 cs cs' : List Addr} {Fb F0 H0 F F' H H' : Hp} {h h' : AHeap} {σ σ' : L2.St} {ρ ρ' : Env}
theorem Nt.step (n : Nt K Cl csb Fb cs0 F0 H0 cs F H h σ ρ) (x : Stp cs F H cs' F' H') (S : StOk K Cl cs' F' H' h') : Nt K Cl csb Fb cs0 F0 H0 cs' F' H' h' σ ρ :=
  ⟨S, n.V.step x, n.x.trans x, n.o, n.y.1.trans x.f, by
    obtain ⟨r, e⟩ := n.y.2
    obtain ⟨r2, e2⟩ := x.c
    exact ⟨r ++ r2, by rw [e2, e, List.append_assoc]⟩⟩
theorem Nt.setV (n : Nt K Cl csb Fb cs0 F0 H0 cs F H h σ ρ) {i : Nat} {v : L2.V} {d : AV} (r : Rep K cs F v d) : Nt K Cl csb Fb cs0 F0 H0 cs F H h (σ.set i (some v)) (setS ρ i (.val d)) :=
  ⟨n.S, n.V.setV r, n.x, fun j c a h1 h2 => by
    by_cases hj : i = j
    · subst hj
      by_cases hi : i < ρ.length
      · rw [getS_set_same hi] at h1; cases h1
      · rw [setS_out (by omega)] at h1
        exact absurd (getS_lt (ρ := ρ) (i := i) (by rw [h1]; simp)) hi
    · rw [getS_set_ne hj] at h1
      rw [List.getElem?_set_ne hj] at h2
      exact n.o j c a h1 h2, n.y⟩
theorem upd_self {H : Hp} {a : Addr} {o : HO} (e : H a = some o) : upd H a o = H := by
  funext b
  unfold upd
  split
  · rename_i q; rw [q, e]
  · rfl
theorem set_self {σ : L2.St} {i : Nat} {v : Option V} (e : σ[i]? = some v) : σ.set i v = σ := by
  apply List.ext_getElem?
  intro j
  by_cases hj : i = j
  · subst hj
    rw [List.getElem?_set_self (List.getElem?_eq_some_iff.mp e).1, e]
  · rw [List.getElem?_set_ne hj]
/-- a slot's own cell -/
theorem Nt.setO (n : Nt K Cl csb Fb cs0 F0 H0 cs F H h σ ρ) {i : Nat} {a : Addr} {c : Cell} {o : HO} (n0 : H0 a = none) (n1 : a ∉ cs) (n2 : F a = none) (r : COk K Cl cs F (upd H a o) a c)
    (old : ∀ j c', j ≠ i → getS ρ j = .own c' → σ[j]? ≠ some (some (.ref a))) : Nt K Cl csb Fb cs0 F0 H0 cs F (upd H a o) h (σ.set i (some (.ref a))) (setS ρ i (.own c)) :=
  ⟨n.S.chgN n2 n1, n.V.setO n1 n2 r old, n.x.chgNew n0, fun j c a' h1 h2 => by
    by_cases hj : i = j
    · subst hj
      by_cases hi : i < ρ.length
      · rw [List.getElem?_set_self (by rw [← n.V.len]; exact hi)] at h2
        cases h2
        exact n0
      · rw [setS_out (by omega)] at h1
        exact absurd (getS_lt (ρ := ρ) (i := i) (by rw [h1]; simp)) hi
    · rw [getS_set_ne hj] at h1
      rw [List.getElem?_set_ne hj] at h2
      exact n.o j c a' h1 h2, n.y⟩
/-- a slot's own cell becomes a value; a dict is locked from then on -/
theorem Nt.frzC (n : Nt K Cl csb Fb cs0 F0 H0 cs F H h σ ρ) {i : Nat} {c : Cell} {d : AV} {a : Addr} {o : HO} (e : getS ρ i = .own c) (e1 : σ[i]? = some (some (.ref a))) (ho : H a = some o) (rd : Rep K cs (upd F a o) (.ref a) d) : Nt K Cl csb Fb cs0 F0 H0 cs (upd F a o) H h σ (setS ρ i (.val d)) := by
  obtain ⟨a', e1', n1, n2, r⟩ := n.V.own i c e
  rw [e1] at e1'
  cases e1'
  have n0 := n.o i c a e e1
  have ex : Ex F (upd F a o) := Ex.new n2
  have hi : i < ρ.length := getS_lt (by rw [e]; simp)
  have hs : i < σ.length := by rw [← n.V.len]; exact hi
  refine ⟨n.S.freeze n2 n1 ho, ⟨by rw [setS_length]; exact n.V.len, fun j d' h1 => ?_, fun j c' h1 => ?_, fun j k c1 c2 b ne h1 h2 h3 => ?_⟩, ⟨n.x.f.trans ex, n.x.c, n.x.k, n.x.d, fun b q1 q2 => ?_, n.x.m⟩, fun j c' b h1 h2 => ?_, n.y.1.trans ex, n.y.2⟩
  · by_cases hj : i = j
    · subst hj
      rw [getS_set_same hi] at h1
      cases h1
      exact ⟨_, e1, rd⟩
    · rw [getS_set_ne hj] at h1
      obtain ⟨v, g1, g2⟩ := n.V.val j d' h1
      exact ⟨v, g1, g2.mono ex ⟨[], by simp⟩⟩
  · have hj : i ≠ j := fun z => by subst z; rw [getS_set_same hi] at h1; cases h1
    rw [getS_set_ne hj] at h1
    obtain ⟨b, g1, g2, g3, g4⟩ := n.V.own j c' h1
    refine ⟨b, g1, g2, ?_, g4.mono ex ⟨[], by simp⟩ fun _ z => z⟩
    rw [upd_ne]
    · exact g3
    · intro z
      subst z
      exact n.V.dis i j c c' b hj e h1 e1 g1
  · have h1' : i ≠ j := fun z => by subst z; rw [getS_set_same hi] at h1; cases h1
    have h2' : i ≠ k := fun z => by subst z; rw [getS_set_same hi] at h2; cases h2
    rw [getS_set_ne h1'] at h1
    rw [getS_set_ne h2'] at h2
    exact n.V.dis j k c1 c2 b ne h1 h2 h3
  · by_cases hb : b = a
    · subst hb; exact n0
    · rw [upd_ne hb] at q2
      exact n.x.n b q1 q2
  · have hj : i ≠ j := fun z => by subst z; rw [getS_set_same hi] at h1; cases h1
    rw [getS_set_ne hj] at h1
    exact n.o j c' b h1 h2
theorem Nt.frz (n : Nt K Cl csb Fb cs0 F0 H0 cs F H h σ ρ) {i : Nat} {xs : List AV} (e : getS ρ i = .own (.lst xs)) : ∃ F', Nt K Cl csb Fb cs0 F0 H0 cs F' H h σ (setS ρ i (.val (.lst xs))) := by
  obtain ⟨a, e1, n1, n2, vs, g1, g2⟩ := n.V.own i _ e
  exact ⟨_, n.frzC e e1 g1 (.lst upd_same (g2.mono (Ex.new n2) ⟨[], by simp⟩))⟩
theorem Nt.frzD (n : Nt K Cl csb Fb cs0 F0 H0 cs F H h σ ρ) {i : Nat} {xs : List (Key × AV)} (e : getS ρ i = .own (.dct xs)) : ∃ a us, H a = some (.dK us) ∧ ∀ od, ∃ F', Nt K Cl csb Fb cs0 F0 H0 cs F' (upd H a (.frz od (.dK us))) h σ (setS ρ i (.val (.dct xs))) := by
  obtain ⟨a, e1, n1, n2, us, g1, g2⟩ := n.V.own i _ e
  refine ⟨a, us, g1, fun od => ?_⟩
  have n0 := n.o i _ a e e1
  have hs : i < σ.length := (List.getElem?_eq_some_iff.mp e1).1
  -- the slot is taken away first
  have hi : i < ρ.length := getS_lt (by rw [e]; simp)
  have S1 : StOk K Cl cs F (upd H a (.frz od (.dK us))) h := n.S.chgN n2 n1
  have x1 : Stp cs0 F0 H0 cs F (upd H a (.frz od (.dK us))) := n.x.chgNew n0
  have ex : Ex F (upd F a (.frz od (.dK us))) := Ex.new n2
  refine ⟨upd F a (.frz od (.dK us)), S1.freeze n2 n1 upd_same, ⟨by rw [setS_length]; exact n.V.len, fun j d' h1 => ?_, fun j c' h1 => ?_, fun j k c1 c2 b ne h1 h2 h3 => ?_⟩, ⟨x1.f.trans ex, x1.c, x1.k, x1.d, fun b q1 q2 => ?_, x1.m⟩, fun j c' b h1 h2 => ?_, n.y.1.trans ex, n.y.2⟩
  · by_cases hj : i = j
    · subst hj
      rw [getS_set_same hi] at h1
      cases h1
      exact ⟨_, e1, .dct upd_same (g2.mono ex ⟨[], by simp⟩)⟩
    · rw [getS_set_ne hj] at h1
      obtain ⟨v, g1, g2⟩ := n.V.val j d' h1
      exact ⟨v, g1, g2.mono ex ⟨[], by simp⟩⟩
  · have hj : i ≠ j := fun z => by subst z; rw [getS_set_same hi] at h1; cases h1
    rw [getS_set_ne hj] at h1
    obtain ⟨b, k1, k2, g3, g4⟩ := n.V.own j c' h1
    have ne : b ≠ a := fun z => by subst z; exact n.V.dis i j _ c' b hj e h1 e1 k1
    refine ⟨b, k1, k2, by rw [upd_ne ne]; exact g3, g4.mono ex ⟨[], by simp⟩ fun o z => by rw [upd_ne ne]; exact z⟩
  · have h1' : i ≠ j := fun z => by subst z; rw [getS_set_same hi] at h1; cases h1
    have h2' : i ≠ k := fun z => by subst z; rw [getS_set_same hi] at h2; cases h2
    rw [getS_set_ne h1'] at h1
    rw [getS_set_ne h2'] at h2
    exact n.V.dis j k c1 c2 b ne h1 h2 h3
  · by_cases hb : b = a
    · subst hb; exact n0
    · rw [upd_ne hb] at q2
      exact x1.n b q1 q2
  · have hj : i ≠ j := fun z => by subst z; rw [getS_set_same hi] at h1; cases h1
    rw [getS_set_ne hj] at h1
    exact n.o j c' b h1 h2
theorem DOk.seq {D : Kt} {D' : Ends} {A : Env → AHeap → Prop} {A' : L2.St → Hp → Prop} (d : DOk X Cl csb Fb cs0 F0 H0 D D') (k : ∀ cs F H h σ ρ, Nt X.K Cl csb Fb cs0 F0 H0 cs F H h σ ρ → A ρ h → A' σ H) :
    DOk X Cl csb Fb cs0 F0 H0 { D with nx := A } { D' with nx := A' } := ⟨k, d.rt, d.bk, d.ct, d.ex⟩

/-! ### each statement -/
theorem swaps_plain {x : Expr} (hx : notComp x = true) (t : Option Expr) (l : Nat) (env : PySem.Env) : swapsWith x t l env = pure false := by
  cases x <;> first | rfl | cases hx
theorem swaps_other {x t : Expr} (ht : ∀ id p, t ≠ .Name id p) (l : Nat) (env : PySem.Env) : swapsWith x (some t) l env = pure false := by
  cases x <;> first | rfl | (cases t <;> first | rfl | exact absurd rfl (ht _ _))
def swB (sc scope : Scope) (id : Str) (pl xl : Nat) : Bool := decide (sc.names.lookup id = some .local) && (pl == xl) && !(scope.names.any fun (n, k) => n == id && (k == .local || k == .cell))
theorem sw_false {elt : Expr} {gs : List Comprehension} {scope : Scope} {pos py : Pos} {y : Str} {l : Nat} {env : PySem.Env} (hk : env.scope.kind = .function) (h : swB env.scope scope y py.line pos.line = false) :
    swapsWith (.ListComp elt gs scope pos) (some (.Name y py)) l env = pure false := by
  have hb : env.blockKind = .function := by unfold Env.blockKind; rw [hk]; rfl
  unfold swapsWith
  unfold swB at h
  have ky : (env.kindOf y == some .local) = decide (env.scope.names.lookup y = some .local) := by
    show (env.scope.names.lookup y == some .local) = _
    cases q : env.scope.names.lookup y with
    | none => rfl
    | some k => cases k <;> rfl
  simp only [hb, ky, Expr.pos]
  show pure ((ScopeKind.function == ScopeKind.function && decide (env.scope.names.lookup y = some .local) && (py.line == pos.line)) && !(scope.names.any fun (n, k) => n == y && (k == .local || k == .cell))) = pure false
  have : (ScopeKind.function == ScopeKind.function) = true := rfl
  rw [this, Bool.true_and, h]
/-- a comprehension given to a name -/
theorem comp_set {elt : E} {tg : Tg} {it : It} {cond : Oe} {own : List Nat} {y t i : Expr} {ifs : List Expr} {scope : Scope} {pos spos p' : Pos} {id : Str} {j : Nat} (O : SOk C T Cl X) (Kp : CompOk C T Cl X elt tg it cond own y t i ifs scope)
    (hj : X.N[j]? = some id) (hid : tgN X.env.scope X.env.scope id = true) {ρ : Env} {h : AHeap} {Q : Cell → AHeap → Prop} {D : Ends} (S : StOk X.K Cl cs F H h) (V : EnvOk X.K Cl cs F H σ ρ) (hk : X.env.scope.kind = .function) (w : WpN C (.comp elt tg it cond own) ρ h Q)
    (p : NOk X.K Cl cs F H Q (fun v H1 => D.nx (σ.set j (some v)) H1)) : WS X (.Assign [.Name id p'] (.ListComp y [⟨t, i, ifs, 0⟩] scope pos) spos) D σ H := by
  obtain ⟨s1, s2⟩ := O.sto id hid
  cases hs : swB X.env.scope scope id p'.line pos.line with
  | false => exact ws_of (ps_set O.nd hj s1 pe_we (sw_false hk hs) s2) (Kp.sn O.toXOk _ _ _ _ _ _ _ _ S V w p)
  | true =>
    unfold swB at hs
    simp only [Bool.and_eq_true, decide_eq_true_eq, Bool.not_eq_true'] at hs
    exact ws_of (ps_setLc O.calm O.nd hj hs.1.1 (sw_true hk hs.1.1 hs.1.2 hs.2) pi_we Kp.hb (Kp.pg O.toXOk) Kp.pts Kp.pe (folded_of Kp.hs _)) (Kp.reads O.toXOk _ _ _ _ _ _ _ _ S V w p)
theorem comp_of {elt : E} {tg : Tg} {it : It} {cond : Oe} {own : List Nat} {x : Expr} (O : XOk C T Cl X) (h : agN T X.env.scope X.N (.comp elt tg it cond own) x = true) :
    ∃ y t i ifs scope pos, x = .ListComp y [⟨t, i, ifs, 0⟩] scope pos ∧ CompOk C T Cl X elt tg it cond own y t i ifs scope := by
  simp only [agN] at h
  split at h
  · rename_i y t i ifs a scope pos
    simp only [Bool.and_eq_true, decide_eq_true_eq] at h
    obtain ⟨⟨⟨⟨⟨⟨⟨⟨rfl, hb⟩, ho⟩, ht⟩, hi⟩, hzz⟩, hs⟩, he⟩, hc⟩ := h
    refine ⟨y, t, i, ifs, scope, pos, rfl, blkOk_by hb, fun j hj => by simpa using List.all_eq_true.mp ho j hj, ht, sI it true t i X O hi (fun _ => rfl) hzz, hs, fun s H0 D cl fp => sE elt false y _ (O.blk s H0 scope cl D fp) he, ?_⟩
    split at hc
    · split at hc
      · exact .inl ⟨rfl, rfl⟩
      · cases hc
    · rename_i c
      obtain ⟨e', q1⟩ := agC_so hc
      exact .inr ⟨c, e', rfl, q1, fun s H0 D cl fp => sC cond c e' q1 _ (O.blk s H0 scope cl D fp) hc⟩
    · cases hc
  · cases h
theorem st_asg {tg : Tg} {e : E} {st : Stmt} (O : SOk C T Cl X) (hk : X.env.scope.kind = .function) (hag : agS T X.env.scope X.N (.asg tg e) st = true) : SS C Cl X (.asg tg e) st := fun csb Fb cs0 F0 H0 D D' ρ h σ cs F H d n w => by
  simp only [agS] at hag
  split at hag
  · rename_i t x pos
    simp only [Bool.and_eq_true] at hag
    obtain ⟨⟨ht, he⟩, hx⟩ := hag
    simp only [WpS] at w
    cases tg with
    | nm i =>
      simp only [agTg] at ht
      split at ht
      · rename_i id p'
        simp only [Bool.and_eq_true, decide_eq_true_eq] at ht
        obtain ⟨s1, s2⟩ := O.sto id ht.2
        have fin : EOk X.K Cl false cs F H (fun x h1 => tgK (.nm i) x ρ fun ρ' => D.nx ρ' h1) (fun v H1 => D'.nx (σ.set i (some v)) H1) := fun v d2 cs2 F2 H2 h2 y S r q =>
          d.nx _ _ _ _ _ _ ((n.step y S).setV r.plain) q
        simp only [Bool.or_eq_true] at hx
        rcases hx with hx | hx
        · exact ws_of (ps_set O.nd ht.1 s1 pe_we (swaps_plain hx _ _ _) s2) (sE e false x X O.toXOk he _ _ _ _ _ _ _ _ n.S n.V w fin)
        · cases hc : compN e with
          | none => rw [hc] at hx; cases hx
          | some n0 =>
            unfold compN at hc
            split at hc
            · cases hc
              simp only [agE] at he
              obtain ⟨y, t', i', ifs, scope, pos', rfl, Kp⟩ := comp_of O.toXOk he
              simp only [WpE] at w
              refine comp_set O Kp ht.1 ht.2 n.S n.V hk (Q := fun c h1 => match c with
                | .lst xs => tgK (.nm i) (.lst xs) ρ fun ρ' => D.nx ρ' h1
                | _ => False) ?_ (NOk.fzL fin)
              simp only [WpN] at w ⊢
              exact w
            · cases hc
              simp only [agE] at he
              obtain ⟨y, t', i', ifs, scope, pos', rfl, Kp⟩ := comp_of O.toXOk he
              simp only [WpE] at w
              exact comp_set O Kp ht.1 ht.2 n.S n.V hk w (NOk.new fin)
            · cases hc
      · cases ht
    | tup is =>
      simp only [Bool.and_eq_true] at hx
      have hw : swappedStores [t] x X.env = pure none := by
        cases t <;> first | (simp [agTg] at ht; done) | (cases x <;> first | rfl | cases hx.1)
      have hs : swapsWithSole [t] x pos.line X.env = pure false := swaps_plain hx.2 _ _ _
      refine ws_of (ps_asg pe_we (pg_ok O.nd O.calm O.sto ht) hs hw (by cases t <;> first | (simp [agTg] at ht; done) | rfl)) (sE e false x X O.toXOk he _ _ _ _ _ _ _ _ n.S n.V w fun v d2 cs2 F2 H2 h2 y S r q => ?_)
      have n2 := n.step y S
      -- the names are set one after another
      obtain ⟨xs, ρ', e, hs2, q⟩ := tgK_tup q
      refine gTL_of S.sub r.plain e hs2 fun vs g2 => ?_
      have go : ∀ {is : List Nat} {xs : List AV} {vs : List V} {σ : L2.St} {ρ : Env}, Nt X.K Cl csb Fb cs0 F0 H0 cs2 F2 H2 h2 σ ρ → Reps X.K cs2 F2 vs xs → setsS ρ is xs = some ρ' → gNames is vs σ H2 D'.nx := by
        intro is
        induction is with
        | nil =>
          intro xs vs σ ρ n r e
          cases r with
          | nil => simp [setsS] at e; subst e; exact ⟨rfl, d.nx _ _ _ _ _ _ n q⟩
          | cons _ _ => simp [setsS] at e
        | cons i is ih =>
          intro xs vs σ ρ n r e
          cases r with
          | nil => simp [setsS] at e
          | cons r rs =>
            simp only [setsS] at e
            exact ⟨_, _, rfl, ih (n.setV r) rs e⟩
      exact go n2 g2 hs2
  · cases hag
theorem sw_two {x y : Str} {a b : Expr} {px py pt pt2 : Pos} {kt k2} {env : PySem.Env} (hb : env.blockKind = .function) (hx : env.scope.names.lookup x = some .local) (hy : env.scope.names.lookup y = some .local) (hl : py.line = px.line) (hn : x ≠ y) (sa : notStar a = true) (sb : notStar b = true) (f1 : ([a, b].all (foldedForSure 8)) = false) (f2 : ([a, b].all (constantsAlone 8)) = false) :
    swappedStores [.Tuple [.Name x px, .Name y py] kt pt] (.Tuple [a, b] k2 pt2) env = pure (some [x, y]) := by
  have kx : env.kindOf x = some NameKind.local := hx
  have ky : env.kindOf y = some NameKind.local := hy
  have e1 : ([x, y].eraseDups) = [x, y] := by
    simp [List.eraseDups_cons, hn.symm, Ne.symm hn, hn]
  unfold swappedStores
  simp only [List.length_cons, List.length_nil, hb, List.any_cons, List.any_nil, f1, f2]
  simp [kx, ky, hl, e1, Expr.pos, List.filterMap_cons]
  rintro (h | h)
  · cases a <;> first | (cases h; done) | cases sa
  · cases b <;> first | (cases h; done) | cases sb
theorem st_par {i j : Nat} {a b : E} {st : Stmt} (O : SOk C T Cl X) (hk : X.env.scope.kind = .function) (hag : agS T X.env.scope X.N (.par i j a b) st = true) : SS C Cl X (.par i j a b) st := fun csb Fb cs0 F0 H0 D D' ρ h σ cs F H d n w => by
  simp only [agS] at hag
  split at hag
  · rename_i x px y py kt pt ea eb k2 pt2 pos
    simp only [Bool.and_eq_true, decide_eq_true_eq, Bool.not_eq_true'] at hag
    obtain ⟨hi, hj, hij, hn, hx, hy, hl, ha, hb, sa, sb, f1, f2⟩ := hag
    simp only [WpS] at w
    have hB : X.env.blockKind = .function := by
      unfold Env.blockKind
      rw [hk]; rfl
    refine ws_of (ps_par O.calm O.nd hi hj hij hx hy (pa_cons pe_we (pa_cons pe_we pa_nil (star_cons sb _ _)) (star_cons sa _ _)) (sw_two hB hx hy hl hn sa sb f1 f2) (by rfl)) ?_
    refine sE a false ea X O.toXOk ha _ _ _ _ _ _ _ _ n.S n.V w fun v1 d1 cs1 F1 H1 h1 x1 S1 r1 q1 => ?_
    refine sE b false eb X O.toXOk hb _ _ _ _ _ _ _ _ S1 (n.V.step x1) q1 fun v2 d2 cs2 F2 H2 h2 x2 S2 r2 q2 => ?_
    exact ⟨v1, v2, rfl, d.nx _ _ _ _ _ _ (((n.step (x1.trans x2) S2).setV (r1.step x2).plain).setV r2.plain) q2⟩
  · cases hag
theorem own_old (V : EnvOk K Cl cs F H σ ρ) {i : Nat} {c : Cell} {a : Addr} (e : getS ρ i = .own c) (q : σ[i]? = some (some (.ref a))) : ∀ j c', j ≠ i → getS ρ j = .own c' → σ[j]? ≠ some (some (.ref a)) := fun j c' hj h1 =>
  V.dis i j c c' a (Ne.symm hj) e h1 q
theorem st_asgO {i : Nat} {m : Nw} {st : Stmt} (O : SOk C T Cl X) (hk : X.env.scope.kind = .function) (hag : agS T X.env.scope X.N (.asgO i m) st = true) : SS C Cl X (.asgO i m) st := fun csb Fb cs0 F0 H0 D D' ρ h σ cs F H d n w => by
  simp only [agS] at hag
  split at hag
  · rename_i t x pos
    simp only [Bool.and_eq_true] at hag
    obtain ⟨⟨ht, he⟩, hx⟩ := hag
    simp only [WpS] at w
    simp only [agTg] at ht
    split at ht
    · rename_i id p'
      simp only [Bool.and_eq_true, decide_eq_true_eq] at ht
      obtain ⟨s1, s2⟩ := O.sto id ht.2
      have fin : NOk X.K Cl cs F H (fun c h1 => D.nx (setS ρ i (.own c)) h1) (fun v H1 => D'.nx (σ.set i (some v)) H1) := fun a c cs2 F2 H2 h2 y S n1 n2 n3 r q => by
        have hs : H2 a ≠ none := r.some
        have n' := n.step y S
        cases ho : H2 a with
        | none => exact absurd ho hs
        | some o =>
          have e : upd H2 a o = H2 := upd_self ho
          have z := n'.setO (i := i) (o := o) (n.x.fresh n1) n3 n2 (by rw [e]; exact r) fun j c' hj h1 h2 => by
            obtain ⟨b, g1, _, _, g4⟩ := n.V.own j c' h1
            rw [g1] at h2
            cases h2
            exact g4.some n1
          rw [e] at z
          exact d.nx _ _ _ _ _ _ z q
      simp only [Bool.or_eq_true] at hx
      rcases hx with hx | hx
      · exact ws_of (ps_set O.nd ht.1 s1 pe_we (swaps_plain hx _ _ _) s2) (sN m x X O.toXOk he _ _ _ _ _ _ _ _ n.S n.V w fin)
      · cases m with
        | comp a b c e f =>
          obtain ⟨y, t', i', ifs, scope, pos', rfl, Kp⟩ := comp_of O.toXOk he
          exact comp_set O Kp ht.1 ht.2 n.S n.V hk w fin
        | _ => cases hx
    · cases ht
  · cases hag
theorem st_aug {i : Nat} {op : Operator} {e : E} {st : Stmt} (O : SOk C T Cl X) (hag : agS T X.env.scope X.N (.aug i op e) st = true) : SS C Cl X (.aug i op e) st := fun csb Fb cs0 F0 H0 D D' ρ h σ cs F H d n w => by
  simp only [agS] at hag
  split at hag
  · rename_i id p' o x pos
    simp only [Bool.and_eq_true, Bool.or_eq_true, decide_eq_true_eq] at hag
    obtain ⟨⟨⟨⟨h1, h2⟩, rfl⟩, h4⟩, h5⟩ := hag
    obtain ⟨s1, s2⟩ := O.sto id h2
    simp only [WpS] at w
    split at w
    · rename_i x0 hx0
      obtain ⟨v0, e0, r0⟩ := n.V.val i x0 hx0
      have fin : ∀ {f : Int → Int → Int}, (∀ x y Q, augK op x y Q → ∃ a b, x = .int a ∧ y = .int b ∧ Q (.int (f a b))) → tAug i (WE X x) (ipI f) D' σ H := by
        intro f hf
        refine ⟨v0, e0, sE e false x X O.toXOk h5 _ _ _ _ _ _ _ _ n.S n.V w fun v1 d1 cs1 F1 H1 h1 x1 S1 r1 q1 => ?_⟩
        obtain ⟨a, b, rfl, rfl, q⟩ := hf _ _ _ q1
        have := r1.int
        subst this
        cases r0
        exact ⟨a, b, rfl, rfl, d.nx _ _ _ _ _ _ ((n.step x1 S1).setV (.int _)) q⟩
      rcases h4 with rfl | rfl
      · refine ws_of (ps_aug O.nd h1 s1 pe_we ip_add s2) (fin fun x y Q q => ?_)
        cases x <;> cases y <;> first | exact ⟨_, _, rfl, rfl, q⟩ | exact q.elim
      · refine ws_of (ps_aug O.nd h1 s1 pe_we ip_sub s2) (fin fun x y Q q => ?_)
        cases x <;> cases y <;> first | exact ⟨_, _, rfl, rfl, q⟩ | exact q.elim
    · exact w.elim
  · cases hag
theorem app_ps {o y : Expr} {x : Expr} {pos : Pos} {to : TE} (hx : agApp x = some (o, y)) (ho : PE X o to) : PS X (.Expr x pos) (tDrop (tBM X.K "list" rAppend to (tCons (WE X y) tNil))) := by
  unfold agApp at hx
  split at hx
  · rename_i o' nm apos y' cpos
    split at hx
    · rename_i hc
      cases hx
      simp only [Bool.and_eq_true, decide_eq_true_eq] at hc
      obtain ⟨⟨⟨rfl, h2⟩, h3⟩, h4⟩ := hc
      refine ps_expr (pe_bm PySem.F.plainAttrs_list PySem.F.slot_list_append PySem.F.type_list_append mt_append ho (pa_cons pe_we pa_nil (star_cons h4 _ _)) (base_of h2 _ _) ?_ h3 (star_cons h4 _ _) rfl) rfl
      rw [star_cons h4]
      rfl
    · cases hx
  · cases hx
theorem st_app {i : Nat} {e : E} {st : Stmt} (O : SOk C T Cl X) (hag : agS T X.env.scope X.N (.app i e) st = true) : SS C Cl X (.app i e) st := fun csb Fb cs0 F0 H0 D D' ρ h σ cs F H d n w => by
  simp only [agS] at hag
  split at hag
  · rename_i x pos
    split at hag
    · rename_i o y hx
      simp only [Bool.and_eq_true] at hag
      obtain ⟨ha, he⟩ := hag
      unfold agVar at ha
      split at ha
      · rename_i id p'
        simp only [Bool.and_eq_true, decide_eq_true_eq] at ha
        obtain ⟨⟨h1, h2⟩, h3⟩ := ha
        obtain ⟨n1, n2, _⟩ := plainName_ok h3
        simp only [WpS] at w
        have po : PE X (.Name id p') (fun σ H Q => ∃ v, σ[i]? = some (some v) ∧ Q v H) := pe_var h1 (visB_ok h2) n1 n2
        split at w
        · rename_i xs hc
          obtain ⟨a, e1, m1, m2, vs, e2, r⟩ := n.V.own i _ hc
          have n0 := n.o i _ a hc e1
          refine ws_of (app_ps hx po) ⟨_, e1, .inl ⟨rfl, vs, sq_of e2⟩, ?_⟩
          refine sE e false y X O.toXOk he _ _ _ _ _ _ _ _ n.S n.V w fun v1 d1 cs1 F1 H1 h1 x1 S1 r1 q1 => ?_
          have nn := n.step x1 S1
          have e2' : H1 a = some (.lst vs) := x1.k _ _ e2 m1
          have m1' : a ∉ cs1 := fun z => by have := x1.m a z m1; rw [e2] at this; cases this
          have m2' : F1 a = none := by
            cases w : F1 a with
            | none => rfl
            | some o =>
              have z := x1.n a m2 (by rw [w]; simp)
              rw [e2] at z; cases z
          refine ⟨a, vs, v1, rfl, rfl, e2', by rw [r.length]; exact q1.1, ?_⟩
          have z := nn.setO (i := i) (o := .lst (vs ++ [v1])) (c := .lst (xs ++ [d1])) n0 m1' m2' ⟨_, upd_same, (r.mono x1.f x1.c).append (.cons r1.plain .nil)⟩ (own_old nn.V hc e1)
          rw [set_self e1] at z
          exact d.nx _ _ _ _ _ _ z q1.2
        · exact w.elim
      · cases ha
    · cases hag
  · cases hag
theorem Nt.cellSet (n : Nt K Cl csb Fb cs0 F0 H0 cs F H h σ ρ) {m : Nat} {a : Addr} {c : Cell} {o : HO} (e : cs[m]? = some a) (r : COk K Cl cs F (upd H a o) a c) : Nt K Cl csb Fb cs0 F0 H0 cs F (upd H a o) (h.set m c) σ ρ := by
  have x2 : Stp cs F H cs F (upd H a o) := Stp.chg (List.mem_of_getElem? e)
  exact ⟨n.S.cellSet e r, n.V.step x2, n.x.trans x2, n.o, n.y⟩
theorem st_appE {o e : E} {st : Stmt} (O : SOk C T Cl X) (hag : agS T X.env.scope X.N (.appE o e) st = true) : SS C Cl X (.appE o e) st := fun csb Fb cs0 F0 H0 D D' ρ h σ cs F H d n w => by
  simp only [agS] at hag
  split at hag
  · rename_i x pos
    split at hag
    · rename_i o' y hx
      simp only [Bool.and_eq_true] at hag
      simp only [WpS] at w
      refine ws_of (app_ps hx pe_we) (sE o false o' X O.toXOk hag.1 _ _ _ _ _ _ _ _ n.S n.V w fun v1 d1 cs1 F1 H1 h1 x1 S1 r1 q1 => ?_)
      have n1 := n.step x1 S1
      split at q1
      · rename_i m
        split at q1
        · rename_i xs0 hc0
          have r1 := r1.plain
          cases r1 with
          | adr g1 =>
            rename_i a
            obtain ⟨vs0, g2, g3⟩ := cell_at S1 g1 hc0
            refine ⟨.inl ⟨rfl, vs0, sq_of g2⟩, ?_⟩
            refine sE e false y X O.toXOk hag.2 _ _ _ _ _ _ _ _ S1 n1.V q1 fun v2 d2 cs2 F2 H2 h2 x2 S2 r2 q2 => ?_
            have n2 := n1.step x2 S2
            unfold appC at q2
            split at q2
            · rename_i xs hc
              have g1' : cs2[m]? = some a := let ⟨_, q⟩ := x2.c; get_pre q g1
              obtain ⟨vs, k1, k2⟩ := cell_at S2 g1' hc
              refine ⟨a, vs, v2, rfl, rfl, k1, by rw [k2.length]; exact q2.1, ?_⟩
              exact d.nx _ _ _ _ _ _ (n2.cellSet g1' (show COk X.K Cl cs2 F2 _ a (.lst (xs ++ [d2])) from ⟨_, upd_same, k2.append (.cons r2.plain .nil)⟩)) q2.2
            · exact q2.elim
        · exact q1.elim
      · exact q1.elim
    · cases hag
  · cases hag
/-- o[k] = v by its weakest reading -/
def PSW (X : Cx) : TSet := fun o i v H Q => ∀ (pins : List (Addr × Obj)) (s : Shared) (σ : L2.St) (ov iv u : Value), Inv X pins σ H s → RelV o ov → RelV i iv → RelV v u → wpAny (model X.prog X.w) X.A (setItem ov iv u) (fun _ s' => ∃ H', Inv X pins σ H' s' ∧ Q H') X.xe s
theorem psw_ok : PSet X (PSW X) := fun pins s σ H o i v ov iv u Q I r1 r2 r3 h => h pins s σ ov iv u I r1 r2 r3
theorem psw_of {t : TSet} (p : PSet X t) {o i v : V} {H : Hp} {Q : Hp → Prop} (h : t o i v H Q) : PSW X o i v H Q := fun pins s σ ov iv u I r1 r2 r3 => p pins s σ H o i v ov iv u Q I r1 r2 r3 h
theorem set_dict (hu : X.A.units + 1 < cLine) : PSet X (fun o i v H Q => ∃ a H', o = .ref a ∧ DPut H a i v H' ∧ Q H') := by
  intro pins s σ H o i v ov iv u Q I r1 r2 r3 h
  obtain ⟨a, H', rfl, g, q⟩ := h
  cases r1
  exact d_setItem hu I g r2 r3 fun s' I' => ⟨H', I', q⟩
theorem set_nk (hu : X.A.units + 2 < cLine) : PSet X (fun o i v H Q => ∃ a b es k, o = .ref a ∧ i = .ref b ∧ H a = some (.ext (DN a es)) ∧ (∀ x ∈ es, KeyN X.K H x.1 x.2.1) ∧ KeyN X.K H k b ∧ es.length < sizeLine ∧ Q (upd H a (.ext (DN a (putN es k b v))))) := by
  intro pins s σ H o i v ov iv u Q I r1 r2 r3 h
  obtain ⟨a, b, es, k, rfl, rfl, h1, h2, h3, h4, q⟩ := h
  cases r1; cases r2
  exact n_setItem hu I h1 h2 h3 h4 r3 fun s' I' => ⟨_, I', q⟩
theorem putC_ok (hu : X.A.units + 2 < cLine) (sub : Ex F H) {a : Addr} {c : Cell} {k d : AV} {i v : V} {Q : Cell → Prop} {R : Hp → Prop} {b : Bool} (r : COk X.K Cl cs F H a c) (rk : RepB X.K cs F H b i k) (rv : Rep X.K cs F v d) (q : putC c k d Q)
    (p : ∀ o c', COk X.K Cl cs F (upd H a o) a c' → Q c' → R (upd H a o)) : PSW X (.ref a) i v H R := by
  unfold putC at q
  split at q
  · rename_i xs
    obtain ⟨vs, e1, e2⟩ := r
    split at q
    · cases rk.int
      split at q
      · rename_i j hj
        rw [← e2.length] at hj
        exact psw_of set_list ⟨a, vs, _, j, rfl, rfl, e1, hj, p _ (.lst (xs.set j d)) ⟨_, upd_same, e2.set rv j⟩ q⟩
      · exact q.elim
    · exact q.elim
  · rename_i kvs
    obtain ⟨us, e1, e2⟩ := r
    split at q
    · rename_i kk hk
      cases rk.key hk
      refine psw_of (set_dict (by omega)) ⟨a, _, rfl, .k e1 ?_, p _ (.dct (putD kvs kk d)) ⟨_, upd_same, e2.put rv⟩ q.2⟩
      rw [e2.length, sizeLine_eq]
      have := q.1
      omega
    · exact q.elim
  · rename_i kvs
    obtain ⟨es, e1, e2⟩ := r
    split at q
    · rename_i kk hk
      obtain ⟨kb, rfl, hkb⟩ := rk.nk hk
      have up : ∀ {k b}, KeyN X.K F k b → KeyN X.K H k b := fun x => x.mono fun _ _ q => ex_t sub q
      refine psw_of (set_nk hu) ⟨a, kb, es, kk, rfl, rfl, e1, fun x m => up (e2.keys x m), up hkb, ?_, p _ (.dctN (putNK kvs kk d)) ⟨_, upd_same, e2.put hkb rv⟩ q.2⟩
      rw [e2.length, sizeLine_eq]
      have := q.1
      omega
    · exact q.elim
  · exact q.elim
theorem put_ps {o k x : Expr} {to : TE} {pk pos : Pos} (ho : PE X o to) (hk : notSlice k = true) : PS X (.Assign [.Subscript o k pk] x pos) (tAsg (WE X x) (gSub to (WE X k) (PSW X))) := by
  refine ps_asg pe_we (pg_sub ho pe_we psw_ok ?_) ?_ ?_
  · intro _
    cases k <;> first | rfl | cases hk
  · show swapsWith x (some (.Subscript o k pk)) pos.line X.env = pure false
    exact swaps_other (t := .Subscript o k pk) (fun _ _ z => by cases z) _ _
  · cases x <;> rfl
theorem st_put {i : Nat} {k e : E} {st : Stmt} (O : SOk C T Cl X) (hag : agS T X.env.scope X.N (.put i k e) st = true) : SS C Cl X (.put i k e) st := fun csb Fb cs0 F0 H0 D D' ρ h σ cs F H d n w => by
  simp only [agS] at hag
  split at hag
  · rename_i o k' pk x pos
    simp only [Bool.and_eq_true] at hag
    obtain ⟨⟨⟨ha, hk⟩, he⟩, hns⟩ := hag
    unfold agVar at ha
    split at ha
    · rename_i id p'
      simp only [Bool.and_eq_true, decide_eq_true_eq] at ha
      obtain ⟨⟨h1, h2⟩, h3⟩ := ha
      obtain ⟨n1, n2, _⟩ := plainName_ok h3
      simp only [WpS] at w
      split at w
      · rename_i c hc
        obtain ⟨a, e1, m1, m2, r⟩ := n.V.own i _ hc
        have n0 := n.o i _ a hc e1
        refine ws_of (put_ps (pe_var h1 (visB_ok h2) n1 n2) hns) (sE e false x X O.toXOk he _ _ _ _ _ _ _ _ n.S n.V w fun v1 d1 cs1 F1 H1 h1 x1 S1 r1 q1 => ?_)
        refine ⟨_, e1, ?_⟩
        refine sE k false k' X O.toXOk hk _ _ _ _ _ _ _ _ S1 (n.V.step x1) q1 fun v2 d2 cs2 F2 H2 h2 x2 S2 r2 q2 => ?_
        have x12 := x1.trans x2
        have nn := n.step x12 S2
        have hs := r.some
        have m1' : a ∉ cs2 := fun z => hs (x12.m a z m1)
        have m2' : F2 a = none := by
          cases w : F2 a with
          | none => rfl
          | some o => exact absurd (x12.n a m2 (by rw [w]; simp)) hs
        have r' : COk X.K Cl cs2 F2 H2 a c := r.mono x12.f x12.c fun o ho => x12.k a o ho m1
        refine putC_ok (by have := O.units; omega) S2.sub r' r2 (r1.plain.mono x2.f x2.c) q2 fun o c' g1 g2 => ?_
        have z := nn.setO (i := i) (o := o) (c := c') n0 m1' m2' g1 (own_old nn.V hc e1)
        rw [set_self e1] at z
        exact d.nx _ _ _ _ _ _ z g2
      · exact w.elim
    · cases ha
  · cases hag
theorem st_putE {o k e : E} {st : Stmt} (O : SOk C T Cl X) (hag : agS T X.env.scope X.N (.putE o k e) st = true) : SS C Cl X (.putE o k e) st := fun csb Fb cs0 F0 H0 D D' ρ h σ cs F H d n w => by
  simp only [agS] at hag
  split at hag
  · rename_i o' k' pk x pos
    simp only [Bool.and_eq_true] at hag
    obtain ⟨⟨⟨ho, hk⟩, he⟩, hns⟩ := hag
    simp only [WpS] at w
    refine ws_of (put_ps pe_we hns) (sE e false x X O.toXOk he _ _ _ _ _ _ _ _ n.S n.V w fun v1 d1 cs1 F1 H1 h1 x1 S1 r1 q1 => ?_)
    refine sE o false o' X O.toXOk ho _ _ _ _ _ _ _ _ S1 (n.V.step x1) q1 fun v2 d2 cs2 F2 H2 h2 x2 S2 r2 q2 => ?_
    refine sE k false k' X O.toXOk hk _ _ _ _ _ _ _ _ S2 ((n.V.step x1).step x2) q2 fun v3 d3 cs3 F3 H3 h3 x3 S3 r3 q3 => ?_
    split at q3
    · rename_i m
      have r2 := r2.plain
      cases r2 with
      | adr g1 =>
        rename_i a
        have g1' : cs3[m]? = some a := let ⟨_, q⟩ := x3.c; get_pre q g1
        have x23 := x2.trans x3
        exact putC_ok (by have := O.units; omega) S3.sub (S3.cell m a g1') r3 (r1.plain.mono x23.f x23.c) q3 fun o c' k1 k2 =>
          d.nx _ _ _ _ _ _ ((n.step ((x1.trans x2).trans x3) S3).cellSet g1' k1) k2
    · exact q3.elim
  · cases hag

theorem st_fld {o e : E} {f : Str} {st : Stmt} (O : SOk C T Cl X) (hag : agS T X.env.scope X.N (.fld o f e) st = true) : SS C Cl X (.fld o f e) st := fun csb Fb cs0 F0 H0 D D' ρ h σ cs F H d n w => by
  simp only [agS] at hag
  split at hag
  · rename_i o' g pk x pos
    simp only [Bool.and_eq_true, decide_eq_true_eq] at hag
    obtain ⟨⟨rfl, ho⟩, he⟩ := hag
    simp only [WpS] at w
    refine ws_of (ps_fld pe_we pe_we (swaps_other (t := .Attribute o' f pk) (fun _ _ z => by cases z) _ _)) (sE e false x X O.toXOk he _ _ _ _ _ _ _ _ n.S n.V w fun v1 d1 cs1 F1 H1 h1 x1 S1 r1 q1 => ?_)
    refine sE o false o' X O.toXOk ho _ _ _ _ _ _ _ _ S1 (n.V.step x1) q1 fun v2 d2 cs2 F2 H2 h2 x2 S2 r2 q2 => ?_
    split at q2
    · rename_i m
      split at q2
      · rename_i c fs hc
        obtain ⟨hf, hl, q2⟩ := q2
        obtain ⟨a, rfl, e2⟩ := Rep.adr_inv r2.plain
        obtain ⟨dx, fvs, e3, r⟩ := obj_at S2 e2 hc
        refine ⟨a, Cl c, dx, fvs, rfl, e3, (O.fld c f hf).1, (O.fld c f hf).2, by rw [r.length]; exact hl, ?_⟩
        exact d.nx _ _ _ _ _ _ ((n.step (x1.trans x2) S2).cellSet e2 (show COk X.K Cl cs2 F2 _ a (.obj c (putFA f d1 fs)) from ⟨dx, _, upd_same, r.put (r1.plain.mono x2.f x2.c)⟩)) q2
      · exact q2.elim
    · exact q2.elim
  · cases hag
theorem st_ite {c : E} {a b : Ss} {x : Expr} {p q : List Stmt} {pos : Pos} (O : SOk C T Cl X) (hc : agE T X.env.scope X.N c x = true) (ha : SSs C Cl X a p) (hb : SSs C Cl X b q) : SS C Cl X (.ite c a b) (.If x p q pos) := fun csb Fb cs0 F0 H0 D D' ρ h σ cs F H d n w => by
  simp only [WpS] at w
  refine ws_of (ps_if pt_we pss_we pss_we) (sT c x X O.toXOk hc _ _ _ _ _ _ _ _ n.S n.V w fun k cs1 F1 H1 h1 x1 S1 q1 => ?_)
  cases k with
  | true =>
    rw [if_pos rfl] at q1 ⊢
    exact ha _ _ _ _ _ _ _ _ _ _ _ _ _ d (n.step x1 S1) q1
  | false =>
    rw [if_neg Bool.false_ne_true] at q1 ⊢
    exact hb _ _ _ _ _ _ _ _ _ _ _ _ _ d (n.step x1 S1) q1
theorem st_wh {c : E} {b : Ss} {x : Expr} {p : List Stmt} {pos : Pos} (O : SOk C T Cl X) (hc : agE T X.env.scope X.N c x = true) (hb : SSs C Cl X b p) : SS C Cl X (.wh c b) (.While x p [] pos) := fun csb Fb cs0 F0 H0 D D' ρ h σ cs F H d n w => by
  simp only [WpS] at w
  obtain ⟨Wv, ⟨m0, w0⟩, turn⟩ := w
  refine ws_of (ps_while O.pass pt_we pss_we) ⟨fun m σ H => ∃ cs F h ρ, Nt X.K Cl csb Fb cs0 F0 H0 cs F H h σ ρ ∧ Wv m ρ h, ⟨m0, cs, F, h, ρ, n, w0⟩, ?_⟩
  rintro m σ' H' ⟨cs', F', h', ρ', n', w'⟩
  refine sT c x X O.toXOk hc _ _ _ _ _ _ _ _ n'.S n'.V (turn m ρ' h' w') fun k cs1 F1 H1 h1 x1 S1 q1 => ?_
  cases k with
  | true =>
    rw [if_pos rfl] at q1 ⊢
    refine ⟨fun σ H => ∃ m', m' < m ∧ ∃ cs F h ρ, Nt X.K Cl csb Fb cs0 F0 H0 cs F H h σ ρ ∧ Wv m' ρ h, fun σ2 H2 hq => hq, ?_⟩
    refine hb _ _ _ _ _ { D with nx := fun ρ' h' => ∃ m', m' < m ∧ Wv m' ρ' h', ct := fun ρ' h' => ∃ m', m' < m ∧ Wv m' ρ' h', bk := D.nx } _ _ _ _ _ _ _ ⟨?_, d.rt, d.nx, ?_, d.ex⟩ (n'.step x1 S1) q1
    · rintro cs2 F2 H2 h2 σ2 ρ2 n2 ⟨m', hm, w2⟩
      exact ⟨m', hm, cs2, F2, h2, ρ2, n2, w2⟩
    · rintro cs2 F2 H2 h2 σ2 ρ2 n2 ⟨m', hm, w2⟩
      exact ⟨m', hm, cs2, F2, h2, ρ2, n2, w2⟩
  | false =>
    rw [if_neg Bool.false_ne_true] at q1 ⊢
    exact d.nx _ _ _ _ _ _ (n'.step x1 S1) q1
theorem Nt.base (n : Nt K Cl csb Fb cs0 F0 H0 cs F H h σ ρ) : Nt K Cl cs F cs0 F0 H0 cs F H h σ ρ := ⟨n.S, n.V, n.x, n.o, fun _ _ z => z, [], by simp⟩
theorem Nt.unbase {cs1 : List Addr} {F1 : Hp} (n : Nt K Cl cs1 F1 cs0 F0 H0 cs F H h σ ρ) (y : Ex Fb F1 ∧ ∃ r, cs1 = csb ++ r) : Nt K Cl csb Fb cs0 F0 H0 cs F H h σ ρ := ⟨n.S, n.V, n.x, n.o, y.1.trans n.y.1, by
  obtain ⟨r, e⟩ := n.y.2
  obtain ⟨r2, e2⟩ := y.2
  exact ⟨r2 ++ r, by rw [e, e2, List.append_assoc]⟩⟩
theorem nt_tg {σ : L2.St} {ρ : Env} {tg : Tg} {d : AV} {v : L2.V} {Q : Env → Prop} {R : L2.St → Hp → Prop} (n : Nt K Cl csb Fb cs0 F0 H0 cs F H h σ ρ) (r : Rep K cs F v d) (w : tgK tg d ρ Q)
    (k : ∀ σ' ρ', Nt K Cl csb Fb cs0 F0 H0 cs F H h σ' ρ' → Q ρ' → R σ' H) : gOf K tg v σ H R := by
  cases tg with
  | nm i => exact k _ _ (n.setV r) w
  | tup is =>
    obtain ⟨xs, ρ', e, hs2, w⟩ := tgK_tup w
    refine gTL_of n.S.sub r e hs2 fun vs g2 => ?_
    have go : ∀ {is : List Nat} {xs : List AV} {vs : List L2.V} {σ : L2.St} {ρ : Env}, Nt K Cl csb Fb cs0 F0 H0 cs F H h σ ρ → Reps K cs F vs xs → setsS ρ is xs = some ρ' → gNames is vs σ H R := by
      intro is
      induction is with
      | nil =>
        intro xs vs σ ρ n r e
        cases r with
        | nil => simp [setsS] at e; subst e; exact ⟨rfl, k _ _ n w⟩
        | cons _ _ => simp [setsS] at e
      | cons i is ih =>
        intro xs vs σ ρ n r e
        cases r with
        | nil => simp [setsS] at e
        | cons r rs =>
          simp only [setsS] at e
          exact ⟨_, _, rfl, ih (n.setV r) rs e⟩
    exact go n g2 hs2
theorem ext_ps {o y : Expr} {x : Expr} {pos : Pos} {to : TE} (hx : agExt x = some (o, y)) (ho : PE X o to) : PS X (.Expr x pos) (tDrop (tBM X.K "list" rExtend to (tCons (WE X y) tNil))) := by
  unfold agExt at hx
  split at hx
  · rename_i o' nm apos y' cpos
    split at hx
    · rename_i hc
      cases hx
      simp only [Bool.and_eq_true, decide_eq_true_eq] at hc
      obtain ⟨⟨⟨rfl, h2⟩, h3⟩, h4⟩ := hc
      refine ps_expr (pe_bm PySem.F.plainAttrs_list PySem.F.slot_list_extend PySem.F.type_list_extend mt_extend ho (pa_cons pe_we pa_nil (star_cons h4 _ _)) (base_of h2 _ _) ?_ h3 (star_cons h4 _ _) rfl) rfl
      rw [star_cons h4]
      rfl
    · cases hx
  · cases hx
theorem pop_pe {o : Expr} {x : Expr} {to : TE} (hx : agPop x = some o) (ho : PE X o to) : PE X x (tBM0 X.K "list" rPop to) ∧ notComp x = true ∧ (∀ env v, foldedSetIterable x env v = pure v) ∧ (∃ a b c d, x = .Call a b c d) := by
  unfold agPop at hx
  split at hx
  · rename_i o' nm apos cpos
    split at hx
    · rename_i hc
      cases hx
      simp only [Bool.and_eq_true, decide_eq_true_eq] at hc
      obtain ⟨⟨rfl, h2⟩, h3⟩ := hc
      exact ⟨pe_bm0 PySem.F.plainAttrs_list PySem.F.slot_list_pop PySem.F.type_list_pop mt_pop ho (base_of h2 _ _) h3, rfl, fun _ _ => rfl, _, _, _, _, rfl⟩
    · cases hx
  · cases hx
theorem st_ext {i : Nat} {e : E} {st : Stmt} (O : SOk C T Cl X) (hag : agS T X.env.scope X.N (.ext i e) st = true) : SS C Cl X (.ext i e) st := fun csb Fb cs0 F0 H0 D D' ρ h σ cs F H d n w => by
  simp only [agS] at hag
  split at hag
  · rename_i x pos
    split at hag
    · rename_i o y hx
      simp only [Bool.and_eq_true] at hag
      obtain ⟨ha, he⟩ := hag
      unfold agVar at ha
      split at ha
      · rename_i id p'
        simp only [Bool.and_eq_true, decide_eq_true_eq] at ha
        obtain ⟨⟨h1, h2⟩, h3⟩ := ha
        obtain ⟨n1, n2, _⟩ := plainName_ok h3
        simp only [WpS] at w
        have po : PE X (.Name id p') (fun σ H Q => ∃ v, σ[i]? = some (some v) ∧ Q v H) := pe_var h1 (visB_ok h2) n1 n2
        split at w
        · rename_i xs hc
          obtain ⟨a, e1, m1, m2, vs, e2, r⟩ := n.V.own i _ hc
          have n0 := n.o i _ a hc e1
          refine ws_of (ext_ps hx po) ⟨_, e1, .inl ⟨rfl, vs, sq_of e2⟩, ?_⟩
          refine sE e true y X O.toXOk he _ _ _ _ _ _ _ _ n.S n.V w fun v1 d1 cs1 F1 H1 h1 x1 S1 r1 q1 => ?_
          have nn := n.step x1 S1
          have e2' : H1 a = some (.lst vs) := x1.k _ _ e2 m1
          have m1' : a ∉ cs1 := fun z => by have := x1.m a z m1; rw [e2] at this; cases this
          have m2' : F1 a = none := by
            cases w : F1 a with
            | none => rfl
            | some o =>
              have z := x1.n a m2 (by rw [w]; simp)
              rw [e2] at z; cases z
          split at q1
          · rename_i ys hy
            obtain ⟨b, ws, rfl, eb, rb⟩ := r1.viewW S1 hy
            refine ⟨a, b, vs, ws, rfl, rfl, e2', eb, by rw [r.length, rb.length]; exact q1.1, ?_⟩
            have z := nn.setO (i := i) (o := .lst (vs ++ ws)) (c := .lst (xs ++ ys)) n0 m1' m2' ⟨_, upd_same, (r.mono x1.f x1.c).append rb⟩ (own_old nn.V hc e1)
            rw [set_self e1] at z
            exact d.nx _ _ _ _ _ _ z q1.2
          · exact q1.elim
        · exact w.elim
      · cases ha
    · cases hag
  · cases hag
theorem st_extE {o e : E} {st : Stmt} (O : SOk C T Cl X) (hag : agS T X.env.scope X.N (.extE o e) st = true) : SS C Cl X (.extE o e) st := fun csb Fb cs0 F0 H0 D D' ρ h σ cs F H d n w => by
  simp only [agS] at hag
  split at hag
  · rename_i x pos
    split at hag
    · rename_i o' y hx
      simp only [Bool.and_eq_true] at hag
      simp only [WpS] at w
      refine ws_of (ext_ps hx pe_we) (sE o false o' X O.toXOk hag.1 _ _ _ _ _ _ _ _ n.S n.V w fun v1 d1 cs1 F1 H1 h1 x1 S1 r1 q1 => ?_)
      have n1 := n.step x1 S1
      split at q1
      · rename_i m
        split at q1
        · rename_i xs0 hc0
          have r1 := r1.plain
          cases r1 with
          | adr g1 =>
            rename_i a
            obtain ⟨vs0, g2, g3⟩ := cell_at S1 g1 hc0
            refine ⟨.inl ⟨rfl, vs0, sq_of g2⟩, ?_⟩
            refine sE e true y X O.toXOk hag.2 _ _ _ _ _ _ _ _ S1 n1.V q1 fun v2 d2 cs2 F2 H2 h2 x2 S2 r2 q2 => ?_
            have n2 := n1.step x2 S2
            split at q2
            · rename_i xs hc
              have g1' : cs2[m]? = some a := let ⟨_, q⟩ := x2.c; get_pre q g1
              obtain ⟨vs, k1, k2⟩ := cell_at S2 g1' hc
              split at q2
              · rename_i ys hy
                obtain ⟨b, ws, rfl, eb, rb⟩ := r2.viewW S2 hy
                refine ⟨a, b, vs, ws, rfl, rfl, k1, eb, by rw [k2.length, rb.length]; exact q2.1, ?_⟩
                exact d.nx _ _ _ _ _ _ (n2.cellSet g1' (show COk X.K Cl cs2 F2 _ a (.lst (xs ++ ys)) from ⟨_, upd_same, k2.append rb⟩)) q2.2
              · exact q2.elim
            · exact q2.elim
        · exact q1.elim
      · exact q1.elim
    · cases hag
  · cases hag
theorem reps_dropLast {K : PySem.W.Frag} {cs : List Addr} {F : Hp} {vs : List L2.V} {xs : List AV} (r : Reps K cs F vs xs) : Reps K cs F vs.dropLast xs.dropLast := by
  rw [List.dropLast_eq_take, List.dropLast_eq_take, r.length]
  exact r.take _
theorem st_popS {i : Nat} {st : Stmt} (O : SOk C T Cl X) (hag : agS T X.env.scope X.N (.popS i) st = true) : SS C Cl X (.popS i) st := fun csb Fb cs0 F0 H0 D D' ρ h σ cs F H d n w => by
  simp only [agS] at hag
  split at hag
  · rename_i x pos
    split at hag
    · rename_i o hx
      unfold agVar at hag
      split at hag
      · rename_i id p'
        simp only [Bool.and_eq_true, decide_eq_true_eq] at hag
        obtain ⟨⟨h1, h2⟩, h3⟩ := hag
        obtain ⟨n1, n2, _⟩ := plainName_ok h3
        simp only [WpS] at w
        have po : PE X (.Name id p') (fun σ H Q => ∃ v, σ[i]? = some (some v) ∧ Q v H) := pe_var h1 (visB_ok h2) n1 n2
        obtain ⟨p1, p2, _, _⟩ := pop_pe hx po
        split at w
        · rename_i xs hc
          obtain ⟨a, e1, m1, m2, vs, e2, r⟩ := n.V.own i _ hc
          have n0 := n.o i _ a hc e1
          have hl : xs.length - 1 < xs.length := by
            have := List.length_pos_iff.mpr w.1
            omega
          obtain ⟨v, hv, _⟩ := r.get (List.getElem?_eq_getElem hl)
          rw [← r.length] at hv
          refine ws_of (ps_expr p1 (swaps_plain p2 _ _ _)) ⟨_, e1, .inl ⟨rfl, vs, sq_of e2⟩, a, vs, v, rfl, rfl, e2, hv, ?_⟩
          have z := n.setO (i := i) (o := .lst vs.dropLast) (c := .lst xs.dropLast) n0 m1 m2 ⟨_, upd_same, reps_dropLast r⟩ (own_old n.V hc e1)
          rw [set_self e1] at z
          exact d.nx _ _ _ _ _ _ z w.2
        · exact w.elim
      · cases hag
    · cases hag
  · cases hag
theorem st_popA {tg : Tg} {i : Nat} {st : Stmt} (O : SOk C T Cl X) (hag : agS T X.env.scope X.N (.popA tg i) st = true) : SS C Cl X (.popA tg i) st := fun csb Fb cs0 F0 H0 D D' ρ h σ cs F H d n w => by
  simp only [agS] at hag
  split at hag
  · rename_i t x pos
    split at hag
    · rename_i o hx
      simp only [Bool.and_eq_true] at hag
      obtain ⟨hag, ht⟩ := hag
      unfold agVar at hag
      split at hag
      · rename_i id p'
        simp only [Bool.and_eq_true, decide_eq_true_eq] at hag
        obtain ⟨⟨h1, h2⟩, h3⟩ := hag
        obtain ⟨n1, n2, _⟩ := plainName_ok h3
        simp only [WpS] at w
        have po : PE X (.Name id p') (fun σ H Q => ∃ v, σ[i]? = some (some v) ∧ Q v H) := pe_var h1 (visB_ok h2) n1 n2
        obtain ⟨p1, p2, _, ca, cb, cc, cd, rfl⟩ := pop_pe hx po
        split at w
        · rename_i xs hc
          split at w
          · rename_i dd hl
            obtain ⟨a, e1, m1, m2, vs, e2, r⟩ := n.V.own i _ hc
            have n0 := n.o i _ a hc e1
            obtain ⟨v, hv, rv⟩ := r.get (by rw [← List.getLast?_eq_getElem?]; exact hl)
            rw [← r.length] at hv
            have z := n.setO (i := i) (o := .lst vs.dropLast) (c := .lst xs.dropLast) n0 m1 m2 ⟨_, upd_same, reps_dropLast r⟩ (own_old n.V hc e1)
            rw [set_self e1] at z
            have goal : tBM0 X.K "list" rPop (fun σ H Q => ∃ v, σ[i]? = some (some v) ∧ Q v H) σ H (fun v H1 => gOf X.K tg v σ H1 D'.nx) :=
              ⟨_, e1, .inl ⟨rfl, vs, sq_of e2⟩, a, vs, v, rfl, rfl, e2, hv, nt_tg z rv w fun σ' ρ' n' q => d.nx _ _ _ _ _ _ n' q⟩
            cases tg with
            | nm j =>
              simp only [agTg] at ht
              split at ht
              · rename_i id2 p2'
                simp only [Bool.and_eq_true, decide_eq_true_eq] at ht
                obtain ⟨s1, s2⟩ := O.sto id2 ht.2
                exact ws_of (ps_set O.nd ht.1 s1 p1 (swaps_plain rfl _ _ _) s2) goal
              · cases ht
            | tup is =>
              have hw : swappedStores [t] (.Call ca cb cc cd) X.env = pure none := by
                cases t <;> first | (simp [agTg] at ht; done) | rfl
              have hs : swapsWithSole [t] (.Call ca cb cc cd) pos.line X.env = pure false := rfl
              exact ws_of (ps_asg p1 (pg_ok O.nd O.calm O.sto ht) hs hw (by cases t <;> first | (simp [agTg] at ht; done) | rfl)) goal
          · exact w.elim
        · exact w.elim
      · cases hag
    · cases hag
  · cases hag
theorem st_for {tg : Tg} {it : It} {b : Ss} {t x : Expr} {p : List Stmt} {pos : Pos} (O : SOk C T Cl X) (ht : agTg X.env.scope X.env.scope X.N tg t = true) (hi : agI T X.env.scope X.N it x = true) (hzz : zipOk it t = true) (hs : notSet x = true) (ho : ∀ i, it ≠ .own i)
    (hb : SSs C Cl X b p) : SS C Cl X (.for tg it b) (.For t x p [] pos) := fun csb Fb cs0 F0 H0 D D' ρ h σ cs F H d n w => by
  simp only [WpS] at w
  refine ws_of (ps_for O.pass O.calm pi_we (pg_ok O.nd O.calm O.sto ht) pss_we (folded_of hs _)) ?_
  refine sI it false t x X O.toXOk hi (fun ⟨i, e⟩ => absurd e (ho i)) hzz _ _ _ _ _ _ _ _ n.S n.V w fun J items chk G Y cs1 F1 H1 h1 x1 S1 wk hG hY q1 => ?_
  have n1 := n.step x1 S1
  refine for_it wk (fun i σ' H' => ∃ cs2 F2 h2 ρ2, Nt X.K Cl cs1 F1 cs0 F0 H0 cs2 F2 H' h2 σ' ρ2 ∧ forL (fun x D ρ h => tgK tg x ρ fun ρ' => WpSs C b D ρ' h) chk D (items.drop i) ρ2 h2) ?_ ?_ ?_ ?_
  · exact ⟨cs1, F1, h1, ρ, n1.base, q1⟩
  · rintro i σ' H' hi ⟨cs2, F2, h2, ρ2, n2, q2⟩
    refine hG cs2 F2 H' h2 n2.y n2.S ?_
    cases hd : items.drop i with
    | nil => rw [hd] at q2; exact q2.1
    | cons z r => rw [hd] at q2; exact q2.1
  · rintro i v σ' H' H3 hi ⟨cs2, F2, h2, ρ2, n2, q2⟩ hy
    rw [List.drop_eq_getElem_cons hi] at q2
    obtain ⟨ck, q2⟩ := q2
    obtain ⟨F3, x3, S3, rv⟩ := hY i H' v H3 cs2 F2 h2 _ n2.S n2.y.1 n2.y.2 (List.getElem?_eq_getElem hi) ck hy
    have n3 := n2.step x3 S3
    refine nt_tg n3 rv q2 fun σ4 ρ4 n4 q4 => ?_
    refine hb _ _ _ _ _ { D with nx := forL (fun x D ρ h => tgK tg x ρ fun ρ' => WpSs C b D ρ' h) chk D (items.drop (i + 1)), ct := forL (fun x D ρ h => tgK tg x ρ fun ρ' => WpSs C b D ρ' h) chk D (items.drop (i + 1)), bk := D.nx } _ _ _ _ _ _ _ ⟨?_, d.rt, ?_, ?_, d.ex.imp fun W z => ⟨z.1, fun c n cs F H h σ ρ n5 => z.2 c n cs F H h σ ρ (n5.unbase n1.y)⟩⟩ n4 q4
    · intro cs5 F5 H5 h5 σ5 ρ5 n5 q5
      exact ⟨cs5, F5, h5, ρ5, n5, q5⟩
    · intro cs5 F5 H5 h5 σ5 ρ5 n5 q5
      exact d.nx _ _ _ _ _ _ (n5.unbase n1.y) q5
    · intro cs5 F5 H5 h5 σ5 ρ5 n5 q5
      exact ⟨cs5, F5, h5, ρ5, n5, q5⟩
  · rintro σ' H' ⟨cs2, F2, h2, ρ2, n2, q2⟩
    rw [List.drop_of_length_le (Nat.le_refl _)] at q2
    exact d.nx _ _ _ _ _ _ (n2.unbase n1.y) q2.2
end

/-! ### raise -/
section
variable {C : Ctx} {T : Tab} {Cl : Nat → Addr} {X : Cx}
theorem upd_twice {H : Hp} {a : Addr} {o o2 : HO} : upd (upd H a o) a o2 = upd H a o2 := by
  funext b
  unfold upd
  split <;> rfl
theorem st_rse {c : Nat} {e : E} {st : Stmt} (O : SOk C T Cl X) (hag : agS T X.env.scope X.N (.rse c e) st = true) : SS C Cl X (.rse c e) st := fun csb Fb cs0 F0 H0 D D' ρ h σ cs F H d n w => by
  simp only [agS] at hag
  split at hag
  · rename_i x p a cpos pos
    simp only [Bool.and_eq_true, decide_eq_true_eq] at hag
    obtain ⟨⟨⟨⟨h1, h2⟩, h3⟩, h4⟩, h5⟩ := hag
    have M := O.exc c x h1
    obtain ⟨fI, k, fd, i1, i2, F1, room, bnd⟩ := M.ini
    obtain ⟨W, tk, hW⟩ := d.ex
    have ha : PA X [a] (tCons (WE X a) tNil) := pa_cons pe_we pa_nil (star_cons h4 _ _)
    have P1 := pmk_oex (p := p) (pos := cpos) (CX := CX0) M.ox i1 i2 F1 room bnd (dvs := []) .nil (fun _ _ _ _ _ _ _ z => False.elim z) (glB_ok h2) M.mg ha (plainName_ok h3).1 (star_cons h4 _ _) rfl
    refine ws_of (ps_raise O.calm tk P1) ?_
    simp only [WpS] at w
    refine sE e false a X O.toXOk h5 _ _ _ _ _ _ _ _ n.S n.V w fun v1 d1 cs1 F1 H1 h1 x1 S1 r1 q1 => ?_
    split at q1
    · rename_i z
      cases r1.int
      refine ⟨by simp, fun a0 ha0 => ?_⟩
      refine ⟨a0, Cl c, z, by simp, M.ox, M.row, upd_same, fun dx hdx hne => ⟨rfl, dx, [("row", .int z)], upd_same, ?_, ?_, ?_⟩⟩
      · rw [upd_ne hne, upd_same]
      · rw [upd_ne hne] at hdx; exact hdx
      · rw [upd_ne hne] at hdx
        have e2 : upd (del (upd (upd (upd H1 a0 (exo a0 (Cl c) none)) dx (exd dx [("row", .int z)])) a0 (exo a0 (Cl c) (some dx))) a0) dx (.xd [("row", .int z)]) = upd H1 dx (.xd [("row", .int z)]) := by
          funext b
          by_cases hb : b = dx
          · subst hb; rw [upd_same, upd_same]
          · rw [upd_ne hb, upd_ne hb]
            by_cases hc : b = a0
            · subst hc; rw [del_same, ha0]
            · rw [del_ne hc, upd_ne hc, upd_ne hb, upd_ne hc]
        have := hW c z _ _ _ _ _ _ (n.step x1 S1) q1 dx hdx
        rw [← e2] at this
        exact this
    · exact q1.elim
  · cases hag
end

/-! ### every statement that agrees -/
section
variable {C : Ctx} {T : Tab} {Cl : Nat → Addr} {X : Cx}
theorem agSs_cons {sc : Scope} {N : List Str} {s : S} {r : Ss} {st : List Stmt} (h : agSs T sc N (.cons s r) st = true) : (∃ i, s = .frz i ∧ agSs T sc N r st = true) ∨ ∃ x xs, st = x :: xs ∧ agS T sc N s x = true ∧ agSs T sc N r xs = true := by
  cases s with
  | frz i => exact .inl ⟨i, rfl, by simpa only [agSs] using h⟩
  | _ =>
    right
    cases st with
    | nil => simp [agSs] at h
    | cons x xs =>
      simp only [agSs, Bool.and_eq_true] at h
      exact ⟨_, _, rfl, h.1, h.2⟩
mutual
theorem sS (O : SOk C T Cl X) (hk : X.env.scope.kind = .function) : ∀ (s : S) (st : Stmt), agS T X.env.scope X.N s st = true → SS C Cl X s st
  | .asg tg e, st, h => st_asg O hk h
  | .asgO i n, st, h => st_asgO O hk h
  | .frz i, st, h => by simp [agS] at h
  | .par i j a b, st, h => st_par O hk h
  | .aug i op e, st, h => st_aug O h
  | .app i e, st, h => st_app O h
  | .appE o e, st, h => st_appE O h
  | .ext i e, st, h => st_ext O h
  | .extE o e, st, h => st_extE O h
  | .popS i, st, h => st_popS O h
  | .popA tg i, st, h => st_popA O h
  | .put i k e, st, h => st_put O h
  | .putE o k e, st, h => st_putE O h
  | .fld o f e, st, h => st_fld O h
  | .expr e, st, h => fun csb Fb cs0 F0 H0 D D' ρ h' σ cs F H d n w => by
    simp only [agS] at h
    split at h
    · simp only [Bool.and_eq_true] at h
      simp only [WpS] at w
      exact ws_of (ps_expr pe_we (swaps_plain h.2 _ _ _)) (sE e false _ X O.toXOk h.1 _ _ _ _ _ _ _ _ n.S n.V w fun v1 d1 cs1 F1 H1 h1 x1 S1 r1 q1 => d.nx _ _ _ _ _ _ (n.step x1 S1) q1)
    · cases h
  | .ret e, st, h => fun csb Fb cs0 F0 H0 D D' ρ h' σ cs F H d n w => by
    simp only [agS] at h
    split at h
    · simp only [WpS] at w
      exact ws_of (ps_ret pe_we) (sE e false _ X O.toXOk h _ _ _ _ _ _ _ _ n.S n.V w fun v1 d1 cs1 F1 H1 h1 x1 S1 r1 q1 => d.rt _ _ _ _ _ _ (n.x.trans x1) S1 r1.plain q1)
    · cases h
  | .retN, st, h => fun csb Fb cs0 F0 H0 D D' ρ h' σ cs F H d n w => by
    simp only [agS] at h
    split at h
    · simp only [WpS] at w
      exact ws_of ps_retN (d.rt _ _ _ _ _ _ n.x n.S .non w)
    · cases h
  | .ite c a b, st, h => by
    simp only [agS] at h
    split at h
    · simp only [Bool.and_eq_true] at h
      exact st_ite O h.1.1 (sSs O hk a _ h.1.2) (sSs O hk b _ h.2)
    · cases h
  | .wh c b, st, h => by
    simp only [agS] at h
    split at h
    · simp only [Bool.and_eq_true] at h
      exact st_wh O h.1 (sSs O hk b _ h.2)
    · cases h
  | .for tg it b, st, h => by
    simp only [agS] at h
    split at h
    · simp only [Bool.and_eq_true] at h
      obtain ⟨⟨⟨⟨⟨h1, h2⟩, hzz⟩, h3⟩, h4⟩, h5⟩ := h
      refine st_for O h1 h2 hzz h3 ?_ (sSs O hk b _ h5)
      intro i e
      subst e
      cases h4
    · cases h
  | .pass, st, h => fun csb Fb cs0 F0 H0 D D' ρ h' σ cs F H d n w => by
    simp only [agS] at h
    split at h
    · simp only [WpS] at w
      exact ws_of ps_pass (d.nx _ _ _ _ _ _ n w)
    · cases h
  | .brk, st, h => fun csb Fb cs0 F0 H0 D D' ρ h' σ cs F H d n w => by
    simp only [agS] at h
    split at h
    · simp only [WpS] at w
      exact ws_of ps_break (d.bk _ _ _ _ _ _ n w)
    · cases h
  | .cont, st, h => fun csb Fb cs0 F0 H0 D D' ρ h' σ cs F H d n w => by
    simp only [agS] at h
    split at h
    · simp only [WpS] at w
      exact ws_of ps_continue (d.ct _ _ _ _ _ _ n w)
    · cases h
  | .bad, st, h => fun csb Fb cs0 F0 H0 D D' ρ h' σ cs F H d n w => by
    simp only [WpS] at w
  | .rse c e, st, h => st_rse O h
theorem sSs (O : SOk C T Cl X) (hk : X.env.scope.kind = .function) : ∀ (s : Ss) (st : List Stmt), agSs T X.env.scope X.N s st = true → SSs C Cl X s st
  | .nil, st, h => fun csb Fb cs0 F0 H0 D D' ρ h' σ cs F H d n w => by
    simp only [agSs] at h
    split at h
    · simp only [WpSs] at w
      exact wss_of pss_nil (d.nx _ _ _ _ _ _ n w)
    · cases h
  | .cons s r, st, h => fun csb Fb cs0 F0 H0 D D' ρ h' σ cs F H d n w => by
    simp only [WpSs] at w
    rcases agSs_cons h with ⟨i, rfl, h⟩ | ⟨x, xs, rfl, h1, h2⟩
    · simp only [WpS] at w
      split at w
      · rename_i xs hx
        obtain ⟨F', n'⟩ := n.frz hx
        exact sSs O hk r st h _ _ _ _ _ _ _ _ _ _ _ _ _ d n' w
      · rename_i xs hx
        obtain ⟨a, us, ea, lk⟩ := n.frzD hx
        intro pins s I
        obtain ⟨od, I2⟩ := I.lock ea trivial
        obtain ⟨F', n'⟩ := lk od
        exact sSs O hk r st h _ _ _ _ _ _ _ _ _ _ _ _ _ d n' w pins s I2
      · exact w.elim
    · refine wss_of (pss_cons ps_we pss_we) (sS O hk s _ h1 _ _ _ _ _ _ { D' with nx := WSs X _ D' } _ _ _ _ _ _ (d.seq fun cs2 F2 H2 h2' σ2 ρ2 n2 q2 => ?_) n w)
      exact sSs O hk r _ h2 _ _ _ _ _ _ _ _ _ _ _ _ _ d n2 q2
end
end
end VL

set_option maxRecDepth 100000
set_option maxHeartbeats 4000000
/-! VL: defs that try a call. -/
namespace VL
open PySem L2 Evl PyProof.Rows PySem.Spec
/-! ### what a clause lays -/
inductive Grow : Hp → Hp → Prop where
  | refl {H : Hp} : Grow H H
  | new {H H' : Hp} {p : Addr} {o : HO} : Grow H H' → H' p = none → Grow H (upd H' p o)
theorem Grow.trans {H H' H'' : Hp} (g : Grow H H') (k : Grow H' H'') : Grow H H'' := by
  induction k with
  | refl => exact g
  | new _ h ih => exact .new ih h
theorem Grow.keep {H H' : Hp} (g : Grow H H') {b : Addr} {o : HO} (e : H b = some o) : H' b = some o := by
  induction g with
  | refl => exact e
  | @new H' p o' _ h ih =>
    have : b ≠ p := fun z => by subst z; rw [ih] at h; cases h
    rw [upd_ne this]; exact ih
theorem Grow.step {K : PySem.W.Frag} {Cl : Nat → Addr} {cs : List Addr} {F H H' : Hp} {h : AHeap} (g : Grow H H') (S : StOk K Cl cs F H h) : StOk K Cl cs F H' h ∧ Stp cs F H cs F H' := by
  induction g with
  | refl => exact ⟨S, .refl⟩
  | new _ hp ih => exact ⟨ih.1.newN hp, ih.2.trans (Stp.newN hp)⟩
/-! ### agreement -/
def agEv (sc : Scope) (N : List Str) (i : Nat) (x : Expr) : Bool := match x with
  | .Name id _ => decide (N[i]? = some id) && decide (sc.names.lookup id = some .local) && plainName id
  | _ => false
def agXs (T : Tab) (sc : Scope) : List Nat → List Expr → Bool
  | [], xs => match xs with
    | [] => true
    | _ => false
  | d :: ds, xs => match xs with
    | .Name id _ :: r => decide (T.xname d = some id) && glB sc id && plainName id && agXs T sc ds r
    | _ => false
def agHB (T : Tab) (sc : Scope) (N : List Str) (i : Nat) : HB → Expr → Bool
  | .isC d, x => match x with
    | .Call (.Name id _) [y, .Name id2 _] [] _ => decide (id = "isinstance") && glB sc id && agEv sc N i y && notStar y && decide (T.xname d = some id2) && glB sc id2 && plainName id2
    | _ => false
  | .isT ds, x => match x with
    | .Call (.Name id _) [y, .Tuple xs _ _] [] _ => decide (id = "isinstance") && glB sc id && agEv sc N i y && notStar y && agXs T sc ds xs && decide (ds.length < 100)
    | _ => false
  | .isVE, x => match x with
    | .Call (.Name id _) [y, .Name id2 _] [] _ => decide (id = "isinstance") && glB sc id && agEv sc N i y && notStar y && decide (id2 = "ValueError") && glB sc id2
    | _ => false
  | .row, x => match x with
    | .Call (.Name id _) [.Attribute y f _, .Name id2 _] [] _ => decide (id = "isinstance") && glB sc id && agEv sc N i y && notSup y && decide (f = "row") && decide (id2 = "bool") && glB sc id2
    | _ => false
  | .and a b, x => match x with
    | .BoolOp .And (y :: z :: rest) p => agHB T sc N i a y && agHB T sc N i b (tail2 .And z p rest)
    | _ => false
  | .or a b, x => match x with
    | .BoolOp .Or (y :: z :: rest) p => agHB T sc N i a y && agHB T sc N i b (tail2 .Or z p rest)
    | _ => false
  | .not a, x => match x with
    | .UnaryOp .Not y _ => agHB T sc N i a y
    | _ => false
def agRow (sc : Scope) (N : List Str) (i : Nat) (x : Expr) : Bool := match x with
  | .Attribute y f _ => agEv sc N i y && notSup y && decide (f = "row")
  | _ => false
def agHE (T : Tab) (sc : Scope) (N : List Str) (i : Nat) : HE → Expr → Bool
  | .non, x => match x with
    | .Constant .none _ _ => true
    | _ => false
  | .bl b, x => match x with
    | .Constant (.bool j) _ _ => decide (b = j)
    | _ => false
  | .row, x => agRow sc N i x
  | .hb b, x => agHB T sc N i b x
  | .pair z, x => match x with
    | .Tuple [.Constant (.str y) _ _, w] _ _ => decide (z = y) && agRow sc N i w && notStar w
    | _ => false
def agGs (T : Tab) (sc : Scope) (N : List Str) (i : Nat) (fin : Option HE) : List (HB × HE) → List Stmt → Bool
  | [], st => match fin with
    | none => match st with
      | [] => true
      | _ => false
    | some e => match st with
      | [.Return (some x) _] => agHE T sc N i e x
      | _ => false
  | (b, e) :: r, st => match st with
    | .If t [.Return (some x) _] [] _ :: st' => agHB T sc N i b t && agHE T sc N i e x && agGs T sc N i fin r st'
    | _ => false
/-- what the written part says of a caught class -/
structure Cau (K : PySem.W.Frag) (P : Prg) (Cl : Nat → Addr) (c : Nat) : Prop where
  D : ExcD K (Cl c)
  F : XfC K (Cl c)
  row : PySem.W.findIn K (.ref (Cl c)) "row" = some none
  ve : PySem.W.kitOne K (.ref (Cl c)) (.type "ValueError") = some true
  sub : ∀ d b, P.sub.lookup (c, d) = some b → PySem.W.kitOne K (.ref (Cl c)) (.ref (Cl d)) = some b
section
variable {T : Tab} {Cl : Nat → Addr} {X : Cx} {P : Prg} {a dd : Addr} {oe : Obj} {pn : List (Addr × Obj)} {c i : Nat} {n : Int}
theorem agXs_ok (hx : ∀ d x, T.xname d = some x → X.mg x = some (.ref (Cl d))) : ∀ (ds : List Nat) (xs : List Expr), agXs T X.env.scope ds xs = true →
    ∃ t : TA, PA (X.suite a ((a, oe) :: pn)) xs t ∧ ∀ σ H Q, Q (ds.map fun d => V.ref (Cl d)) H → t σ H Q
  | [], xs, h => by
    simp only [agXs] at h
    split at h
    · exact ⟨_, pa_nil, fun σ H Q q => q⟩
    · cases h
  | d :: ds, xs, h => by
    simp only [agXs] at h
    split at h
    · rename_i id p xs
      simp only [Bool.and_eq_true, decide_eq_true_eq] at h
      obtain ⟨⟨⟨h1, h2⟩, h3⟩, h4⟩ := h
      obtain ⟨t, pt, ht⟩ := agXs_ok hx ds xs h4
      have p1 : PE (X.suite a ((a, oe) :: pn)) (.Name id p) (tC (.ref (Cl d))) := pe_glob (X := X.suite a ((a, oe) :: pn)) (glB_ok (X := X.suite a ((a, oe) :: pn)) h2) (hx d id h1) rfl (plainName_ok h3).1
      exact ⟨_, pa_cons p1 pt rfl, fun σ H Q q => ht _ _ _ q⟩
    · cases h
theorem agEv_ok {y : Expr} (h : agEv X.env.scope X.N i y = true) : PE (X.suite a ((a, oe) :: pn)) y (tVar i) := by
  unfold agEv at h
  split at h
  · rename_i id p
    simp only [Bool.and_eq_true, decide_eq_true_eq] at h
    obtain ⟨⟨h1, h2⟩, h3⟩ := h
    obtain ⟨n1, n2, _⟩ := plainName_ok h3
    exact pe_var (X := X.suite a ((a, oe) :: pn)) h1 (visB_ok (by unfold visB; rw [h2])) n1 n2
  · cases h
theorem any_kit (C : Cau X.K P Cl c) : ∀ (ds : List Nat) (k : Bool), hbV.anyT P c ds = some k → PySem.W.kitAny X.K (.ref (Cl c)) (ds.map fun d => Value.ref (Cl d)) = some k
  | [], k, h => h
  | d :: ds, k, h => by
    unfold hbV.anyT at h
    rw [List.map_cons]
    unfold PySem.W.kitAny
    split at h
    · rename_i e
      rw [C.sub d true e]; exact h
    · rename_i e
      rw [C.sub d false e]; exact any_kit C ds k h
    · cases h
theorem cls_all : ∀ ds : List Nat, Paired ClsV (ds.map fun d => V.ref (Cl d)) (ds.map fun d => Value.ref (Cl d))
  | [] => .nil
  | d :: ds => .cons (.own _) (cls_all ds)
/-- what a clause's tests need -/
structure Bf (T : Tab) (Cl : Nat → Addr) (X : Cx) : Prop where
  blt : ∀ x, x ∈ bltNames → X.mg x = none
  ve : X.mg "ValueError" = none
  xn : ∀ d x, T.xname d = some x → X.mg x = some (.ref (Cl d))
def leafB : HB → Bool
  | .and _ _ => false
  | .or _ _ => false
  | .not _ => false
  | _ => true
theorem hb_leaf (B : Bf T Cl X) (C : Cau X.K P Cl c) (hz : Zc (.ref (Cl c)) (some dd) oe) (hf : ∃ vs, oe.data = .fields vs) {σ : L2.St} {H : Hp} {Q : VK} (hσ : σ[i]? = some (some (.ref a))) (hd : H dd = some (.xd [("row", .int n)])) :
    ∀ (b : HB) (x : Expr) (k : Bool), leafB b = true → agHB T X.env.scope X.N i b x = true → hbV P c b = some k → (∀ H', Grow H H' → Q (.bl k) H') → WE (X.suite a ((a, oe) :: pn)) x σ H Q
  | .isC d, x, k, _, h, hk, q => by
    simp only [agHB] at h
    split at h
    · rename_i id p1 y id2 p2 pos
      simp only [Bool.and_eq_true, decide_eq_true_eq] at h
      obtain ⟨⟨⟨⟨⟨⟨rfl, h1⟩, h2⟩, hs⟩, h3⟩, h4⟩, h5⟩ := h
      have pt : PE (X.suite a ((a, oe) :: pn)) (.Name id2 p2) (tC (.ref (Cl d))) := pe_glob (X := X.suite a ((a, oe) :: pn)) (glB_ok (X := X.suite a ((a, oe) :: pn)) h4) (B.xn d id2 h3) rfl (plainName_ok h5).1
      exact we_of (pe_callB (X := X.suite a ((a, oe) :: pn)) (call_isX C.D hz hf) (glB_ok (X := X.suite a ((a, oe) :: pn)) h1) (B.blt _ (by decide +kernel)) (by decide +kernel) (pa_cons (agEv_ok h2) (pa_cons pt pa_nil) (star_cons hs _ _)) (by decide +kernel) (by decide +kernel) (star_cons hs _ _))
        ⟨_, hσ, _, .ref (Cl d), k, _, rfl, fun u r => r, C.sub d k hk, hd, q _ .refl⟩
    · cases h
  | .isT ds, x, k, _, h, hk, q => by
    simp only [agHB] at h
    split at h
    · rename_i id p1 y xs tk tp pos
      simp only [Bool.and_eq_true, decide_eq_true_eq] at h
      obtain ⟨⟨⟨⟨⟨rfl, h1⟩, h2⟩, hs⟩, h3⟩, h4⟩ := h
      obtain ⟨t, pt, ht⟩ := agXs_ok (oe := oe) (pn := pn) (a := a) B.xn ds xs h3
      refine we_of (pe_callB (X := X.suite a ((a, oe) :: pn)) (call_isXT C.D hz hf) (glB_ok (X := X.suite a ((a, oe) :: pn)) h1) (B.blt _ (by decide +kernel)) (by decide +kernel) (pa_cons (agEv_ok h2) (pa_cons (pe_tup pt) pa_nil rfl) (star_cons hs _ _)) (by decide +kernel) (by decide +kernel) (star_cons hs _ _))
        ⟨_, hσ, ht _ _ _ ⟨by rw [List.length_map, sizeLine_eq]; omega, fun p hp => ?_⟩⟩
      have ne : dd ≠ p := fun z => by subst z; rw [hd] at hp; cases hp
      exact ⟨p, _, _, k, _, rfl, upd_same, cls_all ds, any_kit C ds k hk, by rw [upd_ne ne]; exact hd, q _ (.new .refl hp)⟩
    · cases h
  | .isVE, x, k, _, h, hk, q => by
    simp only [agHB] at h
    split at h
    · rename_i id p1 y id2 p2 pos
      simp only [Bool.and_eq_true, decide_eq_true_eq] at h
      obtain ⟨⟨⟨⟨⟨rfl, h1⟩, h2⟩, hs⟩, rfl⟩, h4⟩ := h
      have pt : PE (X.suite a ((a, oe) :: pn)) (.Name "ValueError" p2) (tC (.ty "ValueError")) := pe_bltn (X := X.suite a ((a, oe) :: pn)) (u := .type "ValueError") (glB_ok (X := X.suite a ((a, oe) :: pn)) h4) B.ve (by decide +kernel) rfl (by decide +kernel) (by decide +kernel)
      unfold hbV at hk
      cases hk
      exact we_of (pe_callB (X := X.suite a ((a, oe) :: pn)) (call_isX C.D hz hf) (glB_ok (X := X.suite a ((a, oe) :: pn)) h1) (B.blt _ (by decide +kernel)) (by decide +kernel) (pa_cons (agEv_ok h2) (pa_cons pt pa_nil) (star_cons hs _ _)) (by decide +kernel) (by decide +kernel) (star_cons hs _ _))
        ⟨_, hσ, _, .type "ValueError", true, _, rfl, fun u r => (ClsV.ty _).eq r, C.ve, hd, q _ .refl⟩
    · cases h
  | .row, x, k, _, h, hk, q => by
    simp only [agHB] at h
    split at h
    · rename_i id p1 y f pf id2 p2 pos
      simp only [Bool.and_eq_true, decide_eq_true_eq] at h
      obtain ⟨⟨⟨⟨⟨⟨rfl, h1⟩, h2⟩, hs⟩, rfl⟩, rfl⟩, h4⟩ := h
      have pt : PE (X.suite a ((a, oe) :: pn)) (.Name "bool" p2) (tC (.ty "bool")) := pe_bltn (X := X.suite a ((a, oe) :: pn)) (u := .type "bool") (glB_ok (X := X.suite a ((a, oe) :: pn)) h4) (B.blt _ (by decide +kernel)) (by decide +kernel) rfl (by decide +kernel) (by decide +kernel)
      unfold hbV at hk
      cases hk
      exact we_of (pe_callB (X := X.suite a ((a, oe) :: pn)) call_isi (glB_ok (X := X.suite a ((a, oe) :: pn)) h1) (B.blt _ (by decide +kernel)) (by decide +kernel) (pa_cons (pe_xf C.F C.row hz hf (agEv_ok h2) (base_of hs _ _)) (pa_cons pt pa_nil) rfl) (by decide +kernel) (by decide +kernel) rfl)
        ⟨_, hσ, rfl, rfl, dd, _, .int n, rfl, hd, rfl, ⟨.int n, .ty "bool", .type "int", .type "bool", false, rfl, .ty "bool", .base (.int _), kit_ty (by decide +kernel), q _ .refl⟩⟩
    · cases h
theorem hb_e (B : Bf T Cl X) (C : Cau X.K P Cl c) (hz : Zc (.ref (Cl c)) (some dd) oe) (hf : ∃ vs, oe.data = .fields vs) :
    ∀ (b : HB) (x : Expr) (k : Bool), agHB T X.env.scope X.N i b x = true → hbV P c b = some k → ∀ {σ : L2.St} {H : Hp} {Q : VK}, σ[i]? = some (some (.ref a)) → H dd = some (.xd [("row", .int n)]) → (∀ H', Grow H H' → Q (.bl k) H') → WE (X.suite a ((a, oe) :: pn)) x σ H Q
  | .isC d, x, k, h, hk, σ, H, Q, hσ, hd, q => hb_leaf B C hz hf hσ hd (.isC d) x k rfl h hk q
  | .isT d, x, k, h, hk, σ, H, Q, hσ, hd, q => hb_leaf B C hz hf hσ hd (.isT d) x k rfl h hk q
  | .isVE, x, k, h, hk, σ, H, Q, hσ, hd, q => hb_leaf B C hz hf hσ hd .isVE x k rfl h hk q
  | .row, x, k, h, hk, σ, H, Q, hσ, hd, q => hb_leaf B C hz hf hσ hd .row x k rfl h hk q
  | .and u v, x, k, h, hk, σ, H, Q, hσ, hd, q => by
    simp only [agHB] at h
    split at h
    · rename_i y z rest p
      simp only [Bool.and_eq_true] at h
      unfold hbV at hk
      split at hk
      · rename_i e
        refine we_of (pe_and pe_we (pe_two (y := y) pe_we)) (hb_e B C hz hf u y true h.1 e hσ hd fun H1 g1 => ⟨true, rfl, ?_⟩)
        rw [if_pos rfl]
        exact hb_e B C hz hf v _ k h.2 hk hσ (g1.keep hd) fun H2 g2 => q _ (g1.trans g2)
      · rename_i e
        cases hk
        refine we_of (pe_and pe_we (pe_two (y := y) pe_we)) (hb_e B C hz hf u y false h.1 e hσ hd fun H1 g1 => ⟨false, rfl, ?_⟩)
        rw [if_neg Bool.false_ne_true]
        exact q _ g1
      · cases hk
    · cases h
  | .or u v, x, k, h, hk, σ, H, Q, hσ, hd, q => by
    simp only [agHB] at h
    split at h
    · rename_i y z rest p
      simp only [Bool.and_eq_true] at h
      unfold hbV at hk
      split at hk
      · rename_i e
        cases hk
        refine we_of (pe_or pe_we (pe_two (y := y) pe_we)) (hb_e B C hz hf u y true h.1 e hσ hd fun H1 g1 => ⟨true, rfl, ?_⟩)
        rw [if_pos rfl]
        exact q _ g1
      · rename_i e
        refine we_of (pe_or pe_we (pe_two (y := y) pe_we)) (hb_e B C hz hf u y false h.1 e hσ hd fun H1 g1 => ⟨false, rfl, ?_⟩)
        rw [if_neg Bool.false_ne_true]
        exact hb_e B C hz hf v _ k h.2 hk hσ (g1.keep hd) fun H2 g2 => q _ (g1.trans g2)
      · cases hk
    · cases h
  | .not u, x, k, h, hk, σ, H, Q, hσ, hd, q => by
    simp only [agHB] at h
    split at h
    · rename_i y p
      unfold hbV at hk
      obtain ⟨k', e, rfl⟩ := Option.map_eq_some_iff.mp hk
      exact we_of (pe_not pe_we) (hb_e B C hz hf u y k' h e hσ hd fun H1 g1 => ⟨k', rfl, q _ g1⟩)
    · cases h
theorem leaf_plain : ∀ (b : HB) (x : Expr) (sc : Scope) (N : List Str), leafB b = true → agHB T sc N i b x = true → plainT x = true
  | .isC d, x, sc, N, _, h => by simp only [agHB] at h; split at h <;> first | rfl | cases h
  | .isT d, x, sc, N, _, h => by simp only [agHB] at h; split at h <;> first | rfl | cases h
  | .isVE, x, sc, N, _, h => by simp only [agHB] at h; split at h <;> first | rfl | cases h
  | .row, x, sc, N, _, h => by simp only [agHB] at h; split at h <;> first | rfl | cases h
theorem hb_lt (B : Bf T Cl X) (C : Cau X.K P Cl c) (hz : Zc (.ref (Cl c)) (some dd) oe) (hf : ∃ vs, oe.data = .fields vs) {σ : L2.St} {H : Hp} {Q : Bool → Hp → Prop} (hσ : σ[i]? = some (some (.ref a))) (hd : H dd = some (.xd [("row", .int n)]))
    (b : HB) (x : Expr) (k : Bool) (hl : leafB b = true) (h : agHB T X.env.scope X.N i b x = true) (hk : hbV P c b = some k) (q : ∀ H', Grow H H' → Q k H') : WT (X.suite a ((a, oe) :: pn)) x σ H Q :=
  wt_of (pt_truth pe_we (plainT_ok (leaf_plain b x _ _ hl h) _)) (hb_leaf B C hz hf hσ hd b x k hl h hk fun H' g => ⟨k, rfl, q H' g⟩)
theorem hb_t (B : Bf T Cl X) (C : Cau X.K P Cl c) (hz : Zc (.ref (Cl c)) (some dd) oe) (hf : ∃ vs, oe.data = .fields vs) :
    ∀ (b : HB) (x : Expr) (k : Bool), agHB T X.env.scope X.N i b x = true → hbV P c b = some k → ∀ {σ : L2.St} {H : Hp} {Q : Bool → Hp → Prop}, σ[i]? = some (some (.ref a)) → H dd = some (.xd [("row", .int n)]) → (∀ H', Grow H H' → Q k H') → WT (X.suite a ((a, oe) :: pn)) x σ H Q
  | .isC d, x, k, h, hk, σ, H, Q, hσ, hd, q => hb_lt B C hz hf hσ hd (.isC d) x k rfl h hk q
  | .isT d, x, k, h, hk, σ, H, Q, hσ, hd, q => hb_lt B C hz hf hσ hd (.isT d) x k rfl h hk q
  | .isVE, x, k, h, hk, σ, H, Q, hσ, hd, q => hb_lt B C hz hf hσ hd .isVE x k rfl h hk q
  | .row, x, k, h, hk, σ, H, Q, hσ, hd, q => hb_lt B C hz hf hσ hd .row x k rfl h hk q
  | .and u v, x, k, h, hk, σ, H, Q, hσ, hd, q => by
    simp only [agHB] at h
    split at h
    · rename_i y z rest p
      simp only [Bool.and_eq_true] at h
      have hzz : PW (X.suite a ((a, oe) :: pn)) (.BoolOp .And (z :: rest) p) (WT (X.suite a ((a, oe) :: pn)) (tail2 .And z p rest)) := by
        cases rest with
        | nil => exact pw_and1 pt_we
        | cons w r => exact pw_of pt_we
      unfold hbV at hk
      split at hk
      · rename_i e
        refine wt_of (pw_and pt_we hzz).pt (hb_t B C hz hf u y true h.1 e hσ hd fun H1 g1 => ?_)
        rw [if_pos rfl]
        exact hb_t B C hz hf v _ k h.2 hk hσ (g1.keep hd) fun H2 g2 => q _ (g1.trans g2)
      · rename_i e
        cases hk
        refine wt_of (pw_and pt_we hzz).pt (hb_t B C hz hf u y false h.1 e hσ hd fun H1 g1 => ?_)
        rw [if_neg Bool.false_ne_true]
        exact q _ g1
      · cases hk
    · cases h
  | .or u v, x, k, h, hk, σ, H, Q, hσ, hd, q => by
    simp only [agHB] at h
    split at h
    · rename_i y z rest p
      simp only [Bool.and_eq_true] at h
      have hzz : PW (X.suite a ((a, oe) :: pn)) (.BoolOp .Or (z :: rest) p) (WT (X.suite a ((a, oe) :: pn)) (tail2 .Or z p rest)) := by
        cases rest with
        | nil => exact pw_or1 pt_we
        | cons w r => exact pw_of pt_we
      unfold hbV at hk
      split at hk
      · rename_i e
        cases hk
        refine wt_of (pw_or pt_we hzz).pt (hb_t B C hz hf u y true h.1 e hσ hd fun H1 g1 => ?_)
        rw [if_pos rfl]
        exact q _ g1
      · rename_i e
        refine wt_of (pw_or pt_we hzz).pt (hb_t B C hz hf u y false h.1 e hσ hd fun H1 g1 => ?_)
        rw [if_neg Bool.false_ne_true]
        exact hb_t B C hz hf v _ k h.2 hk hσ (g1.keep hd) fun H2 g2 => q _ (g1.trans g2)
      · cases hk
    · cases h
  | .not u, x, k, h, hk, σ, H, Q, hσ, hd, q => by
    simp only [agHB] at h
    split at h
    · rename_i y p
      unfold hbV at hk
      obtain ⟨k', e, rfl⟩ := Option.map_eq_some_iff.mp hk
      exact wt_of (pt_not pt_we) (hb_t B C hz hf u y k' h e hσ hd fun H1 g1 => q _ g1)
    · cases h
/-- a value that a clause returns -/
def Rt (H H' : Hp) (v : V) (d : AV) : Prop := (Grow H H' ∧ ∀ K cs F, Rep K cs F v d) ∨ ∃ H0 p vs ds, Grow H H0 ∧ H0 p = none ∧ H' = upd H0 p (.tup vs) ∧ v = .ref p ∧ d = .tup ds ∧ ∀ K cs F, Reps K cs F vs ds
theorem row_e (B : Bf T Cl X) (C : Cau X.K P Cl c) (hz : Zc (.ref (Cl c)) (some dd) oe) (hf : ∃ vs, oe.data = .fields vs) {σ : L2.St} {H : Hp} {Q : VK} {x : Expr} (h : agRow X.env.scope X.N i x = true) (hσ : σ[i]? = some (some (.ref a))) (hd : H dd = some (.xd [("row", .int n)]))
    (q : Q (.int n) H) : WE (X.suite a ((a, oe) :: pn)) x σ H Q := by
  unfold agRow at h
  split at h
  · rename_i y f pf
    simp only [Bool.and_eq_true, decide_eq_true_eq] at h
    obtain ⟨⟨h2, hs⟩, rfl⟩ := h
    exact we_of (pe_xf C.F C.row hz hf (agEv_ok h2) (base_of hs _ _)) ⟨_, hσ, rfl, rfl, dd, _, .int n, rfl, hd, rfl, q⟩
  · cases h
theorem he_e (B : Bf T Cl X) (C : Cau X.K P Cl c) (hz : Zc (.ref (Cl c)) (some dd) oe) (hf : ∃ vs, oe.data = .fields vs) {σ : L2.St} {H : Hp} {Q : VK} (hσ : σ[i]? = some (some (.ref a))) (hd : H dd = some (.xd [("row", .int n)])) :
    ∀ (e : HE) (x : Expr) (d : AV), agHE T X.env.scope X.N i e x = true → heV P c n e = some d → (∀ v H', Rt H H' v d → Q v H') → WE (X.suite a ((a, oe) :: pn)) x σ H Q
  | .non, x, d, h, hk, q => by
    simp only [agHE] at h
    split at h
    · cases hk
      exact we_of pe_non (q _ _ (.inl ⟨.refl, fun _ _ _ => .non⟩))
    · cases h
  | .bl b, x, d, h, hk, q => by
    simp only [agHE] at h
    split at h
    · cases hk
      have e := of_decide_eq_true h
      subst e
      exact we_of pe_bl (q _ _ (.inl ⟨.refl, fun _ _ _ => .bl _⟩))
    · cases h
  | .row, x, d, h, hk, q => by
    cases hk
    exact row_e B C hz hf h hσ hd (q _ _ (.inl ⟨.refl, fun _ _ _ => .int _⟩))
  | .hb b, x, d, h, hk, q => by
    obtain ⟨k, e, rfl⟩ := Option.map_eq_some_iff.mp hk
    exact hb_e B C hz hf b x k h e hσ hd fun H' g => q _ _ (.inl ⟨g, fun _ _ _ => .bl _⟩)
  | .pair z, x, d, h, hk, q => by
    simp only [agHE] at h
    split at h
    · rename_i y j p w p2 p3
      simp only [Bool.and_eq_true, decide_eq_true_eq] at h
      obtain ⟨⟨rfl, h2⟩, h3⟩ := h
      cases hk
      refine we_of (pe_tup (pa_cons pe_str (pa_cons pe_we pa_nil (star_cons h3 _ _)) rfl)) ?_
      refine row_e B C hz hf h2 hσ hd ⟨(show (2 : Nat) ≤ sizeLine by rw [sizeLine_eq]; decide), fun p hp => q _ _ (.inr ⟨H, p, _, _, .refl, hp, rfl, rfl, rfl, fun _ _ _ => .cons (.str _) (.cons (.int _) .nil)⟩)⟩
    · cases h
theorem gs_ok (B : Bf T Cl X) (C : Cau X.K P Cl c) (hz : Zc (.ref (Cl c)) (some dd) oe) (hf : ∃ vs, oe.data = .fields vs) {σ : L2.St} {D : Ends} {t : TryF} {out : AV} {H0 : Hp} (hσ : σ[i]? = some (some (.ref a)))
    (hrt : ∀ v H', Rt H0 H' v out → D.rt v H') (hnx : ∀ H', Grow H0 H' → t.aft = some out → D.nx σ H') :
    ∀ (gs : List (HB × HE)) (st : List Stmt) (H : Hp), Grow H0 H → H dd = some (.xd [("row", .int n)]) → agGs T X.env.scope X.N i t.fin gs st = true → gsV P c n t gs = some out → WSs (X.suite a ((a, oe) :: pn)) st D σ H
  | [], st, H, g, hd, h, hk => by
    unfold agGs at h
    unfold gsV at hk
    split at h
    · rename_i ef
      rw [ef] at hk
      split at h
      · exact wss_of pss_nil (hnx H g hk)
      · cases h
    · rename_i e ef
      rw [ef] at hk
      split at h
      · rename_i x pos
        refine wss_of (pss_cons (ps_ret pe_we) pss_nil) ?_
        refine he_e B C hz hf hσ hd e x out h hk fun v H' r => hrt v H' ?_
        rcases r with ⟨g2, r⟩ | ⟨H1, p, vs, ds, g2, r⟩
        · exact .inl ⟨g.trans g2, r⟩
        · exact .inr ⟨H1, p, vs, ds, g.trans g2, r⟩
      · cases h
  | (b, e) :: r, st, H, g, hd, h, hk => by
    unfold agGs at h
    split at h
    · rename_i tx x p1 p2 st'
      simp only [Bool.and_eq_true] at h
      obtain ⟨⟨h1, h2⟩, h3⟩ := h
      unfold gsV at hk
      refine wss_of (pss_cons (ps_if pt_we (pss_cons (ps_ret pe_we) pss_nil) pss_nil) pss_we) ?_
      split at hk
      · rename_i eb
        refine hb_t B C hz hf b tx true h1 eb hσ hd fun H1 g1 => ?_
        rw [if_pos rfl]
        refine he_e B C hz hf hσ (g1.keep hd) e x out h2 hk fun v H' r => hrt v H' ?_
        rcases r with ⟨g2, r⟩ | ⟨H1, p, vs, ds, g2, r⟩
        · exact .inl ⟨(g.trans g1).trans g2, r⟩
        · exact .inr ⟨H1, p, vs, ds, (g.trans g1).trans g2, r⟩
      · rename_i eb
        refine hb_t B C hz hf b tx false h1 eb hσ hd fun H1 g1 => ?_
        rw [if_neg Bool.false_ne_true]
        exact gs_ok B C hz hf hσ hrt hnx r st' H1 (g.trans g1) (g1.keep hd) h3 hk
      · cases hk
    · cases h
end
/-! ### the def that tries -/
/-- what a def that an exception may leave keeps -/
def spX (K : PySem.W.Frag) (Cl : Nat → Addr) (call : List AV → AHeap → (AV → AHeap → Prop) → (Nat → Int → AHeap → Prop) → Prop) : Sp := fun vs H Q E => ∃ cs F h ds Qa Ea, StOk K Cl cs F H h ∧ Reps K cs F vs ds ∧ call ds h Qa Ea ∧
  (∀ v d cs' F' H' h', Stp cs F H cs' F' H' → StOk K Cl cs' F' H' h' → Rep K cs' F' v d → Qa d h' → Q v H') ∧
  (∀ c n cs' F' H' h', Stp cs F H cs' F' H' → StOk K Cl cs' F' H' h' → Ea c n h' → ∀ dd, H' dd = none → E (.ref (Cl c)) (some dd) (upd H' dd (.xd [("row", .int n)])))
def agAT (sc : Scope) (N : List Str) : List AT → List Expr → Bool
  | [], xs => match xs with
    | [] => true
    | _ => false
  | .v i :: r, xs => match xs with
    | y :: ys => agVar sc N i y && notStar y && agAT sc N r ys
    | _ => false
  | .s z :: r, xs => match xs with
    | .Constant (.str y) _ _ :: ys => decide (z = y) && agAT sc N r ys
    | _ => false
def tAT : List AT → TA
  | [] => tNil
  | .v i :: r => tCons (tVar i) (tAT r)
  | .s z :: r => tCons (tC (.str z)) (tAT r)
def agAft (d : Option AV) (st : List Stmt) : Bool := match d with
  | some .non => match st with
    | [.Return (some (.Constant .none _ _)) _] => true
    | [] => true
    | _ => false
  | some (.bl b) => match st with
    | [.Return (some (.Constant (.bool j) _ _)) _] => decide (b = j)
    | _ => false
  | _ => false
def agTry (T : Tab) (sc : Scope) (N : List Str) (t : TryF) : List Stmt → Bool
  | .Try [.Expr (.Call (.Name xg _) (e :: es) [] cpos) _] [.ExceptHandler (some (.Name xc _)) (some xn) (b₀ :: suite) _] [] [] _ :: aft => decide (t.ok = none) && decide (T.fname t.g = some xg) && glB sc xg && plainName xg && agAT sc N t.args (e :: es) &&
    decide (T.xname t.c = some xc) && glB sc xc && plainName xc && decide (N[t.i]? = some xn) && decide (sc.names.lookup xn = some .local) && agGs T sc N t.i t.fin t.gs (b₀ :: suite) && agAft t.aft aft
  | _ => false
section
variable {T : Tab} {Cl : Nat → Addr} {X : Cx} {P : Prg}
theorem agAT_ok : ∀ {ts : List AT} {xs : List Expr}, agAT X.env.scope X.N ts xs = true → PA X xs (tAT ts) ∧ xs.all notStar = true
  | [], xs, h => by
    unfold agAT at h
    split at h
    · exact ⟨pa_nil, rfl⟩
    · cases h
  | .v i :: r, xs, h => by
    unfold agAT at h
    split at h
    · rename_i y ys
      simp only [Bool.and_eq_true] at h
      obtain ⟨⟨h1, h2⟩, h3⟩ := h
      obtain ⟨p, q⟩ := agAT_ok h3
      unfold agVar at h1
      split at h1
      · rename_i id p'
        simp only [Bool.and_eq_true, decide_eq_true_eq] at h1
        obtain ⟨⟨k1, k2⟩, k3⟩ := h1
        obtain ⟨n1, n2, _⟩ := plainName_ok k3
        exact ⟨pa_cons (pe_var k1 (visB_ok k2) n1 n2) p (star_cons h2 _ _), by rw [List.all_cons, h2, q]; rfl⟩
      · cases h1
    · cases h
  | .s z :: r, xs, h => by
    unfold agAT at h
    split at h
    · rename_i y j p' ys
      simp only [Bool.and_eq_true, decide_eq_true_eq] at h
      obtain ⟨rfl, h3⟩ := h
      obtain ⟨p, q⟩ := agAT_ok h3
      exact ⟨pa_cons pe_str p rfl, by rw [List.all_cons, q]; rfl⟩
    · cases h
theorem tAT_ok {K : PySem.W.Frag} {cs : List Addr} {F H : Hp} {vs0 : List V} {ds : List AV} {σ : L2.St} (rs : Reps K cs F vs0 ds) (hσ : ∀ (i : Nat) (v : L2.V), vs0[i]? = some v → σ[i]? = some (some v)) : ∀ {ts : List AT} {xs : List AV} {Q : List V → Hp → Prop}, argV ds ts = some xs →
    (∀ vs, Reps K cs F vs xs → Q vs H) → tAT ts σ H Q
  | [], xs, Q, h, q => by
    cases h
    exact q [] .nil
  | .v i :: r, xs, Q, h, q => by
    unfold argV at h
    split at h
    · rename_i d xs' h1 h2
      cases h
      obtain ⟨v, e1, e2⟩ := rs.get h1
      exact ⟨v, hσ i v e1, tAT_ok rs hσ h2 fun vs r => q _ (.cons e2 r)⟩
    · cases h
  | .s z :: r, xs, Q, h, q => by
    obtain ⟨xs', h2, rfl⟩ := Option.map_eq_some_iff.mp h
    show tAT r σ H fun vs H1 => Q (.str z :: vs) H1
    exact tAT_ok (Q := fun vs H1 => Q (.str z :: vs) H1) rs hσ h2 fun vs r => q _ (.cons (.str _) r)
theorem aft_ok {d : Option AV} {st : List Stmt} (h : agAft d st = true) : ∃ d', d = some d' ∧ ∃ v, (∀ K cs F, Rep K cs F v d') ∧ PSs X st (fun D σ H => (D.rt v H ∧ (v = .non → D.nx σ H))) := by
  unfold agAft at h
  split at h
  · split at h
    · exact ⟨_, rfl, .non, fun _ _ _ => .non, ⟨fun pins s σ H D I z => (pss_cons (ps_ret pe_non) pss_nil).run pins s σ H D I z.1⟩⟩
    · exact ⟨_, rfl, .non, fun _ _ _ => .non, ⟨fun pins s σ H D I z => pss_nil.run pins s σ H D I (z.2 rfl)⟩⟩
    · cases h
  · split at h
    · have e := of_decide_eq_true h
      subst e
      exact ⟨_, rfl, .bl _, fun _ _ _ => .bl _, ⟨fun pins s σ H D I z => (pss_cons (ps_ret pe_bl) pss_nil).run pins s σ H D I z.1⟩⟩
    · cases h
  · cases h
/-- the statement and what stands behind it, where no exception leaves -/
theorem try_ok {t : TryF} {st : List Stmt} {kg : Nat} {ag : Addr} {fdg : FuncData} {psg : List Str} {call : List AV → AHeap → (AV → AHeap → Prop) → (Nat → Int → AHeap → Prop) → Prop} (B : Bf T Cl X) (nd : X.N.Nodup) (gd : X.A.guards = some []) (hs : X.stack = X.env :: X.outer) (hf : X.env.frame = some X.env.locals)
    (hx : ∀ e s, ¬ X.xe e s) (h : agTry T X.env.scope X.N t st = true) (hC : ∀ c b, P.sub.lookup (c, t.c) = some b → Cau X.K P Cl c) (hE : ∀ c, P.sub.lookup (c, t.c) = some true → PySem.W.exmOne X.K (.ref (Cl c)) (.ref (Cl t.c)) = some true)
    (hg : ∀ xg, T.fname t.g = some xg → X.mg xg = some (.ref ag) ∧ PySem.W.keepIn X.K (.ref ag) = true) (F : FnGX X.prog X.w X.K X.mg X.base kg ag fdg psg (spX X.K Cl call)) (room : Room kg X.A) (bnd : Binds X.K fdg psg [])
    {cs : List Addr} {F0 H : Hp} {hp : AHeap} {vs0 : List L2.V} {ds xs : List AV} {σ : L2.St} {D : Ends} {Q : AV → AHeap → Prop} (S : StOk X.K Cl cs F0 H hp) (rs : Reps X.K cs F0 vs0 ds) (hσ : ∀ (i : Nat) (v : L2.V), vs0[i]? = some v → σ[i]? = some (some v)) (hl : σ.length = X.N.length)
    (ha : argV ds t.args = some xs) (w : call xs hp (fun v h2 => match okV t v with
      | some d => Q d h2
      | none => False) (fun c n h2 => match tryV P c n t with
      | some d => Q d h2
      | none => False))
    (hnx : ∀ cs' F' H' h' σ', Stp cs F0 H cs' F' H' → StOk X.K Cl cs' F' H' h' → Q .non h' → D.nx σ' H')
    (hrt : ∀ v d cs' F' H' h', Stp cs F0 H cs' F' H' → StOk X.K Cl cs' F' H' h' → Rep X.K cs' F' v d → Q d h' → D.rt v H') : WSs X st D σ H := by
  unfold agTry at h
  split at h
  · rename_i xg p1 e es cpos p2 xc p3 xn b₀ suite p4 p5 aft
    simp only [Bool.and_eq_true, decide_eq_true_eq] at h
    obtain ⟨⟨⟨⟨⟨⟨⟨⟨⟨⟨⟨h0, h1⟩, h2⟩, h3⟩, h4⟩, h5⟩, h6⟩, h7⟩, h8⟩, h9⟩, h10⟩, h11⟩ := h
    obtain ⟨d', ed, va, ra, pa⟩ := aft_ok (X := X) h11
    obtain ⟨mg, kp⟩ := hg xg h1
    have tk : Takes X (fun _ _ _ _ => False) := fun u s' ⟨_, _, _, _, _, _, _, _, _, _, _, _, _, _, _, _, z⟩ => z.elim
    obtain ⟨pargs, pst⟩ := agAT_ok h4
    have hst : notStar e = true := by rw [List.all_cons, Bool.and_eq_true] at pst; exact pst.1
    have hes : es.all notStar = true := by rw [List.all_cons, Bool.and_eq_true] at pst; exact pst.2
    have T1 := ps_try_as (X := X) (x := xc) (n := xn) (c := .ref (Cl t.c)) (i := t.i) (body := [.Expr (.Call (.Name xg p1) (e :: es) [] cpos) p2]) (suite := suite) (b₀ := b₀) (np := p3) (pos := p5) (pos' := p4)
      (tb := fun W => tSeq (tDrop (fun σ H Q => tAT t.args σ H fun vs H1 => spX X.K Cl call vs H1 Q fun c d H' => W c d σ H')) tNext)
      (ts := fun a cls d D σ H => ∃ c n dd out, cls = .ref (Cl c) ∧ d = some dd ∧ Cau X.K P Cl c ∧ H dd = some (.xd [("row", .int n)]) ∧ σ[t.i]? = some (some (.ref a)) ∧ gsV P c n t t.gs = some out ∧ (∀ v H', Rt H H' v out → D.rt v H') ∧ (∀ H', Grow H H' → t.aft = some out → D.nx σ H'))
      (Wout := fun _ _ _ _ => False) hs hf nd h8 h9 ⟨glB_ok h6, (plainName_ok h7).1, .inl (B.xn _ _ h5)⟩ tk
      (fun W pn xe tk2 po => pss_cons (ps_expr (FnGX.call (X := X.tr pn xe) F gd room (glB_ok (X := X.tr pn xe) h2) mg kp bnd tk2 (show PA (X.tr pn xe) (e :: es) (tAT t.args) from (agAT_ok (X := X.tr pn xe) h4).1) (plainName_ok h3).1 (star_cons hst _ _) (star_all hes _ _)) rfl) pss_nil)
      (fun a oe cls d pn hz hfv => ⟨fun pins s σ H D I ⟨c, n, dd, out, e1, e2, C, e3, e4, e5, e6, e7⟩ => by
        subst e1 e2
        exact gs_ok B C hz hfv e4 e6 e7 t.gs (b₀ :: suite) H .refl e3 h10 e5 pins s I⟩)
    refine wss_of (pss_cons T1 pa) ?_
    show tAT t.args σ H fun vs H1 => _
    refine tAT_ok rs hσ ha fun vs rv => ?_
    refine ⟨cs, F0, hp, xs, _, _, S, rv, w, ?_, ?_⟩
    · intro v d cs' F' H' h' x' S' r' q'
      unfold okV at q'
      rw [h0, ed] at q'
      exact ⟨hrt va d' cs' F' H' h' x' S' (ra _ _ _) q', fun z => by
        subst z
        have := ra X.K cs' F'
        cases this
        exact hnx _ _ _ _ _ x' S' q'⟩
    · intro c n cs' F' H' h' x' S' q' dd hdd
      have q2 : ∃ out, tryV P c n t = some out ∧ Q out h' := by
        cases ho : tryV P c n t with
        | none => rw [ho] at q'; exact q'.elim
        | some out => rw [ho] at q'; exact ⟨out, rfl, q'⟩
      obtain ⟨out, ho, q3⟩ := q2
      unfold tryV at ho
      split at ho
      · rename_i es2
        refine ⟨true, hE c es2, fun _ a ha2 => ?_, fun z => by cases z⟩
        have hi : t.i < σ.length := by rw [hl]; exact (List.getElem?_eq_some_iff.mp h8).1
        refine ⟨c, n, dd, out, rfl, rfl, hC c true es2, upd_same, List.getElem?_set_self hi, ho, ?_, ?_⟩
        · intro v H'' r
          have S1 : StOk X.K Cl cs' F' (upd H' dd (.xd [("row", .int n)])) h' := S'.newN hdd
          have x1 : Stp cs' F' H' cs' F' (upd H' dd (.xd [("row", .int n)])) := Stp.newN hdd
          rcases r with ⟨g, r⟩ | ⟨H0, p, vs2, ds2, g, hp0, rfl, rfl, rfl, r⟩
          · obtain ⟨S2, x2⟩ := g.step S1
            exact hrt v out _ _ _ _ ((x'.trans x1).trans x2) S2 (r _ _ _) q3
          · obtain ⟨S2, x2⟩ := g.step S1
            exact hrt _ _ _ _ _ _ (((x'.trans x1).trans x2).trans (Stp.newF S2 hp0)) (S2.newF hp0) (.tup (ex_t (fun _ _ z => z) (.inl (.inl upd_same))) (r _ _ _)) q3
        · intro H'' g ea
          have S1 : StOk X.K Cl cs' F' (upd H' dd (.xd [("row", .int n)])) h' := S'.newN hdd
          have x1 : Stp cs' F' H' cs' F' (upd H' dd (.xd [("row", .int n)])) := Stp.newN hdd
          obtain ⟨S2, x2⟩ := g.step S1
          rw [ed] at ea
          cases ea
          exact ⟨hrt va _ _ _ _ _ ((x'.trans x1).trans x2) S2 (ra _ _ _) q3, fun z => by
            subst z
            have := ra X.K cs' F'
            cases this
            exact hnx _ _ _ _ _ ((x'.trans x1).trans x2) S2 q3⟩
      · cases ho
  · cases h
end
end VL

set_option maxRecDepth 100000
set_option maxHeartbeats 4000000
/-! VL: a program's defs keep what the transformers say; the end of a law. -/
namespace VL
open PySem L2 Evl PyProof.Rows PySem.Spec

/-! ### the scope of a def, by one check -/
def scB (N ps : List Str) (sc : Scope) : Bool :=
  (match sc.kind with | .function => true | _ => false) && !sc.isCoroutine && !sc.isGenerator && decide N.Nodup && decide (N.take ps.length = ps) && ps.all (fun x => locB sc x) && sc.names.all (fun y => decide (y.2 ≠ .free))
theorem scB_ok {N ps : List Str} {sc : Scope} (h : scB N ps sc = true) : FnScope N ps sc := by
  unfold scB at h
  simp only [Bool.and_eq_true, Bool.not_eq_true', decide_eq_true_eq, List.all_eq_true] at h
  obtain ⟨⟨⟨⟨⟨⟨h1, h2⟩, h3⟩, h4⟩, h5⟩, h6⟩, h7⟩ := h
  refine ⟨?_, h2, h3, h4, h5, fun x hx => ?_, fun y hy => h7 y hy⟩
  · split at h1
    · assumption
    · cases h1
  · rcases locB_ok (h6 x hx) with q | q
    · exact .inl q
    · exact .inr q
/-- a def of the text and what it is in our syntax -/
structure FnT where
  name : Str
  st : Stmt
  N : List Str
  ps : List Str
def agF (T : Tab) (t : FnT) (F : Fn) : Bool := scB t.N t.ps (defScope t.st) && agSs T (defScope t.st) t.N F.body (defBody t.st) && decide (t.N.length = F.ns) && decide (t.ps.length = F.np)

/-- a def that tries, of the text and in our syntax -/
def agTF (T : Tab) (t : FnT) (y : TryF) : Bool := scB t.N t.ps (defScope t.st) && agTry T (defScope t.st) t.N y (defBody t.st) && decide (t.N.length = y.ns) && decide (t.ps.length = y.np) && y.args.all fun a => match a with
  | .v i => decide (i < y.np)
  | .s _ => true
/-- a class of exceptions in the written part -/
structure ExcP (K : PySem.W.Frag) (mg : Str → Option Value) (x : Str) (C : Addr) : Prop where
  mg : mg x = some (.ref C)
  ox : OexC K C
  row : PySem.W.findIn K (.ref C) "row" = some none
  ini : ∃ fI fd nm qn st, PySem.W.findIn K (.ref C) "__init__" = some (some (.ref fI)) ∧ PySem.W.typeIn K (.ref fI) = some (.type "function") ∧ Fun K nm qn st fI fd ∧ FnScope ["self", "row"] ["self", "row"] (defScope st) ∧ Vis (defScope st) "self" ∧ Vis (defScope st) "row" ∧ isRowInit (defBody st) = true ∧ Binds K fd ["self", "row"] []
structure PFacts (w : World) (P : Prg) (T : Tab) (Cl : Nat → Addr) (ts : Nat → Option FnT) (K : PySem.W.Frag) (mg : Str → Option Value) : Prop where
  blt : ∀ x, x ∈ bltNames → mg x = none
  glob : ∀ g d, P.glob.lookup g = some d → ∃ u v, mg (T.gname g) = some u ∧ RelV v u ∧ ∀ cs F, Rep K cs F v d
  fn : ∀ f F, P.fns.lookup f = some F → ∃ t a fd qual, ts f = some t ∧ Fun K t.name qual t.st a fd ∧ agF T t F = true ∧ Binds K fd t.ps [] ∧ ∀ x, T.fname f = some x → mg x = some (.ref a) ∧ PySem.W.keepIn K (.ref a) = true
  fnm : ∀ f x, T.fname f = some x → (∃ F, P.fns.lookup f = some F) ∨ ∃ t, P.tryf.lookup f = some t
  cls : ∀ c x, T.cname c = some x → ∃ f F t a fd qual, P.init.lookup c = some f ∧ P.fns.lookup f = some F ∧ ts f = some t ∧ Fun K t.name qual t.st a fd ∧ agF T t F = true ∧ Binds K fd t.ps [] ∧ mg x = some (.ref (Cl c)) ∧ Mk K (Cl c) a
  mth : ∀ c m f, P.meth.lookup (c, m) = some f → ∃ F t a fd qual, P.fns.lookup f = some F ∧ ts f = some t ∧ Fun K t.name qual t.st a fd ∧ agF T t F = true ∧ Binds K fd t.ps [] ∧ Cls K (Cl c) ∧ Meth K (Cl c) m a
  fld : ∀ c f, P.flds.contains (c, f) = true → Cls K (Cl c) ∧ NoAttr K (Cl c) f
  gdc : ∀ g x, T.dname g = some x → ∃ kvs d, P.gdct.lookup g = some kvs ∧ mg x = some (.ref d) ∧ GDict K w d kvs
  isc : ∀ c x, T.iname c = some x → mg x = some (.ref (Cl c)) ∧ C8.InsC K (Cl c)
  exc : ∀ c x, T.ename c = some x → ExcP K mg x (Cl c)
  tfn : ∀ f t, P.tryf.lookup f = some t → P.fns.lookup f = none ∧ mg "ValueError" = none ∧ (∃ x F, T.fname t.g = some x ∧ P.fns.lookup t.g = some F) ∧ (∀ c, P.sub.lookup (c, t.c) = some true → PySem.W.exmOne K (.ref (Cl c)) (.ref (Cl t.c)) = some true) ∧
    ∃ tt a fd qual, ts f = some tt ∧ Fun K tt.name qual tt.st a fd ∧ agTF T tt t = true ∧ Binds K fd tt.ps [] ∧ ∀ x, T.fname f = some x → mg x = some (.ref a) ∧ PySem.W.keepIn K (.ref a) = true
  cau : ∀ c d b, P.sub.lookup (c, d) = some b → Cau K P Cl c
  xnm : ∀ d x, T.xname d = some x → mg x = some (.ref (Cl d))

section
variable {prog : Program} {w : World} {K : PySem.W.Frag} {mg : Str → Option Value} {base : Heap} {P : Prg} {T : Tab} {Cl : Nat → Addr} {ts : Nat → Option FnT}
theorem getS_start {ds : List AV} : ∀ {vs : List V} {cs : List Addr} {F : Hp} {k i : Nat} {d : AV}, Reps K cs F vs ds → getS (ds.map Slot.val ++ List.replicate k Slot.no) i = .val d → ∃ v, vs[i]? = some v ∧ Rep K cs F v d := by
  induction ds with
  | nil =>
    intro vs cs F k i d r h
    have : ∀ (k i : Nat), getS (List.replicate k Slot.no) i = .no := by
      intro k
      induction k with
      | zero => intro i; rfl
      | succ k ih => intro i; cases i with
        | zero => rfl
        | succ i => exact ih i
    rw [List.map_nil, List.nil_append, this] at h
    cases h
  | cons x ds ih =>
    intro vs cs F k i d r h
    cases r with
    | cons r rs =>
      cases i with
      | zero => cases h; exact ⟨_, rfl, r⟩
      | succ i =>
        obtain ⟨v, h1, h2⟩ := ih (i := i) rs h
        exact ⟨v, by simpa using h1, h2⟩
theorem getS_startO {ds : List AV} : ∀ {k i : Nat} {c : Cell}, getS (ds.map Slot.val ++ List.replicate k Slot.no) i ≠ .own c := by
  induction ds with
  | nil =>
    intro k
    induction k with
    | zero => intro i c h; cases h
    | succ k ih => intro i c h; cases i with
      | zero => cases h
      | succ i => exact ih h
  | cons x ds ih =>
    intro k i c h
    cases i with
    | zero => cases h
    | succ i => exact ih h
theorem env_start {cs : List Addr} {F H : Hp} {N : List Str} {vs : List V} {ds : List AV} {ns : Nat} (hn : N.length = ns) (hl : vs.length ≤ N.length) (r : Reps K cs F vs ds) : EnvOk K Cl cs F H (L2.start N vs) (ds.map Slot.val ++ List.replicate (ns - ds.length) Slot.no) where
  len := by
    unfold L2.start
    simp only [List.length_append, List.length_map, List.length_replicate]
    rw [r.length, hn]
  val := fun i d h => by
    obtain ⟨v, h1, h2⟩ := getS_start r h
    refine ⟨v, ?_, h2⟩
    unfold L2.start
    rw [List.getElem?_append_left (by simpa using (List.getElem?_eq_some_iff.mp h1).1), List.getElem?_map, h1]
    rfl
  own := fun i c h => absurd h getS_startO
  dis := fun i j c c' a _ h => absurd h getS_startO
/-- what stands around a def's body -/
theorem sok_of {X : Cx} {n k : Nat} (hF : PFacts X.w P T Cl ts X.K X.mg) (nd : X.N.Nodup) (calm : X.calm = true) (gd : X.A.guards = some []) (room : Room (k + 2) X.A)
    (all : ∀ (f : Nat) (t : FnT) (a : Addr) (fd : FuncData) (qual : Str), ts f = some t → Fun X.K t.name qual t.st a fd → ((∃ F, P.fns.lookup f = some F ∧ agF T t F = true) ∨ (∃ y, P.fns.lookup f = none ∧ P.tryf.lookup f = some y ∧ agTF T t y = true)) → FnG X.prog X.w X.K X.mg X.base k a fd t.ps (spOf X.K Cl (ctxOf P (callN P n)) f))
    (pass : PassesOwn (model X.prog X.w) X.A X.env X.xe) (sto : Sto X.env.scope X) : SOk (ctxOf P (callN P n)) T Cl X := by
  refine ⟨⟨nd, calm, ?_, gd, hF.blt, hF.glob, fun g x hg => ?_, fun c x hx => ?_, fun c m g hx => ?_, hF.fld, hF.gdc, hF.isc⟩, fun c x hx => ?_, pass, sto⟩
  · have := room.un
    omega
  · rcases hF.fnm g x hg with ⟨G, hG⟩ | ⟨y, hy⟩
    · obtain ⟨t', a', fd', qual', e1, e2, e3, e4, e5⟩ := hF.fn g G hG
      exact ⟨k, a', fd', t'.ps, all g t' a' fd' qual' e1 e2 (.inl ⟨G, hG, e3⟩), room.mono (by omega), (e5 x hg).1, (e5 x hg).2, e4⟩
    · obtain ⟨e0, _, _, _, t', a', fd', qual', e1, e2, e3, e4, e5⟩ := hF.tfn g y hy
      exact ⟨k, a', fd', t'.ps, all g t' a' fd' qual' e1 e2 (.inr ⟨y, e0, hy, e3⟩), room.mono (by omega), (e5 x hg).1, (e5 x hg).2, e4⟩
  · obtain ⟨g, G, t', a', fd', qual', e0, hG, e1, e2, e3, e4, e5, e6⟩ := hF.cls c x hx
    exact ⟨g, k, a', fd', t'.ps, e0, all g t' a' fd' qual' e1 e2 (.inl ⟨G, hG, e3⟩), room.mono (by omega), e5, e6, e4⟩
  · obtain ⟨G, t', a', fd', qual', hG, e1, e2, e3, e4, e5, e6⟩ := hF.mth c m g hx
    exact ⟨k, a', fd', t'.ps, all g t' a' fd' qual' e1 e2 (.inl ⟨G, hG, e3⟩), room.mono (by omega), e5, e6, e4⟩
  · have E := hF.exc c x hx
    obtain ⟨fI, fd, nm, qn, st, i1, i2, i3, i4, i5, i6, i7, i8⟩ := E.ini
    exact ⟨E.mg, E.ox, E.row, fI, 1, fd, i1, i2, row_init i3 i4 i5 i6 i7, room.mono (by omega), i8⟩
theorem sto_of {prog : Program} {CX : CXT} {N : List Str} {qual : Str} {st : Stmt} {a : Addr} {cdv : Value} {A : Around} {outer : List PySem.Env} {s : Shared} {H : Hp} {E : XK} :
    Sto (defScope st) (cxOf CX prog w K mg base N qual (defScope st) a cdv A outer s H E) := fun id hid => by
  unfold tgN at hid
  simp only [Bool.or_eq_true, Bool.and_eq_true, decide_eq_true_eq] at hid
  rcases hid with hid | hid
  · exact ⟨.inl hid.1, .inl rfl⟩
  · exact ⟨.inr hid.1, .inl rfl⟩
theorem start_get {N : List Str} {vs : List L2.V} {i : Nat} {v : L2.V} (h : vs[i]? = some v) : (L2.start N vs)[i]? = some (some v) := by
  unfold L2.start
  rw [List.getElem?_append_left (by simpa using (List.getElem?_eq_some_iff.mp h).1), List.getElem?_map, h]
  rfl
theorem start_len {N : List Str} {vs : List L2.V} (h : vs.length ≤ N.length) : (L2.start N vs).length = N.length := by
  unfold L2.start
  simp only [List.length_append, List.length_map, List.length_replicate]
  omega
theorem scope_len {t : FnT} {vs : List L2.V} {np : Nat} (sc : FnScope t.N t.ps (defScope t.st)) (e : vs.length = np) (h4 : t.ps.length = np) : vs.length ≤ t.N.length := by
  have := congrArg List.length sc.pre
  rw [List.length_take] at this
  omega
/-- a def whose exceptions are told -/
theorem fn_x {n : Nat} (hF : PFacts w P T Cl ts K mg) (all : ∀ (f : Nat) (t : FnT) (a : Addr) (fd : FuncData) (qual : Str), ts f = some t → Fun K t.name qual t.st a fd → ((∃ F, P.fns.lookup f = some F ∧ agF T t F = true) ∨ (∃ y, P.fns.lookup f = none ∧ P.tryf.lookup f = some y ∧ agTF T t y = true)) → FnG prog w K mg base (4 * n) a fd t.ps (spOf K Cl (ctxOf P (callN P n)) f))
    {f : Nat} {F : Fn} {t : FnT} {a : Addr} {fd : FuncData} {qual : Str} (hf : P.fns.lookup f = some F) (hfun : Fun K t.name qual t.st a fd) (hag : agF T t F = true) : FnGX prog w K mg base (4 * n + 3) a fd t.ps (spX K Cl (bodyW P (callN P n) f)) := by
  unfold agF at hag
  simp only [Bool.and_eq_true, decide_eq_true_eq] at hag
  obtain ⟨⟨⟨h1, h2⟩, h3⟩, h4⟩ := hag
  have sc := scB_ok h1
  have call : ∀ ds h Qa Ea, bodyW P (callN P n) f ds h Qa Ea → ds.length = F.np ∧ WpSs (ctxOf P (callN P n)) F.body { nx := fun _ h => Qa .non h, rt := Qa, ex := Ea } (startS F ds) h := fun ds h Qa Ea z => by
    unfold bodyW at z
    rw [hf] at z
    exact z
  refine FnGX.of_body (k := 4 * n + 2) hfun sc (fun vs H Q E ⟨cs, F', h, ds, Qa, Ea, _, r, z, _⟩ => ?_) (fun cdv A outer s H vs Q E hgd hr ⟨cs, F', h, ds, Qa, Ea, S, r, z, k, kx⟩ => ?_)
  · rw [r.length, (call _ _ _ _ z).1, h4]
  · obtain ⟨z1, z2⟩ := call _ _ _ _ z
    have hN : vs.length ≤ t.N.length := scope_len sc (r.length.trans z1) h4
    refine ⟨WSs _ (defBody t.st), pss_we, ?_⟩
    have O : SOk (ctxOf P (callN P n)) T Cl (cxOf (L2.CX prog w) prog w K mg base t.N qual (defScope t.st) a cdv A outer s H E) :=
      sok_of hF sc.nd rfl hgd hr all PassesOwn.leaving sto_of
    refine sSs O sc.kind F.body (defBody t.st) h2 cs F' cs F' H { nx := fun _ h => Qa .non h, rt := Qa, ex := Ea } _ (startS F ds) h (L2.start t.N vs) cs F' H ⟨?_, ?_, ?_, ?_, (fun cls d _ H => E cls d H), takes_of rfl rfl rfl rfl, ?_⟩ ⟨S, ?_, .refl, ?_, fun _ _ z => z, [], by simp⟩ z2
    · intro cs2 F2 H2 h2 σ2 ρ2 n2 q2
      exact k _ _ _ _ _ _ n2.x n2.S .non q2
    · intro v d cs2 F2 H2 h2 x2 S2 r2 q2
      exact k _ _ _ _ _ _ x2 S2 r2 q2
    · intro cs2 F2 H2 h2 σ2 ρ2 n2 q2
      exact q2.elim
    · intro cs2 F2 H2 h2 σ2 ρ2 n2 q2
      exact q2.elim
    · intro c n cs2 F2 H2 h2 σ2 ρ2 n2 q2 dd hdd
      exact kx _ _ _ _ _ _ n2.x n2.S q2 dd hdd
    · exact env_start h3 hN r
    · intro i c a' hh
      exact absurd hh getS_startO
/-- every def, to any depth -/
theorem fn_any (hF : PFacts w P T Cl ts K mg) : ∀ (n f : Nat) (t : FnT) (a : Addr) (fd : FuncData) (qual : Str), ts f = some t → Fun K t.name qual t.st a fd → ((∃ F, P.fns.lookup f = some F ∧ agF T t F = true) ∨ (∃ y, P.fns.lookup f = none ∧ P.tryf.lookup f = some y ∧ agTF T t y = true)) →
    FnG prog w K mg base (4 * n) a fd t.ps (spOf K Cl (ctxOf P (callN P n)) f)
  | 0, f, t, a, fd, qual, ht, hfun, hag =>
    ⟨fun vs H Q E ⟨_, _, _, _, _, _, _, z, _⟩ => (show False from z).elim, fun A outer s H args us vs Q E _ _ _ _ _ ⟨_, _, _, _, _, _, _, z, _⟩ => (show False from z).elim⟩
  | n + 1, f, t, a, fd, qual, ht, hfun, .inl ⟨F, hf, hag⟩ => by
    unfold agF at hag
    simp only [Bool.and_eq_true, decide_eq_true_eq] at hag
    obtain ⟨⟨⟨h1, h2⟩, h3⟩, h4⟩ := hag
    have sc := scB_ok h1
    have call : ∀ ds h Qa, callN P (n + 1) f ds h Qa → ds.length = F.np ∧ WpSs (ctxOf P (callN P n)) F.body { nx := fun _ h => Qa .non h, rt := Qa } (startS F ds) h := fun ds h Qa z => by
      have z' : (match P.fns.lookup f with
        | none => match P.tryf.lookup f with
          | some t => tryW P (callN P n) t ds h Qa
          | none => False
        | some F => ds.length = F.np ∧ WpSs (ctxOf P (callN P n)) F.body { nx := fun _ h => Qa .non h, rt := Qa } (startS F ds) h) := z
      rw [hf] at z'
      exact z'
    refine FnG.of_body (k := 4 * n + 3) hfun sc (fun vs H Q E ⟨cs, F', h, ds, Qa, _, r, z, _⟩ => ?_) (fun cdv A outer s H vs Q E hgd hr ⟨cs, F', h, ds, Qa, S, r, z, k⟩ => ?_)
    · rw [r.length, (call _ _ _ z).1, h4]
    · obtain ⟨z1, z2⟩ := call _ _ _ z
      have hN : vs.length ≤ t.N.length := scope_len sc (r.length.trans z1) h4
      refine ⟨WSs _ (defBody t.st), pss_we, ?_⟩
      have O : SOk (ctxOf P (callN P n)) T Cl (cxOf CX0 prog w K mg base t.N qual (defScope t.st) a cdv A outer s H E).nox :=
        sok_of hF sc.nd rfl hgd (hr.mono (by omega)) (fn_any hF n) PassesOwn.never (sto_of (prog := prog) (CX := CX0) (w := w) (K := K) (mg := mg) (base := base) (N := t.N) (st := t.st) (A := A) (outer := outer) (H := H) (E := E))
      refine sSs O sc.kind F.body (defBody t.st) h2 cs F' cs F' H { nx := fun _ h => Qa .non h, rt := Qa } _ (startS F ds) h (L2.start t.N vs) cs F' H ⟨?_, ?_, ?_, ?_, (fun _ _ _ _ => False), (fun u s' ⟨_, _, _, _, _, _, _, _, _, _, _, _, _, _, _, _, z⟩ => z.elim), fun _ _ _ _ _ _ _ _ _ z => z.elim⟩ ⟨S, ?_, .refl, ?_, fun _ _ z => z, [], by simp⟩ z2
      · intro cs2 F2 H2 h2 σ2 ρ2 n2 q2
        exact k _ _ _ _ _ _ n2.x n2.S .non q2
      · intro v d cs2 F2 H2 h2 x2 S2 r2 q2
        exact k _ _ _ _ _ _ x2 S2 r2 q2
      · intro cs2 F2 H2 h2 σ2 ρ2 n2 q2
        exact q2.elim
      · intro cs2 F2 H2 h2 σ2 ρ2 n2 q2
        exact q2.elim
      · exact env_start h3 hN r
      · intro i c a' hh
        exact absurd hh getS_startO
  | n + 1, f, t, a, fd, qual, ht, hfun, .inr ⟨y, hf, hy, hag⟩ => by
    unfold agTF at hag
    simp only [Bool.and_eq_true, decide_eq_true_eq] at hag
    obtain ⟨⟨⟨⟨h1, h2⟩, h3⟩, h4⟩, h5⟩ := hag
    have sc := scB_ok h1
    have call : ∀ ds h Qa, callN P (n + 1) f ds h Qa → tryW P (callN P n) y ds h Qa := fun ds h Qa z => by
      have z' : (match P.fns.lookup f with
        | none => match P.tryf.lookup f with
          | some t => tryW P (callN P n) t ds h Qa
          | none => False
        | some F => ds.length = F.np ∧ WpSs (ctxOf P (callN P n)) F.body { nx := fun _ h => Qa .non h, rt := Qa } (startS F ds) h) := z
      rw [hf, hy] at z'
      exact z'
    obtain ⟨_, hve, ⟨xg, Fg, hx1, hx2⟩, hexm, _⟩ := hF.tfn f y hy
    obtain ⟨tg, ag, fdg, qualg, g1, g2, g3, g4, g5⟩ := hF.fn y.g Fg hx2
    have FX := fn_x (prog := prog) (base := base) hF (fn_any hF n) hx2 g2 g3
    refine FnG.of_body (k := 4 * n + 3) hfun sc (fun vs H Q E ⟨cs, F', h, ds, Qa, _, r, z, _⟩ => ?_) (fun cdv A outer s H vs Q E hgd hr ⟨cs, F', h, ds, Qa, S, r, z, k⟩ => ?_)
    · rw [r.length, (call _ _ _ z).1, h4]
    · obtain ⟨z1, z2⟩ := call _ _ _ z
      have hN : vs.length ≤ t.N.length := scope_len sc (r.length.trans z1) h4
      refine ⟨WSs _ (defBody t.st), pss_we, ?_⟩
      cases ha : argV ds y.args with
      | none => rw [ha] at z2; exact z2.elim
      | some xs =>
        rw [ha] at z2
        exact try_ok (X := (cxOf CX0 prog w K mg base t.N qual (defScope t.st) a cdv A outer s H E).nox) (P := P) ⟨hF.blt, hve, hF.xnm⟩ sc.nd hgd rfl rfl (fun _ _ z => z) h2 (fun c b e => hF.cau c _ b e) hexm (fun x hx => g5 x hx) FX hr g4 S r (fun i v h => start_get h) (start_len hN) ha z2
          (fun cs' F' H' h' σ' x' S' q' => k _ _ _ _ _ _ x' S' .non q') (fun v d cs' F' H' h' x' S' r' q' => k _ _ _ _ _ _ x' S' r' q')
theorem fn_all (hF : PFacts w P T Cl ts K mg) (n f : Nat) (F : Fn) (hf : P.fns.lookup f = some F) (t : FnT) (a : Addr) (fd : FuncData) (qual : Str) (h1 : ts f = some t) (h2 : Fun K t.name qual t.st a fd) (h3 : agF T t F = true) :
    FnG prog w K mg base (4 * n) a fd t.ps (spOf K Cl (ctxOf P (callN P n)) f) := fn_any hF n f t a fd qual h1 h2 (.inl ⟨F, hf, h3⟩)
end

/-! ### constants of the module -/
theorem relV_of {u : Value} {v : V} (h : absV u = some v) : RelV v u := by
  cases u <;> simp [absV] at h <;> subst h <;> first | rfl | exact ⟨_, rfl⟩
def valsOf : List Value → Option (List V)
  | [] => some []
  | u :: us => match absV u, valsOf us with
    | some v, some vs => some (v :: vs)
    | _, _ => none
theorem vals_of : ∀ {us : List Value} {vs : List V}, valsOf us = some vs → Vals vs us
  | [], vs, h => by simp [valsOf] at h; subst h; exact .nil
  | u :: us, vs, h => by
    simp only [valsOf] at h
    split at h
    · rename_i v vs' h1 h2
      cases h
      exact .cons (relV_of h1) (vals_of h2)
    · cases h
/-- plain items -/
def flatOf : List V → Option (List AV)
  | [] => some []
  | .non :: r => (flatOf r).map (.non :: ·)
  | .bl b :: r => (flatOf r).map (.bl b :: ·)
  | .int b :: r => (flatOf r).map (.int b :: ·)
  | .str b :: r => (flatOf r).map (.str b :: ·)
  | _ => none
theorem flat_reps {K : PySem.W.Frag} {cs : List Addr} {F : Hp} : ∀ {vs : List V} {ds : List AV}, flatOf vs = some ds → Reps K cs F vs ds
  | [], ds, h => by simp [flatOf] at h; subst h; exact .nil
  | v :: vs, ds, h => by
    cases v <;> simp [flatOf] at h <;> obtain ⟨l, h1, h2⟩ := h <;> subst h2 <;> refine .cons ?_ (flat_reps h1)
    · exact .non
    · exact .bl _
    · exact .int _
    · exact .str _
/-- a tuple of plain items that stands in the written part -/
theorem tup_glob {K : PySem.W.Frag} {a : Addr} {od : Option Addr} {its : Array Value} {n : Nat} {sl : Array (Option Value)} {vs : List V} {ds : List AV} (l : K.lookup a = some ⟨.type "tuple", od, .seq its n, sl⟩) (hz : its.size ≤ sizeLine)
    (hv : valsOf its.toList = some vs) (hd : flatOf vs = some ds) : ∀ cs F, Rep K cs F (.ref a) (.tup ds) := fun cs F =>
  .tup (.inr ⟨_, its, n, l, rfl, rfl, hz, vals_of hv⟩) (flat_reps hd)

/-! ### the end of a law -/
theorem law_sp {K : PySem.W.Frag} {Cl : Nat → Addr} {P : Prg} {n fl : Nat} (h : ∀ ns : List Int, ns.length ≤ 63 → callN P n fl [.ro (ns.map AV.int)] [] fun d _ => d = .bl true) :
    ∀ (H : Hp) (a : Addr) (ns : List Int), ns.length ≤ 63 → Only H → SqL K H a (ns.map V.int) → spOf K Cl (ctxOf P (callN P n)) fl [.ref a] H (fun v _ => v = .bl true) fun _ _ _ => False := by
  intro H a ns hl _ hS
  have S : StOk K Cl [] H H [] := ⟨fun _ _ z => z, rfl, by simp, fun n a q => by simp at q, fun a q => by simp at q⟩
  have rs : Reps K [] H (ns.map V.int) (ns.map AV.int) := by
    clear hS hl
    induction ns with
    | nil => exact .nil
    | cons n ns ih => exact .cons (.int n) ih
  refine ⟨[], H, [], [.ro (ns.map AV.int)], fun d _ => d = .bl true, S, .cons (.ro hS rs) .nil, h ns hl, fun v d cs' F' H' h' _ _ r q => ?_⟩
  subst q
  cases r
  rfl
/-- the head of a law whose def keeps what FnG says -/
theorem head_G {P : Program} {W : World} {K : PySem.W.Frag} {gl mb : Str → Option Value} {k : Nat} {fa a : Addr} {fd : FuncData} {x : Str} {sp : Sp} {s1 : Shared} {vs : List Value} {ns : List Int}
    (KX : K.In s1.heap) (hns : s1.heap.Ns mainGlobals gl) (hb : s1.heap.Ns builtinsNs mb) (hbb : ∀ x : Str, x ≠ "__name__" → mb x = bootBuiltins x) (hlim : s1.heap.NoLimit) (hg : s1.gens = #[])
    (ha : s1.heap.get? a = some ⟨.type "list", none, .seq vs.toArray 0, #[]⟩) (hi : IntsAre vs ns) (hl : ns.length ≤ sizeLine) (room : Room k callerA)
    (F : ∀ B : Heap, K.In B → B.Ns mainGlobals gl → FnG P W K gl B k fa fd [x] sp) (bnd : ∀ (s : Shared) (u : Value), BindsTo s fd ⟨[u], []⟩ [(x, u)])
    (want : ∀ H : Hp, Only H → SqL K H a (ns.map V.int) → sp [.ref a] H (fun v _ => v = .bl true) fun _ _ _ => False) :
    codeAny (model P W) callerA (.call (.ref fa) ⟨[.ref a], []⟩) (fun r s2 => r = .ok (.ret (.bool true)) ∧ OldK s1.heap s2.heap ∧ s2.os = s1.os ∧ AllBare s2.gens) s1 := by
  have rel : Vals (ns.map V.int) vs := vals_ints hi
  have core : ∀ H : Hp, Only H → SqL K H a (ns.map V.int) → HOk P W H s1.heap → (∀ b, H b ≠ none → b = a ∧ K.lookup a = none) →
      codeAny (model P W) callerA (.call (.ref fa) ⟨[.ref a], []⟩) (fun r s2 => r = .ok (.ret (.bool true)) ∧ OldK s1.heap s2.heap ∧ s2.os = s1.os ∧ AllBare s2.gens) s1 := by
    intro H only sq ok at_
    have off : ∀ b o es ep, s1.heap.get? b = some o → o.data = .dict es ep → H b = none := by
      intro b o es ep e d
      apply Classical.byContradiction
      intro z
      obtain ⟨rfl, _⟩ := at_ b z
      rw [ha] at e
      cases e
      cases d
    have nsH : ∀ b m, s1.heap.Ns b m → (hidT s1.heap H).Ns b m := by
      rintro b m ⟨o, es, ep, e, d, r⟩
      exact ⟨o, es, ep, hidT_get e (off b o es ep e d), d, r⟩
    have inK : K.In (hidT s1.heap H) := by
      intro b o e
      refine hidT_get (KX b o e) (Classical.byContradiction fun z => ?_)
      obtain ⟨rfl, n⟩ := at_ b z
      rw [n] at e
      cases e
    obtain ⟨mc, c1, c2⟩ := hlim
    have md : Mod K gl (hidT s1.heap H) := ⟨inK, nsH _ _ hns, ⟨mb, nsH _ _ hb, hbb⟩, ⟨mc, nsH _ _ c1, c2⟩⟩
    have nofr : ∀ b, b ∈ frs [] → False := fun b z => by cases z
    have env : Env0 P W K gl (hidT s1.heap H) callerA [] s1 H := by
      refine ⟨rfl, md, fun b o e => of_hidT e, ?_, trivial, fun b z => (nofr b z).elim, ok, .of_eq hg⟩
      rw [hidT_size]
      exact Nat.le_refl _
    refine codeAny_mono ((F _ inK (nsH _ _ hns)).go callerA [] s1 H ⟨[.ref a], []⟩ [.ref a] [.ref a] _ _ rfl room env (bnd s1 (.ref a)) (.cons rfl .nil) (want H only sq)) ?_
    intro r s2 z
    match r, z with
    | .ok (.ret u), ⟨v, H2, os, bare, un, ok2, rv, q⟩ =>
      have q : v = .bl true := q
      subst q
      have rv : u = Value.bool true := rv
      subst rv
      refine ⟨rfl, OldK.of_keep ?_, os, bare⟩
      intro b o e
      cases hb : H b with
      | none => exact un.keep b o e hb (fun z => nofr b z) (by simp)
      | some y =>
        rcases only b with z | ⟨ob, xs, z⟩
        · rw [hb] at z; cases z
        · have f1 := (ok b _ z).1
          have f2 := (ok2 b _ (un.frzs b ob _ z)).1
          rw [e] at f1
          cases f1
          exact f2
    | .ok .next, z => exact z.elim
    | .ok .brk, z => exact z.elim
    | .ok .cont, z => exact z.elim
    | .error _, z => exact z.elim
  cases at_ : K.lookup a with
  | some o =>
    have e := KX a o at_
    rw [ha] at e
    cases e
    refine core (fun _ => none) (fun _ => .inl rfl) (.inr ⟨_, vs.toArray, 0, at_, rfl, rfl, rfl, ?_, by simpa using rel⟩) (fun b u z => nomatch z) fun b z => absurd rfl z
    rw [List.size_toArray, hi.length]
    exact hl
  | none =>
    have me : (fun b => if b = a then some (HO.frz ⟨.type "list", none, .seq vs.toArray 0, #[]⟩ (.lst (ns.map V.int))) else none) a = some (HO.frz ⟨.type "list", none, .seq vs.toArray 0, #[]⟩ (.lst (ns.map V.int))) := if_pos rfl
    have no : ∀ b, b ≠ a → (fun b => if b = a then some (HO.frz ⟨.type "list", none, .seq vs.toArray 0, #[]⟩ (.lst (ns.map V.int))) else none) b = none := fun b z => if_neg z
    refine core _ (fun b => ?_) (.inl (.inr ⟨_, me⟩)) (fun b u z => ?_) fun b z => ⟨Classical.byContradiction fun n => z (no b n), at_⟩
    · by_cases n : b = a
      · subst n; exact .inr ⟨_, _, me⟩
      · exact .inl (no b n)
    · by_cases n : b = a
      · subst n
        cases me.symm.trans z
        exact ⟨ha, by rw [List.length_map]; exact hl, vs, _, rel, ha⟩
      · cases (no b n).symm.trans z
theorem walk_G {l : PySem.W.OpenLaw} {n k : Nat} {q : Program} {loose : List Str} {XP : (Str → Option Value) → Heap → Prop} {YP : World → Heap → Prop} {d : DefRec} {K : Params → PySem.W.Frag} {x : Str}
    (hn : l.most = some n) (hn2 : n ≤ sizeLine) (hdf : d.params.defaults = []) (room : Room k callerA) (hY : ∀ (w : World) (h : Heap), YP w h → (K w.params).In h)
    (F : ∀ (w : World) (gl : Str → Option Value) (fa : Addr) (h : Heap), (K w.params).In h → h.Ns mainGlobals gl → gl d.name = some (.ref fa) →
      ∃ (fd : FuncData) (sp : Sp), (∀ (s : Shared) (u : Value), BindsTo s fd ⟨[u], []⟩ [(x, u)]) ∧ (∀ B : Heap, (K w.params).In B → B.Ns mainGlobals gl → FnG l.prog w (K w.params) gl B k fa fd [x] sp) ∧
        ∀ (H : Hp) (a : Addr) (ns : List Int), ns.length ≤ n → Only H → SqL (K w.params) H a (ns.map V.int) → sp [.ref a] H (fun v _ => v = .bl true) fun _ _ _ => False) :
    PySem.W.WalkO q loose XP YP l.row.toRowW d [] (fun f vs => PySem.call f vs) := by
  refine Att.attach_call hn hdf fun w s0 s1 gl mb fa o pm cd dc a vs ns G Y ho hd hcd hm hobj hints hlen hg => ?_
  have KX := hY w s1.heap Y
  obtain ⟨fd, sp, bnd, hF, want⟩ := F w gl fa s1.heap KX G.T.g hm
  exact head_G KX G.T.g G.T.b G.T.builtins G.T.nolimit hg hobj hints (Nat.le_trans hlen hn2) room hF bnd fun H hO hS => want H a ns hlen hO hS
end VL

set_option maxRecDepth 100000
set_option maxHeartbeats 4000000
/-! VL: reasoning over the transformers. -/
namespace VL
open PySem L2

section
variable {h : AHeap} {Q : KA} {i j : Int} {x y : AV} {s t : Str} {b c : Bool} {xs ys : List AV}
theorem k_add : binK h .Add (.int i) (.int j) Q = Q (.int (i + j)) := rfl
theorem k_addS : binK h .Add (.str s) (.str t) Q = (s.length + t.length ≤ sizeLine ∧ Q (.str (s ++ t))) := rfl
theorem k_addT : binK h .Add (.tup xs) (.tup ys) Q = (xs.length + ys.length ≤ sizeLine ∧ Q (.tup (xs ++ ys))) := rfl
theorem k_sub : binK h .Sub (.int i) (.int j) Q = Q (.int (i - j)) := rfl
theorem k_mul : binK h .Mult (.int i) (.int j) Q = (CMulA i j ∧ Q (.int (i * j))) := rfl
theorem k_mulS : binK h .Mult (.str s) (.int j) Q = ((-(2 ^ 60) < j ∧ j < 2 ^ 60 ∧ s.length * j.toNat ≤ 1000000) ∧ Q (.str (strRep s j))) := rfl
theorem k_fdiv : binK h .FloorDiv (.int i) (.int j) Q = (CDivA j ∧ Q (.int (i / j))) := rfl
theorem k_mod : binK h .Mod (.int i) (.int j) Q = (0 < j ∧ Q (.int (i % j))) := rfl
theorem k_pow : binK h .Pow (.int i) (.int j) Q = (CPow i j ∧ Q (.int (i ^ j.toNat))) := rfl
theorem k_neg : negK (.int i) Q = Q (.int (-i)) := rfl
theorem k_lt : cmpK h .Lt (.int i) (.int j) Q = Q (.bl (decide (i < j))) := rfl
theorem k_le : cmpK h .LtE (.int i) (.int j) Q = Q (.bl (decide (i ≤ j))) := rfl
theorem k_gt : cmpK h .Gt (.int i) (.int j) Q = Q (.bl (decide (j < i))) := rfl
theorem k_ge : cmpK h .GtE (.int i) (.int j) Q = Q (.bl (decide (j ≤ i))) := rfl
theorem k_eqI : cmpK h .Eq (.int i) (.int j) Q = Q (.bl (decide (i = j))) := rfl
theorem k_neI : cmpK h .NotEq (.int i) (.int j) Q = Q (.bl (!decide (i = j))) := rfl
theorem k_eqS : cmpK h .Eq (.str s) (.str t) Q = Q (.bl (decide (s = t))) := rfl
theorem k_neS : cmpK h .NotEq (.str s) (.str t) Q = Q (.bl (!decide (s = t))) := rfl
theorem k_eqB : cmpK h .Eq (.bl b) (.bl c) Q = Q (.bl (decide (b = c))) := rfl
theorem k_neB : cmpK h .NotEq (.bl b) (.bl c) Q = Q (.bl (!decide (b = c))) := rfl
theorem k_is : cmpK h .Is x .non Q = Q (.bl (isNon x)) := rfl
theorem k_isn : cmpK h .IsNot x .non Q = Q (.bl (!isNon x)) := rfl
theorem k_isB : cmpK h .Is (.bl b) (.bl c) Q = Q (.bl (decide (b = c))) := rfl
theorem k_isnB : cmpK h .IsNot (.bl b) (.bl c) Q = Q (.bl (!decide (b = c))) := rfl
theorem k_gIn {kvs : List (Str × Int)} {R : Bool → Prop} : gInK (some kvs) b (.str s) R = R (if b then !(kvs.lookup s).isSome else (kvs.lookup s).isSome) := rfl
theorem k_gGet {kvs : List (Str × Int)} (e : kvs.lookup s = some i) (q : Q (.int i)) : gGetK (some kvs) (.str s) Q := by
  show (match kvs.lookup s with | some i => Q (.int i) | none => False)
  rw [e]; exact q
theorem k_isC {n c : Nat} {fs : List (Str × AV)} (e : cells h n = .obj c fs) (q : Q (.bl true)) : isCK h c (.adr n) Q := by
  show (match cells h n with | .obj c' _ => c' = c ∧ Q (.bl true) | _ => False)
  rw [e]; exact ⟨rfl, q⟩
theorem k_in : cmpK h .In x y Q = inK h false x y Q := rfl
theorem k_nin : cmpK h .NotIn x y Q = inK h true x y Q := rfl
theorem k_inS {c : Nat} {b : Bool} : inK h b (.str ⟨#[c]⟩) (.str t) Q = Q (.bl (if b then !decide (c ∈ t.cps.toList) else decide (c ∈ t.cps.toList))) := rfl
theorem k_inF {b : Bool} (hx : flatA x = true) (hy : viewT h y = some xs) (hf : xs.all flatA = true) (hn : ∀ z, y ≠ .str z) (q : Q (.bl (if b then !(xs.any fun y => eqF y x) else xs.any fun y => eqF y x))) : inK h b x y Q := by
  unfold inK
  split
  · exact absurd rfl (hn _)
  · rw [hy]
    exact .inl ⟨hx, hf, q⟩
/-- membership among data -/
theorem k_inD {b : Bool} {d : PyData} {ds : List PyData} (hy : viewT h y = some xs) (hn : ∀ z, y ≠ .str z) (h1 : pdH h x = some d) (h2 : pdHs h xs = some ds) (s1 : SeqAt.shaped d = true) (s2 : ds.all SeqAt.shaped = true)
    (q : Q (.bl (if b then !(ds.any fun y => PyData.eqv y d) else ds.any fun y => PyData.eqv y d))) : inK h b x y Q := by
  unfold inK
  split
  · exact absurd rfl (hn _)
  · rw [hy]
    exact .inr ⟨d, ds, h1, h2, s1, s2, q⟩
theorem isi_non_int : isiK .non "int" h Q = Q (.bl false) := by simp [isiK, view]
theorem isi_non_bool : isiK .non "bool" h Q = Q (.bl false) := by simp [isiK, view]
theorem isi_non_str : isiK .non "str" h Q = Q (.bl false) := by simp [isiK, view]
theorem isi_non_list : isiK .non "list" h Q = Q (.bl false) := by simp [isiK, view]
theorem isi_non_tuple : isiK .non "tuple" h Q = Q (.bl false) := by simp [isiK, view]
theorem isi_bl_int : isiK (.bl b) "int" h Q = Q (.bl true) := by simp [isiK, view]
theorem isi_bl_bool : isiK (.bl b) "bool" h Q = Q (.bl true) := by simp [isiK, view]
theorem isi_bl_str : isiK (.bl b) "str" h Q = Q (.bl false) := by simp [isiK, view]
theorem isi_bl_list : isiK (.bl b) "list" h Q = Q (.bl false) := by simp [isiK, view]
theorem isi_bl_tuple : isiK (.bl b) "tuple" h Q = Q (.bl false) := by simp [isiK, view]
theorem isi_int_int : isiK (.int i) "int" h Q = Q (.bl true) := by simp [isiK, view]
theorem isi_int_bool : isiK (.int i) "bool" h Q = Q (.bl false) := by simp [isiK, view]
theorem isi_int_str : isiK (.int i) "str" h Q = Q (.bl false) := by simp [isiK, view]
theorem isi_int_list : isiK (.int i) "list" h Q = Q (.bl false) := by simp [isiK, view]
theorem isi_int_tuple : isiK (.int i) "tuple" h Q = Q (.bl false) := by simp [isiK, view]
theorem isi_str_int : isiK (.str s) "int" h Q = Q (.bl false) := by simp [isiK, view]
theorem isi_str_bool : isiK (.str s) "bool" h Q = Q (.bl false) := by simp [isiK, view]
theorem isi_str_str : isiK (.str s) "str" h Q = Q (.bl true) := by simp [isiK, view]
theorem isi_str_list : isiK (.str s) "list" h Q = Q (.bl false) := by simp [isiK, view]
theorem isi_str_tuple : isiK (.str s) "tuple" h Q = Q (.bl false) := by simp [isiK, view]
theorem isi_tup_int : isiK (.tup xs) "int" h Q = Q (.bl false) := by simp [isiK, view]
theorem isi_tup_bool : isiK (.tup xs) "bool" h Q = Q (.bl false) := by simp [isiK, view]
theorem isi_tup_str : isiK (.tup xs) "str" h Q = Q (.bl false) := by simp [isiK, view]
theorem isi_tup_list : isiK (.tup xs) "list" h Q = Q (.bl false) := by simp [isiK, view]
theorem isi_tup_tuple : isiK (.tup xs) "tuple" h Q = Q (.bl true) := by simp [isiK, view]
theorem isi_lst_int : isiK (.lst xs) "int" h Q = Q (.bl false) := by simp [isiK, view]
theorem isi_lst_bool : isiK (.lst xs) "bool" h Q = Q (.bl false) := by simp [isiK, view]
theorem isi_lst_str : isiK (.lst xs) "str" h Q = Q (.bl false) := by simp [isiK, view]
theorem isi_lst_list : isiK (.lst xs) "list" h Q = Q (.bl true) := by simp [isiK, view]
theorem isi_lst_tuple : isiK (.lst xs) "tuple" h Q = Q (.bl false) := by simp [isiK, view]
theorem isi_ro_int : isiK (.ro xs) "int" h Q = Q (.bl false) := by simp [isiK, view]
theorem isi_ro_bool : isiK (.ro xs) "bool" h Q = Q (.bl false) := by simp [isiK, view]
theorem isi_ro_str : isiK (.ro xs) "str" h Q = Q (.bl false) := by simp [isiK, view]
theorem isi_ro_list : isiK (.ro xs) "list" h Q = Q (.bl true) := by simp [isiK, view]
theorem isi_ro_tuple : isiK (.ro xs) "tuple" h Q = Q (.bl false) := by simp [isiK, view]
theorem k_intB : bltK h .int [.bl b] Q = Q (.int (if b = true then 1 else 0)) := rfl
theorem isNon_non : isNon .non = true := rfl
theorem isNon_int : isNon (.int i) = false := rfl
theorem isNon_str : isNon (.str s) = false := rfl
theorem isNon_lst : isNon (.lst xs) = false := rfl
theorem isNon_tup : isNon (.tup xs) = false := rfl
theorem isNon_adr {n : Nat} : isNon (.adr n) = false := rfl
theorem k_subL (hv : viewT h x = some xs) (hn : ∀ z, x ≠ .str z) {d : AV} (e : atI xs i = some d) (q : Q d) : subK h x (.int i) Q := by
  unfold subK
  split
  · exact absurd rfl (hn _)
  · rw [hv]
    simp only [e]
    exact q
theorem k_subS {k : Nat} (hz : s.length ≤ sizeLine) {c : Nat} (e : s.cps.toList[k]? = some c) (q : Q (.str ⟨#[c]⟩)) : subK h (.str s) (.int (k : Int)) Q := by
  have hk : k < s.cps.toList.length := (List.getElem?_eq_some_iff.mp e).1
  have : atI s.cps.toList (k : Int) = some c := by
    unfold atI
    rw [Evl.ixN_nat hk]
    exact e
  refine ⟨hz, ?_⟩
  rw [this]
  exact q
theorem atI_nat {α : Type} {l : List α} {k : Nat} (hk : k < l.length) : atI l (k : Int) = l[k]? := by
  unfold atI
  rw [Evl.ixN_nat hk]
  rfl
theorem k_lenS : bltK h .len [.str s] Q = (s.length ≤ sizeLine ∧ Q (.int s.length)) := rfl
theorem k_lenL : bltK h .len [.lst xs] Q = Q (.int xs.length) := rfl
theorem k_lenR : bltK h .len [.ro xs] Q = Q (.int xs.length) := rfl
theorem k_lenT : bltK h .len [.tup xs] Q = Q (.int xs.length) := rfl
theorem k_abs : bltK h .abs [.int i] Q = Q (.int (if i < 0 then -i else i)) := rfl
theorem k_int : bltK h .int [.int i] Q = Q (.int i) := rfl
theorem k_intS {n : Int} (e : PySem.intText? s = some n) (hz : s.length ≤ 640) (q : Q (.int n)) : bltK h .int [.str s] Q := by
  show (match PySem.intText? s with | some n => s.length ≤ 640 ∧ Q (.int n) | none => False)
  rw [e]
  exact ⟨hz, q⟩
theorem k_str : bltK h .str [.int i] Q = (i.natAbs.log2 < 1920 ∧ Q (.str (toString i))) := rfl
theorem k_max2 : bltK h .max2 [.int i, .int j] Q = Q (.int (if j > i then j else i)) := rfl
theorem k_min2 : bltK h .min2 [.int i, .int j] Q = Q (.int (if j < i then j else i)) := rfl
theorem k_sliceS {lo hi : Option Int} : sliceK h (.str s) lo hi Q = (s.length ≤ sizeLine ∧ Q (.str (cutS s lo hi))) := rfl
theorem k_sliceT {lo hi : Option Int} : sliceK h (.tup xs) lo hi Q = Q (.tup (cut xs lo hi)) := rfl
theorem zs_lst : zs (.lst xs) = some xs := rfl
theorem zs_tup : zs (.tup xs) = some xs := rfl
theorem viewT_lst : viewT h (.lst xs) = some xs := rfl
theorem viewT_ro : viewT h (.ro xs) = some xs := rfl
theorem viewT_tup : viewT h (.tup xs) = some xs := rfl
theorem view_lst : view h (.lst xs) = some xs := rfl
theorem view_ro : view h (.ro xs) = some xs := rfl
theorem viewW_lst : viewW h (.lst xs) = some xs := rfl
theorem tru_bl : truK h (.bl b) = fun Q => Q b := rfl
theorem asStrs_map (l : List Str) : asStrs (l.map AV.str) = some l := by
  induction l with
  | nil => rfl
  | cons x l ih => simp [asStrs, ih]
theorem asBools_map (l : List Bool) : asBools (l.map AV.bl) = some l := by
  induction l with
  | nil => rfl
  | cons x l ih => simp [asBools, ih]
end
theorem mulA_r {i j : Int} (h1 : -18446744073709551616 < j) (h2 : j < 18446744073709551616) : CMulA i j := by
  have e : (2 ^ 64 : Int) = 18446744073709551616 := by decide
  refine .inl (.inr ⟨?_, ?_⟩) <;> omega
theorem mulA_l {i j : Int} (h1 : -18446744073709551616 < i) (h2 : i < 18446744073709551616) : CMulA i j := by
  have e : (2 ^ 64 : Int) = 18446744073709551616 := by decide
  refine .inl (.inl ⟨?_, ?_⟩) <;> omega
theorem divA {j : Int} (h1 : 0 < j) (h2 : j < 18446744073709551616) : CDivA j := ⟨h1, by
  have : j.natAbs < 2 ^ 64 := by
    have e : (2 ^ 64 : Nat) = 18446744073709551616 := by decide
    omega
  have := PySem.Flt.log2_lt_of (by decide : 0 < 64) this
  omega⟩

/-! ### loops -/
/-- a for by an invariant; the body is shown for any ends that follow from it -/
theorem for_invX {B : AV → Kt → Env → AHeap → Prop} {chk : AHeap → Prop} {D : Kt} {xs : List AV} {ρ : Env} {h : AHeap} (Inv : Nat → Env → AHeap → Prop) (h0 : Inv 0 ρ h) (hc : ∀ i ρ h, i ≤ xs.length → Inv i ρ h → chk h)
    (hs : ∀ i x ρ h (D' : Kt), xs[i]? = some x → Inv i ρ h → (∀ ρ h, Inv (i + 1) ρ h → D'.nx ρ h) → (∀ ρ h, Inv (i + 1) ρ h → D'.ct ρ h) → (∀ v h, D.rt v h → D'.rt v h) → (∀ ρ h, D.nx ρ h → D'.bk ρ h) → (∀ c n h, D.ex c n h → D'.ex c n h) → B x D' ρ h)
    (hd : ∀ ρ h, Inv xs.length ρ h → D.nx ρ h) : forL B chk D xs ρ h := by
  have key : ∀ (ys : List AV) (i : Nat), xs.drop i = ys → i ≤ xs.length → ∀ ρ h, Inv i ρ h → forL B chk D ys ρ h := by
    intro ys
    induction ys with
    | nil =>
      intro i e hi ρ h hI
      have : i = xs.length := by
        have := List.drop_eq_nil_iff.mp e
        omega
      subst this
      exact ⟨hc _ _ _ hi hI, hd _ _ hI⟩
    | cons y ys ih =>
      intro i e hi ρ h hI
      have hlt : i < xs.length := by
        cases Nat.lt_or_ge i xs.length with
        | inl q => exact q
        | inr q => rw [List.drop_of_length_le q] at e; cases e
      have hx : xs[i]? = some y := by
        rw [List.drop_eq_getElem_cons hlt] at e
        cases e
        exact List.getElem?_eq_getElem hlt
      have ht : xs.drop (i + 1) = ys := by
        rw [List.drop_eq_getElem_cons hlt] at e
        exact (List.cons.inj e).2
      exact ⟨hc _ _ _ hi hI, hs i y ρ h _ hx hI (fun ρ h q => ih (i + 1) ht hlt ρ h q) (fun ρ h q => ih (i + 1) ht hlt ρ h q) (fun _ _ q => q) (fun _ _ q => q) (fun _ _ _ q => q)⟩
  exact key xs 0 rfl (Nat.zero_le _) ρ h h0
theorem for_inv {B : AV → Kt → Env → AHeap → Prop} {chk : AHeap → Prop} {D : Kt} {xs : List AV} {ρ : Env} {h : AHeap} (Inv : Nat → Env → AHeap → Prop) (h0 : Inv 0 ρ h) (hc : ∀ i ρ h, i ≤ xs.length → Inv i ρ h → chk h)
    (hs : ∀ i x ρ h (D' : Kt), xs[i]? = some x → Inv i ρ h → (∀ ρ h, Inv (i + 1) ρ h → D'.nx ρ h) → (∀ ρ h, Inv (i + 1) ρ h → D'.ct ρ h) → (∀ v h, D.rt v h → D'.rt v h) → (∀ ρ h, D.nx ρ h → D'.bk ρ h) → B x D' ρ h)
    (hd : ∀ ρ h, Inv xs.length ρ h → D.nx ρ h) : forL B chk D xs ρ h :=
  for_invX Inv h0 hc (fun i x ρ h D' a b c d e f _ => hs i x ρ h D' a b c d e f) hd
/-- a comprehension by an invariant over what it has made -/
theorem comp_inv {B : AV → AHeap → (Option AV → AHeap → Prop) → Prop} {chk : AHeap → Prop} {xs acc : List AV} {h : AHeap} {Q : List AV → AHeap → Prop} (Inv : Nat → List AV → AHeap → Prop) (h0 : Inv 0 acc h) (hc : ∀ i a h, i ≤ xs.length → Inv i a h → chk h)
    (hs : ∀ i x a h R, xs[i]? = some x → Inv i a h → (∀ (y : AV) h', Inv (i + 1) (a ++ [y]) h' → R (some y) h') → (∀ h', Inv (i + 1) a h' → R none h') → B x h R) (hd : ∀ a h, Inv xs.length a h → Q a h) : compL B chk xs acc h Q := by
  have key : ∀ (ys : List AV) (i : Nat), xs.drop i = ys → i ≤ xs.length → ∀ a h, Inv i a h → compL B chk ys a h Q := by
    intro ys
    induction ys with
    | nil =>
      intro i e hi a h hI
      have : i = xs.length := by
        have := List.drop_eq_nil_iff.mp e
        omega
      subst this
      exact ⟨hc _ _ _ hi hI, hd _ _ hI⟩
    | cons y ys ih =>
      intro i e hi a h hI
      have hlt : i < xs.length := by
        cases Nat.lt_or_ge i xs.length with
        | inl q => exact q
        | inr q => rw [List.drop_of_length_le q] at e; cases e
      have hx : xs[i]? = some y := by
        rw [List.drop_eq_getElem_cons hlt] at e
        cases e
        exact List.getElem?_eq_getElem hlt
      have ht : xs.drop (i + 1) = ys := by
        rw [List.drop_eq_getElem_cons hlt] at e
        exact (List.cons.inj e).2
      exact ⟨hc _ _ _ hi hI, hs i y a h _ hx hI (fun y h q => ih (i + 1) ht hlt _ h q) (fun h q => ih (i + 1) ht hlt _ h q)⟩
  exact key xs 0 rfl (Nat.zero_le _) acc h h0
/-- a comprehension without a test whose items make what f says, the heap as it was -/
theorem comp_map {B : AV → AHeap → (Option AV → AHeap → Prop) → Prop} {xs : List AV} {h : AHeap} {Q : List AV → AHeap → Prop} (f : Nat → AV) (hs : ∀ i x R, xs[i]? = some x → R (some (f i)) h → B x h R) (hd : Q ((List.range xs.length).map f) h) :
    compL B (fun _ => True) xs [] h Q := by
  refine comp_inv (fun i a h' => a = (List.range i).map f ∧ h' = h) ⟨rfl, rfl⟩ (fun _ _ _ _ _ => trivial) ?_ ?_
  · rintro i x a h' R hx ⟨rfl, rfl⟩ k1 k2
    exact hs i x R hx (k1 _ _ ⟨by rw [List.range_succ, List.map_append]; rfl, rfl⟩)
  · rintro a h' ⟨rfl, rfl⟩
    exact hd
/-- a while by an invariant and a measure -/
theorem wh_inv {T : Env → AHeap → (Bool → AHeap → Prop) → Prop} {B : Kt → Env → AHeap → Prop} {D : Kt} {ρ : Env} {h : AHeap} (W : Nat → Env → AHeap → Prop) (m0 : Nat) (h0 : W m0 ρ h)
    (hs : ∀ m ρ h (D' : Kt), W m ρ h → (∀ m' ρ h, m' < m → W m' ρ h → D'.nx ρ h) → (∀ m' ρ h, m' < m → W m' ρ h → D'.ct ρ h) → (∀ v h, D.rt v h → D'.rt v h) → (∀ ρ h, D.nx ρ h → D'.bk ρ h) → T ρ h fun b h1 => if b = true then B D' ρ h1 else D.nx ρ h1) : whL T B D ρ h :=
  ⟨W, ⟨m0, h0⟩, fun m ρ h w => hs m ρ h _ w (fun m' _ _ a b => ⟨m', a, b⟩) (fun m' _ _ a b => ⟨m', a, b⟩) (fun _ _ q => q) (fun _ _ q => q)⟩
theorem ite_b {c : Prop} [Decidable c] {A B : Prop} (h1 : c → A) (h2 : ¬ c → B) : if decide c = true then A else B := by
  by_cases h : c
  · rw [if_pos (decide_eq_true h)]; exact h1 h
  · rw [if_neg (by rw [decide_eq_false h]; decide)]; exact h2 h
theorem ite_p {c : Prop} [Decidable c] {A B : Prop} (h1 : c → A) (h2 : ¬ c → B) : if c then A else B := by
  by_cases h : c
  · rw [if_pos h]; exact h1 h
  · rw [if_neg h]; exact h2 h
theorem ctx_call {P : Prg} {c} : (ctxOf P c).call = c := rfl
theorem ctx_gdct {P : Prg} {c} {g : Nat} : (ctxOf P c).gdct g = P.gdct.lookup g := rfl
theorem ctx_glob {P : Prg} {c} {g : Nat} : (ctxOf P c).glob g = P.glob.lookup g := rfl
theorem items_range {n : Nat} {f : Nat → AV} {i : Nat} {x : AV} (h : ((List.range n).map f)[i]? = some x) : i < n ∧ x = f i := by
  rw [List.getElem?_map] at h
  obtain ⟨j, h1, rfl⟩ := Option.map_eq_some_iff.mp h
  have h2 := List.getElem?_eq_some_iff.mp h1
  obtain ⟨h3, h4⟩ := h2
  simp at h3 h4
  exact ⟨h3, by rw [h4]⟩
theorem items_map {α : Type} {l : List α} {f : α → AV} {i : Nat} {x : AV} (h : (l.map f)[i]? = some x) : ∃ a, l[i]? = some a ∧ x = f a := by
  rw [List.getElem?_map] at h
  obtain ⟨j, h1, rfl⟩ := Option.map_eq_some_iff.mp h
  exact ⟨j, h1, rfl⟩
theorem cut_take {α : Type} (l : List α) (i j n : Nat) (e : n = l.length) : (l.drop (min i n)).take (min j n - min i n) = (l.drop i).take (j - i) := by
  subst e
  by_cases hi : l.length ≤ i
  · rw [Nat.min_eq_right hi, List.drop_of_length_le (Nat.le_refl _), List.drop_of_length_le hi]; simp
  · rw [Nat.min_eq_left (by omega : i ≤ l.length)]
    by_cases hj : j ≤ l.length
    · rw [Nat.min_eq_left hj]
    · rw [Nat.min_eq_right (by omega : l.length ≤ j), List.take_of_length_le (by simp), List.take_of_length_le (by simp; omega)]
theorem cut_ss {α : Type} (l : List α) (i j : Nat) : cut l (some (i : Int)) (some (j : Int)) = (l.drop i).take (j - i) := by
  unfold cut
  rw [HT.sIx_nat, HT.sIx_nat, cut_take _ _ _ _ rfl]
theorem cut_ns {α : Type} (l : List α) (j : Nat) : cut l none (some (j : Int)) = l.take j := by
  have := cut_ss l 0 j
  rw [List.drop_zero, Nat.sub_zero] at this
  rw [← this]
  unfold cut
  rw [HT.sIx_nat, HT.sIx_nat, HT.sIx_none, Nat.zero_min]
theorem cut_sn {α : Type} (l : List α) (i : Nat) : cut l (some (i : Int)) none = l.drop i := by
  have := cut_ss l i l.length
  rw [List.take_of_length_le (by simp)] at this
  rw [← this]
  unfold cut
  rw [HT.sIx_nat, HT.sIx_nat, HT.sIx_none, Nat.min_self]
theorem look_mem {α β : Type} [BEq α] [LawfulBEq α] {l : List (α × β)} {k : α} {v : β} (h : l.lookup k = some v) : (k, v) ∈ l := by
  induction l with
  | nil => cases h
  | cons x l ih =>
    obtain ⟨a, b⟩ := x
    rw [List.lookup_cons] at h
    cases e : k == a with
    | true =>
      rw [e] at h
      have h : some b = some v := h
      cases h
      rw [eq_of_beq e]
      exact List.mem_cons_self ..
    | false =>
      rw [e] at h
      exact List.mem_cons_of_mem _ (ih h)
theorem call_of {P : Prg} {n f : Nat} {F : Fn} {args : List AV} {h : AHeap} {Q : AV → AHeap → Prop} (e : P.fns.lookup f = some F) (l : args.length = F.np) (w : WpSs (ctxOf P (callN P n)) F.body { nx := fun _ h => Q .non h, rt := Q } (startS F args) h) : callN P (n + 1) f args h Q := by
  show (match P.fns.lookup f with | none => (match P.tryf.lookup f with | some t => tryW P (callN P n) t args h Q | none => False) | some F => args.length = F.np ∧ WpSs (ctxOf P (callN P n)) F.body { nx := fun _ h => Q .non h, rt := Q } (startS F args) h)
  rw [e]
  exact ⟨l, w⟩
theorem body_of {P : Prg} {rec : Nat → List AV → AHeap → (AV → AHeap → Prop) → Prop} {f : Nat} {F : Fn} {args : List AV} {h : AHeap} {Q : AV → AHeap → Prop} {E : Nat → Int → AHeap → Prop} (e : P.fns.lookup f = some F) (l : args.length = F.np)
    (w : WpSs (ctxOf P rec) F.body { nx := fun _ h => Q .non h, rt := Q, ex := E } (startS F args) h) : bodyW P rec f args h Q E := by
  unfold bodyW
  rw [e]
  exact ⟨l, w⟩
theorem try_of {P : Prg} {n f : Nat} {t : TryF} {args xs : List AV} {h : AHeap} {Q : AV → AHeap → Prop} (e0 : P.fns.lookup f = none) (e : P.tryf.lookup f = some t) (l : args.length = t.np) (ha : argV args t.args = some xs)
    (w : bodyW P (callN P n) t.g xs h (fun v h2 => match okV t v with
      | some d => Q d h2
      | none => False) (fun c n h2 => match tryV P c n t with
      | some d => Q d h2
      | none => False)) : callN P (n + 1) f args h Q := by
  show (match P.fns.lookup f with | none => (match P.tryf.lookup f with | some t => tryW P (callN P n) t args h Q | none => False) | some F => args.length = F.np ∧ WpSs (ctxOf P (callN P n)) F.body { nx := fun _ h => Q .non h, rt := Q } (startS F args) h)
  rw [e0]
  show (match P.tryf.lookup f with | some t => tryW P (callN P n) t args h Q | none => False)
  rw [e]
  refine ⟨l, ?_⟩
  rw [ha]
  exact w
theorem clsIn_of {K : PySem.W.Frag} {nm q : Str} {C N : Addr} {bs bm : List Value} {hdct : Bool} {sn : List Str} {sub : List Value} {ab : Bool} {col : Option Bool} {dd : Option Addr} {k0 k1 k2 k3 k5 : Option Value} {newId : String}
    (h : K.lookup C = some (excClassObj nm q C N bs bm hdct sn sub ab col dd k0 k1 k2 k3 k5 newId)) : (PySem.W.clsIn K C).isSome = true := by
  unfold PySem.W.clsIn
  rw [h]
  rfl
theorem exm_of {K : PySem.W.Frag} {t : Value} {D : Addr} {b : Bool} (h1 : PySem.W.subIn K (.ref D) (.type "BaseException") = some true) (h2 : (PySem.W.clsIn K D).isSome = true) (h3 : PySem.W.typeIn K (.ref D) = some (.type "type")) (h4 : PySem.W.subIn K t (.ref D) = some b) :
    PySem.W.exmOne K t (.ref D) = some b := by
  unfold PySem.W.exmOne PySem.W.kitCls
  simp only [h1, h2, h3]
  simpa using h4
/-- of all that stand in a table -/
def AllP {α β : Type} (G : α → β → Prop) : List (α × β) → Prop
  | [] => True
  | (f, F) :: r => G f F ∧ AllP G r
theorem look_all {α β : Type} [BEq α] [LawfulBEq α] {G : α → β → Prop} {k : α} {v : β} : ∀ {l : List (α × β)}, AllP G l → l.lookup k = some v → G k v
  | [], _, h => by cases h
  | (a, b) :: l, g, h => by
    rw [List.lookup_cons] at h
    cases e : k == a with
    | true =>
      rw [e] at h
      have h : some b = some v := h
      cases h
      rw [eq_of_beq e]
      exact g.1
    | false =>
      rw [e] at h
      exact look_all g.2 h
end VL

set_option maxRecDepth 100000
set_option maxHeartbeats 4000000
namespace Kq
open PySem L2 VL

def b_shifted : Ss := (.cons (.ret (.tup (.cons (.sub (.var 0) (.cint 0)) (.cons (.bin .Add (.sub (.var 0) (.cint 1)) (.var 1)) .nil)))) .nil)
def b_less : Ss := (.cons (.ret (.tup (.cons (.sub (.var 0) (.cint 0)) (.cons (.sub (.var 1) (.cint 0)) (.cons (.bin .Sub (.bin .Sub (.sub (.var 1) (.cint 1)) (.sub (.var 0) (.cint 1))) (.cint 1)) .nil))))) .nil)
def b_at_most : Ss := (.cons (.ret (.tup (.cons (.sub (.var 0) (.cint 0)) (.cons (.sub (.var 1) (.cint 0)) (.cons (.bin .Sub (.sub (.var 1) (.cint 1)) (.sub (.var 0) (.cint 1))) .nil))))) .nil)
def b_opposite : Ss := (.cons (.asg (.tup [1, 2, 3]) (.var 0)) (.cons (.ret (.tup (.cons (.var 2) (.cons (.var 1) (.cons (.bin .Sub (.neg (.var 3)) (.cint 1)) .nil))))) .nil))
def b_Known___init__ : Ss := (.cons (.fld (.var 0) "many" (.var 1)) (.cons (.fld (.var 0) "differences" (.new (.listOf (.var 2)))) (.cons (.fld (.var 0) "lists" (.new (.listOf (.var 3)))) (.cons (.fld (.var 0) "cells" (.new (.listOf (.var 4)))) (.cons (.fld (.var 0) "taken" (.new (.listOf (.var 5)))) (.cons (.fld (.var 0) "fresh" (.new (.listOf (.var 6)))) .nil))))))
def b_Known_new_number : Ss := (.cons (.fld (.var 0) "many" (.bin .Add (.attr (.var 0) "many") (.cint 1))) (.cons (.ret (.tup (.cons (.attr (.var 0) "many") (.cons (.cint 0) .nil)))) .nil))
def b_Known_length_1 : Ss := (.cons (.asg (.nm 1) (.sub (.sub (.attr (.var 0) "lists") (.var 1)) (.cint 1))) .nil)
def b_Known_length_2 : Ss := (.cons (.ret (.sub (.sub (.attr (.var 0) "lists") (.var 1)) (.cint 1))) .nil)
def b_Known_length : Ss := (.cons (.wh (.cmp .Eq (.sub (.sub (.attr (.var 0) "lists") (.var 1)) (.cint 0)) (.cstr "written")) b_Known_length_1) b_Known_length_2)
def b_Known_cell_1 : Ss := (.cons (.ite (.and (.cmp .Eq (.var 3) (.var 1)) (.cmp .Eq (.var 4) (.var 2))) (.cons (.ret (.var 5)) .nil) .nil) .nil)
def b_Known_cell_2 : Ss := (.cons (.asg (.nm 5) (.mcall (.var 0) "new_number" .nil)) (.cons (.appE (.attr (.var 0) "cells") (.tup (.cons (.var 1) (.cons (.var 2) (.cons (.var 5) .nil))))) (.cons (.ret (.var 5)) .nil)))
def b_Known_cell : Ss := (.cons (.for (.tup [3, 4, 5]) (.seq (.attr (.var 0) "cells")) b_Known_cell_1) b_Known_cell_2)
class U (P : Prg) : Prop where
  f_shifted : P.fns.lookup 194 = some ⟨2, 2, b_shifted⟩
  f_less : P.fns.lookup 191 = some ⟨2, 2, b_less⟩
  f_at_most : P.fns.lookup 192 = some ⟨2, 2, b_at_most⟩
  f_opposite : P.fns.lookup 193 = some ⟨1, 4, b_opposite⟩
  f_Known___init__ : P.fns.lookup 195 = some ⟨7, 7, b_Known___init__⟩
  f_Known_new_number : P.fns.lookup 196 = some ⟨1, 1, b_Known_new_number⟩
  f_Known_length : P.fns.lookup 197 = some ⟨2, 2, b_Known_length⟩
  f_Known_cell : P.fns.lookup 198 = some ⟨3, 6, b_Known_cell⟩
  g_GROUND : P.glob.lookup 9 = some (.tup [.int 0, .int 0])
  m_9_new_number : P.meth.lookup (9, ("new_number" : Str)) = some 196
  m_9_length : P.meth.lookup (9, ("length" : Str)) = some 197
  m_9_cell : P.meth.lookup (9, ("cell" : Str)) = some 198
  i_9 : P.init.lookup 9 = some 195
  d_9_many : P.flds.contains (9, ("many" : Str)) = true
  d_9_differences : P.flds.contains (9, ("differences" : Str)) = true
  d_9_lists : P.flds.contains (9, ("lists" : Str)) = true
  d_9_cells : P.flds.contains (9, ("cells" : Str)) = true
  d_9_taken : P.flds.contains (9, ("taken" : Str)) = true
  d_9_fresh : P.flds.contains (9, ("fresh" : Str)) = true
end Kq

set_option maxRecDepth 100000
set_option maxHeartbeats 4000000
namespace Kg
open PySem L2 VL

def b_law_cell_1 : Ss := (.cons (.ret (.cint 0)) .nil)
def b_law_cell : Ss := (.cons (.ite (.cmp .Gt (.blt .len (.cons (.var 0) .nil)) (.cint 0)) (.cons (.ret (.sub (.var 0) (.bin .Mod (.blt .int (.cons (.var 1) .nil)) (.blt .len (.cons (.var 0) .nil))))) .nil) .nil) b_law_cell_1)
def b_law_draws_1 : Ss := (.cons (.ite (.cmp .Gt (.var 5) (.cint 0)) (.cons (.app 6 (.bin .Mod (.blt .int (.cons (.var 5) .nil)) (.sub (.var 2) (.var 7)))) (.cons (.asg (.nm 5) (.bin .FloorDiv (.var 5) (.sub (.var 2) (.var 7)))) .nil)) (.cons (.asg (.nm 8) (.bin .Mod (.blt .int (.cons (.bin .Add (.bin .Mult (.bin .Add (.bin .Add (.bin .Add (.var 4) (.cint 1)) (.bin .Mult (.cint 31) (.var 1))) (.var 7)) (.cint 48271)) (.bin .Mult (.cint 69621) (.var 7))) .nil)) (.sub (.var 3) (.bin .Mod (.var 7) (.cint 8))))) (.cons (.asg (.nm 9) (.bin .Mod (.blt .int (.cons (.bin .Add (.bin .Add (.bin .Mult (.var 8) (.var 8)) (.bin .Mult (.cint 16807) (.var 7))) (.var 1)) .nil)) (.sub (.var 3) (.bin .Mod (.bin .Add (.var 7) (.cint 3)) (.cint 8))))) (.cons (.asg (.nm 9) (.bin .Mod (.blt .int (.cons (.bin .Add (.bin .Add (.bin .Mult (.var 9) (.cint 69621)) (.bin .Mult (.var 8) (.cint 16807))) (.var 7)) .nil)) (.sub (.var 3) (.bin .Mod (.bin .Add (.var 7) (.cint 5)) (.cint 8))))) (.cons (.app 6 (.bin .Mod (.blt .int (.cons (.bin .FloorDiv (.var 9) (.cint 16)) .nil)) (.sub (.var 2) (.var 7)))) .nil))))) .nil)
def b_law_draws_2 : Ss := (.cons (.frz 6) (.cons (.ret (.var 6)) .nil))
def b_law_draws_3 : Ss := (.cons (.asgO 6 (.lst .nil)) (.cons (.for (.nm 7) (.rng1 (.blt .len (.cons (.var 2) .nil))) b_law_draws_1) b_law_draws_2))
def b_law_draws : Ss := (.cons (.asg (.nm 3) (.fz (.lst (.cons (.cint 2147483647) (.cons (.cint 998244353) (.cons (.cint 1000000007) (.cons (.cint 1000000009) (.cons (.cint 4294967291) (.cons (.cint 1073741789) (.cons (.cint 536870909) (.cons (.cint 2305843009213693951) .nil))))))))))) (.cons (.asg (.nm 4) (.blt .abs (.cons (.call 167 (.cons (.var 0) (.cons (.var 1) .nil))) .nil))) (.cons (.asg (.nm 5) (.cint 0)) (.cons (.ite (.cmp .GtE (.var 4) (.bin .Pow (.cint 10) (.cint 18))) (.cons (.asg (.nm 5) (.var 4)) .nil) .nil) b_law_draws_3))))
def b_law_at_most : Ss := (.cons (.ret (.tup (.cons (.sub (.var 0) (.cint 0)) (.cons (.sub (.var 1) (.cint 0)) (.cons (.bin .Sub (.sub (.var 1) (.cint 1)) (.sub (.var 0) (.cint 1))) .nil))))) .nil)
def b_law_of_1 : Ss := (.cons (.ret (.bin .Add (.sub (.var 1) (.bin .Sub (.sub (.var 0) (.cint 0)) (.cint 1))) (.sub (.var 0) (.cint 1)))) .nil)
def b_law_of : Ss := (.cons (.ite (.cmp .Eq (.sub (.var 0) (.cint 0)) (.cint 0)) (.cons (.ret (.sub (.var 0) (.cint 1))) .nil) .nil) b_law_of_1)
def b_law_length_1 : Ss := (.cons (.asg (.nm 1) (.sub (.sub (.var 0) (.var 1)) (.cint 1))) .nil)
def b_law_length_2 : Ss := (.cons (.ite (.cmp .Eq (.sub (.sub (.var 0) (.var 1)) (.cint 0)) (.cstr "new")) (.cons (.ret (.sub (.sub (.var 0) (.var 1)) (.cint 1))) .nil) .nil) b_law_length_1)
def b_law_length_3 : Ss := (.cons (.ret .cnon) .nil)
def b_law_length : Ss := (.cons (.for (.nm 2) (.rng1 (.blt .len (.cons (.var 0) .nil))) b_law_length_2) b_law_length_3)
def b_law_form_for_1 : Ss := (.cons (.ret (.tup (.cons (.var 3) (.cons (.bin .Sub (.var 2) (.sub (.var 1) (.bin .Sub (.var 3) (.cint 1)))) .nil)))) .nil)
def b_law_form_for : Ss := (.cons (.asg (.nm 3) (.bin .Mod (.blt .int (.cons (.var 0) .nil)) (.bin .Add (.blt .len (.cons (.var 1) .nil)) (.cint 1)))) (.cons (.ite (.cmp .Eq (.var 3) (.cint 0)) (.cons (.ret (.tup (.cons (.cint 0) (.cons (.var 2) .nil)))) .nil) .nil) b_law_form_for_1))
def b_law_base_1 : Ss := (.cons (.ret (.sub (.var 3) (.cint 0))) .nil)
def b_law_base_2 : Ss := (.cons (.ite (.cmp .Eq (.var 2) (.cint 1)) (.cons (.ret (.bin .Add (.bin .Add (.sub (.var 3) (.cint 0)) (.bin .Mult (.var 4) (.var 1))) (.bin .Mult (.sub (.var 3) (.cint 1)) (.blt .int (.cons (.cmp .Gt (.var 1) (.cint 2)) .nil))))) .nil) .nil) b_law_base_1)
def b_law_base : Ss := (.cons (.asg (.tup [2, 3, 4]) (.var 0)) (.cons (.ite (.cmp .Eq (.var 2) (.cint 0)) (.cons (.ret (.sub (.var 3) (.bin .Mod (.blt .int (.cons (.var 1) .nil)) (.blt .len (.cons (.var 3) .nil))))) .nil) .nil) b_law_base_2))
def b_law_there_1 : Ss := (.cons (.asg (.nm 1) (.sub (.var 7) (.cint 1))) .nil)
def b_law_there_2 : Ss := (.cons (.ite (.cmp .Eq (.var 2) (.call 170 (.cons (.sub (.var 7) (.cint 2)) (.cons (.var 4) .nil)))) (.cons (.ret (.call 170 (.cons (.sub (.var 7) (.cint 3)) (.cons (.var 4) .nil)))) .nil) .nil) b_law_there_1)
def b_law_there_3 : Ss := (.cons (.asg (.nm 7) (.sub (.sub (.var 3) (.cint 2)) (.var 1))) (.cons (.ite (.cmp .Eq (.sub (.var 7) (.cint 0)) (.cstr "new")) (.cons (.ret (.call 174 (.cons (.sub (.var 5) (.var 1)) (.cons (.var 2) .nil)))) .nil) .nil) b_law_there_2))
def b_law_there_4 : Ss := (.cons (.ret .cnon) .nil)
def b_law_there : Ss := (.cons (.asg (.tup [3, 4, 5]) (.var 0)) (.cons (.for (.nm 6) (.rng1 (.blt .len (.cons (.sub (.var 3) (.cint 2)) .nil))) b_law_there_3) b_law_there_4))
def b_law_lists_1 : Ss := (.cons (.asg (.nm 9) (.call 173 (.cons (.sub (.var 7) (.cint 2)) (.cons (.var 2) (.cons (.sub (.var 7) (.cint 1)) .nil))))) (.cons (.app 3 (.tup (.cons (.cstr "new") (.cons (.var 9) .nil)))) (.cons (.appE (.var 5) (.call 169 (.cons (.tup (.cons (.cint 0) (.cons (.cint 0) .nil))) (.cons (.var 9) .nil)))) (.cons (.asg (.nm 10) (.fz (.lst (.cons (.bin .Sub (.sub (.var 7) (.cint 5)) (.cint 4)) (.cons (.bin .FloorDiv (.sub (.var 7) (.cint 6)) (.cint 3)) (.cons (.bin .Sub (.sub (.var 7) (.cint 7)) (.cint 4)) .nil)))))) (.cons (.app 4 (.tup (.cons (.sub (.var 7) (.cint 4)) (.cons (.var 10) (.cons (.sub (.var 7) (.cint 8)) .nil))))) .nil)))))
def b_law_lists_2 : Ss := (.cons (.asg (.nm 7) (.call 168 (.cons (.var 0) (.cons (.bin .Add (.cint 10) (.var 6)) (.cons (.fz (.lst (.cons (.cint 3) (.cons (.cint 7) (.cons (.cint 40) (.cons (.cint 40) (.cons (.cint 3) (.cons (.cint 10) (.cons (.cint 10) (.cons (.cint 10) (.cons (.cint 3) (.cons (.cint 10) (.cons (.cint 40) (.cons (.cint 10) .nil)))))))))))))) .nil))))) (.cons (.ite (.and (.cmp .Gt (.var 6) (.cint 0)) (.cmp .Gt (.sub (.var 7) (.cint 0)) (.cint 0))) (.cons (.asg (.nm 8) (.call 173 (.cons (.sub (.var 7) (.cint 2)) (.cons (.var 2) (.cons (.bin .Sub (.sub (.var 7) (.cint 9)) (.cint 2)) .nil))))) (.cons (.app 3 (.tup (.cons (.cstr "written") (.cons (.bin .Mod (.blt .int (.cons (.sub (.var 7) (.cint 1)) .nil)) (.var 6)) (.cons (.var 8) (.cons (.call 173 (.cons (.sub (.var 7) (.cint 3)) (.cons (.var 2) (.cons (.bin .Sub (.sub (.var 7) (.cint 11)) (.cint 3)) .nil)))) .nil)))))) (.cons (.app 4 .cnon) (.cons .cont .nil)))) .nil) b_law_lists_1))
def b_law_lists_3 : Ss := (.cons (.frz 3) (.cons (.frz 4) (.cons (.ret (.tup (.cons (.var 3) (.cons (.var 4) (.cons (.var 5) .nil))))) .nil)))
def b_law_lists : Ss := (.cons (.asgO 3 (.lst .nil)) (.cons (.asgO 4 (.lst .nil)) (.cons (.asg (.nm 5) (.new (.lst .nil))) (.cons (.for (.nm 6) (.rng1 (.var 1)) b_law_lists_2) b_law_lists_3))))
def b_law_compared : Ss := (.cons (.asg (.nm 3) (.fz (.lst (.cons (.cmp .Lt (.var 1) (.var 2)) (.cons (.cmp .LtE (.var 1) (.var 2)) (.cons (.cmp .Gt (.var 1) (.var 2)) (.cons (.cmp .GtE (.var 1) (.var 2)) (.cons (.cmp .Eq (.var 1) (.var 2)) (.cons (.cmp .NotEq (.var 1) (.var 2)) .nil))))))))) (.cons (.ret (.sub (.var 3) (.idx (.fz (.lst (.cons (.cstr "<") (.cons (.cstr "<=") (.cons (.cstr ">") (.cons (.cstr ">=") (.cons (.cstr "==") (.cons (.cstr "!=") .nil)))))))) (.var 0)))) .nil))
def b_law_range : Ss := (.cons (.asg (.tup [4, 5, 6]) (.var 0)) (.cons (.asg (.nm 7) (.blt .min2 (.cons (.call 170 (.cons (.var 3) (.cons (.var 5) .nil))) (.cons (.call 170 (.cons (.call 171 (.cons (.sub (.var 4) (.cint 2)) (.cons (.var 1) .nil))) (.cons (.var 5) .nil))) .nil)))) (.cons (.ret (.fz (.rngL (.blt .max2 (.cons (.cint 0) (.cons (.call 170 (.cons (.var 2) (.cons (.var 5) .nil))) .nil))) (.var 7)))) .nil)))
def b_law_true_1 : Ss := (.cons (.ite (.tru (.blt .all (.cons (.fz (.comp (.cmp .LtE (.bin .Sub (.call 170 (.cons (.tup (.cons (.var 14) (.cons (.cint 0) .nil))) (.cons (.var 3) .nil))) (.call 170 (.cons (.tup (.cons (.var 15) (.cons (.cint 0) .nil))) (.cons (.var 3) .nil)))) (.var 16)) (.tup [14, 15, 16]) (.seq (.var 5)) .no [14, 15, 16])) .nil))) (.cons (.ret (.cbl true)) .nil) .nil) .nil)
def b_law_true_2 : Ss := (.cons (.ret (.cbl false)) .nil)
def b_law_true_3 : Ss := (.cons (.asg (.nm 10) (.fz (.comp (.call 175 (.cons (.var 0) (.cons (.sub (.var 1) (.cint 4)) (.cons (.var 12) .nil)))) (.nm 12) (.seq (.call 177 (.cons (.var 0) (.cons (.sub (.var 1) (.cint 4)) (.cons (.sub (.var 1) (.cint 5)) (.cons (.sub (.var 1) (.cint 6)) .nil)))))) .no [12]))) (.cons (.ret (.or (.cmp .Eq (.blt .len (.cons (.var 9) .nil)) (.cint 0)) (.or (.cmp .Eq (.blt .len (.cons (.var 10) .nil)) (.cint 0)) (.cmp .LtE (.blt .maxL (.cons (.var 9) .nil)) (.blt .minL (.cons (.var 10) .nil)))))) .nil))
def b_law_true_4 : Ss := (.cons (.ite (.cmp .Eq (.sub (.var 1) (.cint 0)) (.cstr "sorted")) (.cons (.ret (.blt .all (.cons (.fz (.comp (.cmp .LtE (.sub (.var 9) (.var 12)) (.sub (.var 9) (.bin .Add (.var 12) (.cint 1)))) (.nm 12) (.rng1 (.bin .Sub (.blt .len (.cons (.var 9) .nil)) (.cint 1))) .no [12])) .nil))) .nil) .nil) b_law_true_3)
def b_law_true_5 : Ss := (.cons (.ite (.cmp .Eq (.sub (.var 1) (.cint 0)) (.cstr "match")) (.cons (.asg (.nm 10) (.fz (.comp (.call 175 (.cons (.var 0) (.cons (.sub (.var 1) (.cint 5)) (.cons (.var 12) .nil)))) (.nm 12) (.seq (.call 177 (.cons (.var 0) (.cons (.sub (.var 1) (.cint 5)) (.cons (.var 7) (.cons (.var 8) .nil)))))) .no [12]))) (.cons (.asg (.nm 11) (.blt .min2 (.cons (.blt .len (.cons (.var 9) .nil)) (.cons (.blt .len (.cons (.var 10) .nil)) .nil)))) (.cons (.ret (.blt .all (.cons (.fz (.comp (.call 149 (.cons (.sub (.var 1) (.cint 4)) (.cons (.sub (.var 9) (.var 12)) (.cons (.bin .Add (.sub (.var 10) (.var 12)) (.sub (.var 1) (.cint 6))) .nil)))) (.nm 12) (.rng1 (.var 11)) .no [12])) .nil))) .nil))) .nil) b_law_true_4)
def b_law_true_6 : Ss := (.cons (.asg (.tup [6, 7, 8]) (.slice (.var 1) (.so (.cint 1)) (.so (.cint 4)))) (.cons (.asg (.nm 9) (.fz (.comp (.call 175 (.cons (.var 0) (.cons (.var 6) (.cons (.var 12) .nil)))) (.nm 12) (.seq (.call 177 (.cons (.var 0) (.cons (.var 6) (.cons (.var 7) (.cons (.var 8) .nil)))))) .no [12]))) (.cons (.ite (.cmp .Eq (.sub (.var 1) (.cint 0)) (.cstr "all")) (.cons (.ret (.blt .all (.cons (.fz (.comp (.call 149 (.cons (.sub (.var 1) (.cint 4)) (.cons (.var 13) (.cons (.call 170 (.cons (.sub (.var 1) (.cint 5)) (.cons (.var 3) .nil))) .nil)))) (.nm 13) (.seq (.var 9)) .no [13])) .nil))) .nil) .nil) b_law_true_5)))
def b_law_true : Ss := (.cons (.asg (.tup [2, 3, 4]) (.var 0)) (.cons (.ite (.cmp .Eq (.sub (.var 1) (.cint 0)) (.cstr "either")) (.cons (.for (.nm 5) (.seq (.sub (.var 1) (.cint 1))) b_law_true_1) b_law_true_2) .nil) b_law_true_6))
class U (P : Prg) : Prop where
  f__law_cell : P.fns.lookup 167 = some ⟨2, 2, b_law_cell⟩
  f__law_draws : P.fns.lookup 168 = some ⟨3, 10, b_law_draws⟩
  f__law_at_most : P.fns.lookup 169 = some ⟨2, 2, b_law_at_most⟩
  f__law_of : P.fns.lookup 170 = some ⟨2, 2, b_law_of⟩
  f__law_length : P.fns.lookup 171 = some ⟨2, 3, b_law_length⟩
  f__law_form_for : P.fns.lookup 173 = some ⟨3, 4, b_law_form_for⟩
  f__law_base : P.fns.lookup 174 = some ⟨2, 5, b_law_base⟩
  f__law_there : P.fns.lookup 175 = some ⟨3, 8, b_law_there⟩
  f__law_lists : P.fns.lookup 176 = some ⟨3, 11, b_law_lists⟩
  f__law_compared : P.fns.lookup 149 = some ⟨3, 4, b_law_compared⟩
  f__law_range : P.fns.lookup 177 = some ⟨4, 8, b_law_range⟩
  f__law_true : P.fns.lookup 178 = some ⟨2, 17, b_law_true⟩
end Kg

set_option maxRecDepth 100000
set_option maxHeartbeats 4000000
namespace Sp
open PySem L2 VL

def b_sign_ways_1 : Ss := (.cons (.ret (.fz (.lst (.cons (.tup (.cons (.call 191 (.cons (.var 1) (.cons (.var 2) .nil))) .nil)) (.cons (.tup (.cons (.call 191 (.cons (.var 2) (.cons (.var 1) .nil))) .nil)) .nil))))) .nil)
def b_sign_ways_2 : Ss := (.cons (.ite (.cmp .Eq (.var 0) (.cstr "==")) (.cons (.ret (.fz (.lst (.cons (.call 201 (.cons (.var 1) (.cons (.var 2) .nil))) .nil)))) .nil) .nil) b_sign_ways_1)
def b_sign_ways_3 : Ss := (.cons (.ite (.cmp .Eq (.var 0) (.cstr ">=")) (.cons (.ret (.fz (.lst (.cons (.tup (.cons (.call 192 (.cons (.var 2) (.cons (.var 1) .nil))) .nil)) .nil)))) .nil) .nil) b_sign_ways_2)
def b_sign_ways_4 : Ss := (.cons (.ite (.cmp .Eq (.var 0) (.cstr ">")) (.cons (.ret (.fz (.lst (.cons (.tup (.cons (.call 191 (.cons (.var 2) (.cons (.var 1) .nil))) .nil)) .nil)))) .nil) .nil) b_sign_ways_3)
def b_sign_ways_5 : Ss := (.cons (.ite (.cmp .Eq (.var 0) (.cstr "<=")) (.cons (.ret (.fz (.lst (.cons (.tup (.cons (.call 192 (.cons (.var 1) (.cons (.var 2) .nil))) .nil)) .nil)))) .nil) .nil) b_sign_ways_4)
def b_sign_ways : Ss := (.cons (.ite (.cmp .Eq (.var 0) (.cstr "<")) (.cons (.ret (.fz (.lst (.cons (.tup (.cons (.call 191 (.cons (.var 1) (.cons (.var 2) .nil))) .nil)) .nil)))) .nil) .nil) b_sign_ways_5)
def b_equal : Ss := (.cons (.ret (.tup (.cons (.call 192 (.cons (.var 0) (.cons (.var 1) .nil))) (.cons (.call 192 (.cons (.var 1) (.cons (.var 0) .nil))) .nil)))) .nil)
def b_parted_1 : Ss := (.cons (.app 2 (.bin .Add (.var 3) (.tup (.cons (.var 4) .nil)))) (.cons (.asg (.nm 3) (.bin .Add (.var 3) (.tup (.cons (.call 193 (.cons (.var 4) .nil)) .nil)))) .nil))
def b_parted_2 : Ss := (.cons (.ret (.new (.cat (.vw 2) (.fz (.comp (.bin .Add (.var 3) (.var 5)) (.nm 5) (.seq (.var 1)) .no [5]))))) .nil)
def b_parted : Ss := (.cons (.asgO 2 (.lst .nil)) (.cons (.asg (.nm 3) (.tup .nil)) (.cons (.for (.nm 4) (.seq (.var 0)) b_parted_1) b_parted_2)))
def b_outside : Ss := (.cons (.ret (.fz (.lst (.cons (.call 191 (.cons (.var 0) (.cons (.glob 9) .nil))) (.cons (.call 192 (.cons (.var 1) (.cons (.var 0) .nil))) .nil))))) .nil)
def b_pair_ways : Ss := (.cons (.par 3 4 (.sub (.sub (.attr (.var 0) "cells") (.var 1)) (.cint 1)) (.sub (.sub (.attr (.var 0) "cells") (.var 1)) (.cint 2))) (.cons (.par 5 6 (.sub (.sub (.attr (.var 0) "cells") (.var 2)) (.cint 1)) (.sub (.sub (.attr (.var 0) "cells") (.var 2)) (.cint 2))) (.cons (.ret (.new (.lst (.cons (.tup (.cons (.call 191 (.cons (.var 3) (.cons (.var 5) .nil))) .nil)) (.cons (.tup (.cons (.call 191 (.cons (.var 5) (.cons (.var 3) .nil))) .nil)) (.cons (.bin .Add (.call 201 (.cons (.var 3) (.cons (.var 5) .nil))) (.call 201 (.cons (.var 4) (.cons (.var 6) .nil)))) .nil)))))) .nil)))
def b_write_ways : Ss := (.cons (.asg (.tup [2, 3, 4]) (.sub (.attr (.var 0) "cells") (.var 1))) (.cons (.asg (.tup [5, 6, 7, 8]) (.sub (.attr (.var 0) "lists") (.var 2))) (.cons (.asg (.nm 9) (.mcall (.var 0) "cell" (.cons (.var 6) (.cons (.var 3) .nil)))) (.cons (.asg (.nm 10) (.call 201 (.cons (.var 4) (.cons (.var 9) .nil)))) (.cons (.ret (.new (.lst (.cons (.bin .Add (.tup (.cons (.call 191 (.cons (.var 3) (.cons (.var 7) .nil))) .nil)) (.var 10)) (.cons (.bin .Add (.tup (.cons (.call 191 (.cons (.var 7) (.cons (.var 3) .nil))) .nil)) (.var 10)) (.cons (.bin .Add (.call 201 (.cons (.var 3) (.cons (.var 7) .nil))) (.call 201 (.cons (.var 4) (.cons (.var 8) .nil)))) .nil)))))) .nil)))))
def b_all_ways : Ss := (.cons (.asg (.tup [3, 4, 5, 6, 7, 8]) (.var 1)) (.cons (.asg (.nm 9) (.fz (.cat (.fz (.lst (.cons (.call 191 (.cons (.var 2) (.cons (.var 5) .nil))) (.cons (.call 192 (.cons (.var 6) (.cons (.var 2) .nil))) .nil)))) (.call 203 (.cons (.var 2) (.cons (.mcall (.var 0) "length" (.cons (.var 4) .nil)) .nil)))))) (.cons (.ret (.call 202 (.cons (.var 9) (.cons (.call 200 (.cons (.var 7) (.cons (.mcall (.var 0) "cell" (.cons (.var 4) (.cons (.var 2) .nil))) (.cons (.var 8) .nil)))) .nil)))) .nil)))
def b_match_ways : Ss := (.cons (.asg (.tup [3, 4, 5, 6, 7, 8, 9]) (.var 1)) (.cons (.asg (.nm 10) (.fz (.cat (.fz (.cat (.fz (.lst (.cons (.call 191 (.cons (.var 2) (.cons (.var 5) .nil))) (.cons (.call 192 (.cons (.var 6) (.cons (.var 2) .nil))) .nil)))) (.call 203 (.cons (.var 2) (.cons (.mcall (.var 0) "length" (.cons (.var 4) .nil)) .nil))))) (.fz (.lst (.cons (.call 192 (.cons (.mcall (.var 0) "length" (.cons (.var 8) .nil)) (.cons (.var 2) .nil))) .nil)))))) (.cons (.asg (.nm 11) (.mcall (.var 0) "cell" (.cons (.var 4) (.cons (.var 2) .nil)))) (.cons (.ret (.call 202 (.cons (.var 10) (.cons (.call 200 (.cons (.var 7) (.cons (.var 11) (.cons (.call 194 (.cons (.mcall (.var 0) "cell" (.cons (.var 8) (.cons (.var 2) .nil))) (.cons (.var 9) .nil))) .nil)))) .nil)))) .nil))))
def b_sorted_ways : Ss := (.cons (.asg (.tup [4, 5, 6, 7]) (.var 1)) (.cons (.asg (.nm 8) (.fz (.lst (.cons (.call 191 (.cons (.var 2) (.cons (.var 6) .nil))) (.cons (.call 191 (.cons (.var 3) (.cons (.var 2) .nil))) (.cons (.call 192 (.cons (.var 7) (.cons (.var 3) .nil))) (.cons (.call 191 (.cons (.var 2) (.cons (.glob 9) .nil))) (.cons (.call 192 (.cons (.mcall (.var 0) "length" (.cons (.var 5) .nil)) (.cons (.var 3) .nil))) .nil)))))))) (.cons (.asg (.nm 9) (.mcall (.var 0) "cell" (.cons (.var 5) (.cons (.var 2) .nil)))) (.cons (.ret (.call 202 (.cons (.var 8) (.cons (.fz (.lst (.cons (.tup (.cons (.call 192 (.cons (.var 9) (.cons (.mcall (.var 0) "cell" (.cons (.var 5) (.cons (.var 3) .nil))) .nil))) .nil)) .nil))) .nil)))) .nil))))
def b_below_ways : Ss := (.cons (.asg (.tup [4, 5, 6, 7, 8, 9, 10]) (.var 1)) (.cons (.asg (.nm 11) (.fz (.cat (.fz (.lst (.cons (.call 191 (.cons (.var 2) (.cons (.var 6) .nil))) (.cons (.call 192 (.cons (.var 7) (.cons (.var 2) .nil))) .nil)))) (.call 203 (.cons (.var 2) (.cons (.mcall (.var 0) "length" (.cons (.var 5) .nil)) .nil)))))) (.cons (.asg (.nm 11) (.fz (.cat (.fz (.cat (.var 11) (.fz (.lst (.cons (.call 191 (.cons (.var 3) (.cons (.var 9) .nil))) (.cons (.call 192 (.cons (.var 10) (.cons (.var 3) .nil))) .nil)))))) (.call 203 (.cons (.var 3) (.cons (.mcall (.var 0) "length" (.cons (.var 8) .nil)) .nil)))))) (.cons (.asg (.nm 12) (.mcall (.var 0) "cell" (.cons (.var 5) (.cons (.var 2) .nil)))) (.cons (.ret (.call 202 (.cons (.var 11) (.cons (.fz (.lst (.cons (.tup (.cons (.call 192 (.cons (.var 12) (.cons (.mcall (.var 0) "cell" (.cons (.var 8) (.cons (.var 3) .nil))) .nil))) .nil)) .nil))) .nil)))) .nil)))))
def b_is_row : Ss := (.cons (.ret (.blt .all (.cons (.fz (.comp (.chain .LtE .Lt (.cint 0) (.var 2) (.var 3)) (.tup [2, 3]) (.zip (.var 0) (.var 1)) .no [2, 3])) .nil))) .nil)
def b_fits_1 : Ss := (.cons (.asg (.nm 6) (.fz (.lst (.cons (.blt .len (.cons (.attr (.var 0) "taken") .nil)) (.cons (.blt .len (.cons (.var 1) .nil)) (.cons (.blt .len (.cons (.var 1) .nil)) .nil)))))) (.cons (.ret (.and (.call 210 (.cons (.slice (.var 2) (.so (.cint 1)) .no) (.cons (.var 6) .nil))) (.cmp .Eq (.sub (.sub (.attr (.var 0) "taken") (.sub (.var 2) (.cint 1))) (.cint 0)) (.sub (.var 2) (.cint 0))))) .nil))
def b_fits_2 : Ss := (.cons (.ite (.cmp .Eq (.sub (.var 2) (.cint 0)) (.cstr "write")) (.cons (.ret (.and (.call 210 (.cons (.fz (.lst (.cons (.sub (.var 2) (.cint 1)) .nil))) (.cons (.fz (.lst (.cons (.var 3) .nil))) .nil))) (.cmp .Eq (.sub (.sub (.attr (.var 0) "lists") (.sub (.sub (.attr (.var 0) "cells") (.sub (.var 2) (.cint 1))) (.cint 0))) (.cint 0)) (.cstr "written")))) .nil) .nil) b_fits_1)
def b_fits_3 : Ss := (.cons (.asg (.nm 3) (.blt .len (.cons (.attr (.var 0) "cells") .nil))) (.cons (.ite (.cmp .Eq (.sub (.var 2) (.cint 0)) (.cstr "pair")) (.cons (.par 4 5 (.sub (.var 2) (.cint 1)) (.sub (.var 2) (.cint 2))) (.cons (.ret (.and (.call 210 (.cons (.fz (.lst (.cons (.var 4) (.cons (.var 5) .nil)))) (.cons (.fz (.lst (.cons (.var 5) (.cons (.var 3) .nil)))) .nil))) (.cmp .Eq (.sub (.sub (.attr (.var 0) "cells") (.var 4)) (.cint 0)) (.sub (.sub (.attr (.var 0) "cells") (.var 5)) (.cint 0))))) .nil)) .nil) b_fits_2))
def b_fits : Ss := (.cons (.ite (.or (.cmp .Eq (.blt .len (.cons (.var 2) .nil)) (.cint 0)) (.or (.gIn true (.sub (.var 2) (.cint 0)) 10) (.cmp .NotEq (.blt .len (.cons (.var 2) .nil)) (.gGet 10 (.sub (.var 2) (.cint 0)))))) (.cons (.ret (.cbl false)) .nil) .nil) b_fits_3)
def b_split_ways_1 : Ss := (.cons (.ret (.call 209 (.cons (.var 0) (.cons (.var 4) (.cons (.sub (.var 1) (.sub (.var 2) (.cint 2))) (.cons (.sub (.var 1) (.sub (.var 2) (.cint 3))) .nil)))))) .nil)
def b_split_ways_2 : Ss := (.cons (.ite (.cmp .Eq (.var 3) (.cstr "sorted")) (.cons (.ret (.call 208 (.cons (.var 0) (.cons (.var 4) (.cons (.sub (.var 1) (.sub (.var 2) (.cint 2))) (.cons (.sub (.var 1) (.sub (.var 2) (.cint 3))) .nil)))))) .nil) .nil) b_split_ways_1)
def b_split_ways_3 : Ss := (.cons (.ite (.cmp .Eq (.var 3) (.cstr "match")) (.cons (.ret (.call 207 (.cons (.var 0) (.cons (.var 4) (.cons (.sub (.var 1) (.sub (.var 2) (.cint 2))) .nil))))) .nil) .nil) b_split_ways_2)
def b_split_ways_4 : Ss := (.cons (.ite (.cmp .Eq (.var 3) (.cstr "all")) (.cons (.ret (.call 206 (.cons (.var 0) (.cons (.var 4) (.cons (.sub (.var 1) (.sub (.var 2) (.cint 2))) .nil))))) .nil) .nil) b_split_ways_3)
def b_split_ways_5 : Ss := (.cons (.asg (.nm 4) (.sub (.attr (.var 0) "taken") (.sub (.var 2) (.cint 1)))) (.cons (.ite (.cmp .Eq (.var 3) (.cstr "either")) (.cons (.ret (.new (.listOf (.sub (.var 4) (.cint 1))))) .nil) .nil) b_split_ways_4))
def b_split_ways_6 : Ss := (.cons (.ite (.cmp .Eq (.var 3) (.cstr "write")) (.cons (.ret (.call 205 (.cons (.var 0) (.cons (.sub (.var 2) (.cint 1)) .nil)))) .nil) .nil) b_split_ways_5)
def b_split_ways_7 : Ss := (.cons (.asg (.nm 3) (.sub (.var 2) (.cint 0))) (.cons (.ite (.cmp .Eq (.var 3) (.cstr "pair")) (.cons (.ret (.call 204 (.cons (.var 0) (.cons (.sub (.var 2) (.cint 1)) (.cons (.sub (.var 2) (.cint 2)) .nil))))) .nil) .nil) b_split_ways_6))
def b_split_ways : Ss := (.cons (.ite (.not (.tru (.call 211 (.cons (.var 0) (.cons (.var 1) (.cons (.var 2) .nil)))))) (.cons (.ret .cnon) .nil) .nil) b_split_ways_7)
class U (P : Prg) : Prop where
  f_sign_ways : P.fns.lookup 200 = some ⟨3, 3, b_sign_ways⟩
  f_equal : P.fns.lookup 201 = some ⟨2, 2, b_equal⟩
  f_parted : P.fns.lookup 202 = some ⟨2, 6, b_parted⟩
  f_outside : P.fns.lookup 203 = some ⟨2, 2, b_outside⟩
  f_pair_ways : P.fns.lookup 204 = some ⟨3, 7, b_pair_ways⟩
  f_write_ways : P.fns.lookup 205 = some ⟨2, 11, b_write_ways⟩
  f_all_ways : P.fns.lookup 206 = some ⟨3, 10, b_all_ways⟩
  f_match_ways : P.fns.lookup 207 = some ⟨3, 12, b_match_ways⟩
  f_sorted_ways : P.fns.lookup 208 = some ⟨4, 10, b_sorted_ways⟩
  f_below_ways : P.fns.lookup 209 = some ⟨4, 13, b_below_ways⟩
  f_is_row : P.fns.lookup 210 = some ⟨2, 4, b_is_row⟩
  f_fits : P.fns.lookup 211 = some ⟨3, 7, b_fits⟩
  f_split_ways : P.fns.lookup 212 = some ⟨3, 5, b_split_ways⟩
  g_KINDS : P.gdct.lookup 10 = some ([(("pair" : Str), (3 : Int)), (("write" : Str), (2 : Int)), (("either" : Str), (2 : Int)), (("all" : Str), (3 : Int)), (("match" : Str), (3 : Int)), (("sorted" : Str), (4 : Int)), (("below" : Str), (4 : Int))])
end Sp

set_option maxRecDepth 100000
set_option maxHeartbeats 4000000
namespace Kx
open PySem L2 VL

def b_law_small_1 : Ss := (.cons (.ret (.bin .Sub (.bin .Mod (.blt .int (.cons (.bin .FloorDiv (.var 0) (.cint 12)) .nil)) (.cint 12)) (.cint 3))) .nil)
def b_law_small : Ss := (.cons (.ite (.cmp .Eq (.bin .Mod (.blt .int (.cons (.var 0) .nil)) (.cint 12)) (.cint 0)) (.cons (.ret (.bin .Mult (.bin .Sub (.cint 1) (.bin .Mult (.cint 2) (.bin .Mod (.blt .int (.cons (.bin .FloorDiv (.var 0) (.cint 12)) .nil)) (.cint 2)))) (.bin .Add (.bin .Pow (.cint 10) (.cint 9)) (.bin .Mod (.blt .int (.cons (.bin .FloorDiv (.var 0) (.cint 24)) .nil)) (.cint 1000))))) .nil) .nil) b_law_small_1)
def b_law_loose_1 : Ss := (.cons (.app 4 (.tup (.cons (.var 6) (.cons (.var 7) (.cons (.bin .Add (.bin .Sub (.call 170 (.cons (.tup (.cons (.var 6) (.cons (.cint 0) .nil))) (.cons (.var 1) .nil))) (.call 170 (.cons (.tup (.cons (.var 7) (.cons (.cint 0) .nil))) (.cons (.var 1) .nil)))) (.var 8)) .nil))))) .nil)
def b_law_loose_2 : Ss := (.cons (.asg (.nm 6) (.bin .Mod (.blt .int (.cons (.sub (.var 0) (.bin .Add (.bin .Add (.cint 2) (.bin .Mult (.cint 2) (.var 3))) (.var 5))) .nil)) (.bin .Add (.blt .len (.cons (.var 1) .nil)) (.cint 1)))) (.cons (.asg (.nm 7) (.bin .Mod (.blt .int (.cons (.sub (.var 0) (.bin .Add (.bin .Add (.cint 8) (.bin .Mult (.cint 2) (.var 3))) (.var 5))) .nil)) (.bin .Add (.blt .len (.cons (.var 1) .nil)) (.cint 1)))) (.cons (.asg (.nm 8) (.bin .Sub (.bin .Mod (.blt .int (.cons (.sub (.var 0) (.bin .Add (.bin .Add (.cint 14) (.bin .Mult (.cint 2) (.var 3))) (.var 5))) .nil)) (.cint 7)) (.cint 3))) (.cons (.ite (.cmp .Eq (.var 3) (.bin .Mod (.blt .int (.cons (.sub (.var 0) (.cint 20)) .nil)) (.bin .Add (.cint 1) (.sub (.var 0) (.cint 0))))) (.cons (.asg (.nm 8) (.blt .abs (.cons (.var 8) .nil))) .nil) .nil) b_law_loose_1))))
def b_law_loose_3 : Ss := (.cons (.app 2 (.blt .tuple (.cons (.vw 4) .nil))) .nil)
def b_law_loose_4 : Ss := (.cons (.asgO 4 (.lst .nil)) (.cons (.for (.nm 5) (.rng1 (.bin .Add (.cint 1) (.bin .Mod (.blt .int (.cons (.bin .FloorDiv (.sub (.var 0) (.cint 1)) (.bin .Add (.var 3) (.cint 1))) .nil)) (.cint 2)))) b_law_loose_2) b_law_loose_3))
def b_law_loose_5 : Ss := (.cons (.ret (.tup (.cons (.cstr "either") (.cons (.blt .tuple (.cons (.vw 2) .nil)) .nil)))) .nil)
def b_law_loose : Ss := (.cons (.asgO 2 (.lst .nil)) (.cons (.for (.nm 3) (.rng1 (.bin .Add (.cint 1) (.sub (.var 0) (.cint 0)))) b_law_loose_4) b_law_loose_5))
def b_law_promise_1 : Ss := (.cons (.asg (.nm 20) (.tup (.cons (.call 173 (.cons (.sub (.var 6) (.cint 5)) (.cons (.var 4) (.cons (.var 18) .nil)))) (.cons (.call 173 (.cons (.sub (.var 6) (.cint 12)) (.cons (.var 4) (.cons (.var 19) .nil)))) .nil)))) (.cons (.app 14 (.bin .Add (.tup (.cons (.cstr "below") (.cons (.var 8) (.cons (.var 11) (.cons (.var 12) (.cons (.var 9) .nil)))))) (.var 20))) .nil))
def b_law_promise_2 : Ss := (.cons (.asgO 14 (.cat (.fz (.slice (.vw 14) (.so (.sub (.var 6) (.cint 13))) .no)) (.fz (.slice (.vw 14) .no (.so (.sub (.var 6) (.cint 13))))))) .nil)
def b_law_promise_3 : Ss := (.cons (.ite (.tru (.call 178 (.cons (.var 2) (.cons (.var 21) .nil)))) (.cons (.ret (.var 21)) .nil) .nil) .nil)
def b_law_promise_4 : Ss := (.cons (.ret (.bin .Add (.bin .Add (.slice (.sub (.var 14) (.cint 0)) .no (.so (.cint 3))) (.tup (.cons (.var 11) .nil))) (.slice (.sub (.var 14) (.cint 0)) (.so (.cint 4)) .no))) .nil)
def b_law_promise_5 : Ss := (.cons (.frz 14) (.cons (.for (.nm 21) (.seq (.var 14)) b_law_promise_3) b_law_promise_4))
def b_law_promise_6 : Ss := (.cons (.ite (.cmp .Eq (.sub (.var 6) (.cint 0)) (.cint 4)) (.cons (.asg (.nm 15) (.call 173 (.cons (.sub (.var 6) (.cint 5)) (.cons (.var 4) (.cons (.bin .Sub (.sub (.var 6) (.cint 8)) (.cint 2)) .nil))))) (.cons (.asg (.nm 16) (.call 173 (.cons (.sub (.var 6) (.cint 12)) (.cons (.var 4) (.cons (.bin .Sub (.bin .Add (.sub (.var 6) (.cint 8)) (.sub (.var 6) (.cint 9))) (.cint 3)) .nil))))) (.cons (.asg (.nm 17) (.call 170 (.cons (.call 171 (.cons (.sub (.var 3) (.cint 2)) (.cons (.var 9) .nil))) (.cons (.var 4) .nil)))) (.cons (.asgO 14 (.lst (.cons (.tup (.cons (.cstr "below") (.cons (.var 8) (.cons (.var 11) (.cons (.var 12) (.cons (.var 9) (.cons (.var 15) (.cons (.var 16) .nil)))))))) .nil))) (.cons (.for (.tup [18, 19]) (.seq (.fz (.lst (.cons (.tup (.cons (.neg (.cint 2)) (.cons (.cint 0) .nil))) (.cons (.tup (.cons (.var 17) (.cons (.bin .Add (.var 17) (.cint 2)) .nil))) (.cons (.tup (.cons (.neg (.cint 1)) (.cons (.cint 1) .nil))) (.cons (.tup (.cons (.bin .Sub (.var 17) (.cint 1)) (.cons (.bin .Add (.var 17) (.cint 1)) .nil))) .nil))))))) b_law_promise_1) b_law_promise_2))))) .nil) b_law_promise_5)
def b_law_promise_7 : Ss := (.cons (.ite (.cmp .Eq (.sub (.var 6) (.cint 0)) (.cint 3)) (.cons (.asgO 14 (.lst (.cons (.tup (.cons (.cstr "sorted") (.cons (.var 8) (.cons (.var 11) (.cons (.var 12) .nil))))) .nil))) .nil) .nil) b_law_promise_6)
def b_law_promise_8 : Ss := (.cons (.ite (.cmp .Eq (.sub (.var 6) (.cint 0)) (.cint 2)) (.cons (.asgO 14 (.comp (.tup (.cons (.cstr "match") (.cons (.var 8) (.cons (.var 11) (.cons (.var 12) (.cons (.var 22) (.cons (.var 9) (.cons (.bin .Sub (.sub (.var 6) (.cint 11)) (.cint 4)) .nil)))))))) (.nm 22) (.seq (.var 13)) .no [22])) .nil) .nil) b_law_promise_7)
def b_law_promise_9 : Ss := (.cons (.asg (.nm 7) (.blt .len (.cons (.sub (.var 3) (.cint 2)) .nil))) (.cons (.asg (.nm 8) (.bin .Mod (.blt .int (.cons (.sub (.var 6) (.cint 1)) .nil)) (.var 7))) (.cons (.asg (.nm 9) (.bin .Mod (.blt .int (.cons (.sub (.var 6) (.cint 2)) .nil)) (.var 7))) (.cons (.asg (.nm 10) (.bin .Sub (.sub (.var 6) (.cint 6)) (.cint 2))) (.cons (.asg (.nm 11) (.call 173 (.cons (.sub (.var 6) (.cint 3)) (.cons (.var 4) (.cons (.var 10) .nil))))) (.cons (.asg (.nm 12) (.call 173 (.cons (.sub (.var 6) (.cint 4)) (.cons (.var 4) (.cons (.bin .Add (.var 10) (.sub (.var 6) (.cint 7))) .nil))))) (.cons (.asg (.nm 13) (.fz (.lst (.cons (.cstr "<") (.cons (.cstr "<=") (.cons (.cstr ">") (.cons (.cstr ">=") (.cons (.cstr "==") (.cons (.cstr "!=") .nil))))))))) (.cons (.asg (.nm 13) (.fz (.cat (.fz (.slice (.var 13) (.so (.sub (.var 6) (.cint 10))) .no)) (.fz (.slice (.var 13) .no (.so (.sub (.var 6) (.cint 10)))))))) (.cons (.asgO 14 (.lst .nil)) (.cons (.ite (.cmp .Eq (.sub (.var 6) (.cint 0)) (.cint 1)) (.cons (.asgO 14 (.comp (.tup (.cons (.cstr "all") (.cons (.var 8) (.cons (.var 11) (.cons (.var 12) (.cons (.var 22) (.cons (.call 173 (.cons (.sub (.var 6) (.cint 5)) (.cons (.var 4) (.cons (.bin .Sub (.sub (.var 6) (.cint 11)) (.cint 4)) .nil)))) .nil))))))) (.nm 22) (.seq (.var 13)) .no [22])) .nil) .nil) b_law_promise_8))))))))))
def b_law_promise : Ss := (.cons (.asg (.tup [3, 4, 5]) (.var 2)) (.cons (.asg (.nm 6) (.call 168 (.cons (.var 0) (.cons (.var 1) (.cons (.fz (.lst (.cons (.cint 5) (.cons (.cint 40) (.cons (.cint 40) (.cons (.cint 40) (.cons (.cint 40) (.cons (.cint 40) (.cons (.cint 9) (.cons (.cint 9) (.cons (.cint 9) (.cons (.cint 9) (.cons (.cint 6) (.cons (.cint 10) (.cons (.cint 40) (.cons (.cint 3) .nil)))))))))))))))) .nil))))) (.cons (.ite (.cmp .Eq (.sub (.var 6) (.cint 0)) (.cint 0)) (.cons (.ret (.call 179 (.cons (.call 168 (.cons (.var 0) (.cons (.bin .Add (.var 1) (.cint 40)) (.cons (.fz (.cat (.fz (.lst (.cons (.cint 3) .nil))) (.fz (.comp (.cint 1000) (.nm 23) (.rng1 (.cint 20)) .no [23])))) .nil)))) (.cons (.var 4) .nil)))) .nil) .nil) b_law_promise_9)))
def b_law_world_1 : Ss := (.cons (.asg (.nm 12) (.bin .Mod (.blt .int (.cons (.sub (.var 10) (.bin .Mult (.cint 4) (.var 11))) .nil)) (.blt .len (.cons (.var 5) .nil)))) (.cons (.asg (.nm 13) (.call 173 (.cons (.sub (.var 10) (.bin .Add (.bin .Mult (.cint 4) (.var 11)) (.cint 1))) (.cons (.var 4) (.cons (.bin .Sub (.bin .Mod (.blt .int (.cons (.sub (.var 10) (.bin .Add (.bin .Mult (.cint 4) (.var 11)) (.cint 2))) .nil)) (.cint 10)) (.cint 2)) .nil))))) (.cons (.asg (.nm 14) (.call 173 (.cons (.sub (.var 10) (.bin .Add (.bin .Mult (.cint 4) (.var 11)) (.cint 3))) (.cons (.var 4) (.cons (.call 175 (.cons (.var 9) (.cons (.var 12) (.cons (.call 170 (.cons (.var 13) (.cons (.var 4) .nil))) .nil)))) .nil))))) (.cons (.ite (.cmp .Eq (.blt .len (.cons (.fz (.comp (.var 20) (.nm 20) (.seq (.sub (.var 8) (.cint 3))) (.so (.cmp .Eq (.slice (.var 20) .no (.so (.cint 2))) (.tup (.cons (.var 12) (.cons (.var 13) .nil))))) [20])) .nil)) (.cint 0)) (.cons (.appE (.sub (.var 8) (.cint 3)) (.tup (.cons (.var 12) (.cons (.var 13) (.cons (.var 14) .nil))))) .nil) .nil) .nil))))
def b_law_world_2 : Ss := (.cons (.asg (.nm 16) (.bin .Mod (.blt .int (.cons (.sub (.var 15) (.bin .Mult (.cint 3) (.var 11))) .nil)) (.bin .Add (.blt .len (.cons (.var 4) .nil)) (.cint 1)))) (.cons (.asg (.nm 17) (.bin .Mod (.blt .int (.cons (.sub (.var 15) (.bin .Add (.bin .Mult (.cint 3) (.var 11)) (.cint 1))) .nil)) (.bin .Add (.blt .len (.cons (.var 4) .nil)) (.cint 1)))) (.cons (.appE (.var 7) (.tup (.cons (.var 16) (.cons (.var 17) (.cons (.bin .Add (.bin .Sub (.call 170 (.cons (.tup (.cons (.var 16) (.cons (.cint 0) .nil))) (.cons (.var 4) .nil))) (.call 170 (.cons (.tup (.cons (.var 17) (.cons (.cint 0) .nil))) (.cons (.var 4) .nil)))) (.bin .Mod (.blt .int (.cons (.sub (.var 15) (.bin .Add (.bin .Mult (.cint 3) (.var 11)) (.cint 2))) .nil)) (.cint 4))) .nil))))) .nil)))
def b_law_world_3 : Ss := (.cons (.appE (.sub (.var 8) (.cint 4)) (.call 180 (.cons (.var 0) (.cons (.bin .Add (.cint 20) (.var 11)) (.cons (.var 9) .nil))))) .nil)
def b_law_world_4 : Ss := (.cons (.asg (.nm 18) (.fz (.comp (.call 173 (.cons (.var 19) (.cons (.var 4) (.cons (.bin .Sub (.bin .Mod (.blt .int (.cons (.bin .FloorDiv (.var 19) (.cint 5)) .nil)) (.cint 9)) (.cint 1)) .nil)))) (.nm 19) (.seq (.fz (.slice (.call 168 (.cons (.var 0) (.cons (.cint 5) (.cons (.fz (.lst (.cons (.cint 45) (.cons (.cint 45) .nil)))) .nil)))) .no (.so (.sub (.var 3) (.cint 5)))))) .no [19]))) (.cons (.ret (.tup (.cons (.var 9) (.cons (.var 18) .nil)))) .nil))
def b_law_world_5 : Ss := (.cons (.for (.nm 11) (.rng1 (.sub (.var 3) (.cint 4))) b_law_world_3) b_law_world_4)
def b_law_world_6 : Ss := (.cons (.asg (.nm 15) (.call 168 (.cons (.var 0) (.cons (.cint 4) (.cons (.fz (.comp (.cint 40) (.nm 11) (.rng1 (.bin .Mult (.cint 3) (.sub (.var 3) (.cint 3)))) .no [11])) .nil))))) (.cons (.for (.nm 11) (.rng1 (.sub (.var 3) (.cint 3))) b_law_world_2) b_law_world_5))
def b_law_world : Ss := (.cons (.asg (.nm 3) (.call 168 (.cons (.var 0) (.cons (.cint 1) (.cons (.fz (.lst (.cons (.cint 4) (.cons (.cint 3) (.cons (.bin .Add (.var 1) (.cint 1)) (.cons (.cint 5) (.cons (.bin .Add (.var 2) (.cint 1)) (.cons (.cint 3) .nil)))))))) .nil))))) (.cons (.asg (.nm 4) (.fz (.comp (.call 172 (.cons (.var 19) .nil)) (.nm 19) (.seq (.call 168 (.cons (.var 0) (.cons (.cint 2) (.cons (.fz (.comp (.bin .Pow (.cint 10) (.cint 9)) (.nm 11) (.rng1 (.bin .Add (.cint 1) (.sub (.var 3) (.cint 0)))) .no [11])) .nil))))) .no [19]))) (.cons (.asg (.tup [5, 6, 7]) (.call 176 (.cons (.var 0) (.cons (.bin .Add (.cint 1) (.sub (.var 3) (.cint 1))) (.cons (.var 4) .nil))))) (.cons (.asg (.nm 8) (.new (.lst (.cons (.blt .len (.cons (.var 4) .nil)) (.cons (.var 7) (.cons (.var 5) (.cons (.new (.lst .nil)) (.cons (.new (.lst .nil)) .nil)))))))) (.cons (.asg (.nm 9) (.tup (.cons (.var 8) (.cons (.var 4) (.cons (.var 6) .nil))))) (.cons (.asg (.nm 10) (.call 168 (.cons (.var 0) (.cons (.cint 3) (.cons (.fz (.comp (.cint 40) (.nm 11) (.rng1 (.bin .Mult (.cint 4) (.var 1))) .no [11])) .nil))))) (.cons (.for (.nm 11) (.rng1 (.sub (.var 3) (.cint 2))) b_law_world_1) b_law_world_6)))))))
class U (P : Prg) : Prop where
  f__law_small : P.fns.lookup 172 = some ⟨1, 1, b_law_small⟩
  f__law_loose : P.fns.lookup 179 = some ⟨2, 9, b_law_loose⟩
  f__law_promise : P.fns.lookup 180 = some ⟨3, 24, b_law_promise⟩
  f__law_world : P.fns.lookup 226 = some ⟨3, 21, b_law_world⟩
end Kx

set_option maxRecDepth 100000
set_option maxHeartbeats 4000000
namespace Kk
open PySem L2 VL

def b_law_indexes_1 : Ss := (.cons (.ite (.cmp .Eq (.sub (.var 3) (.cint 0)) (.cstr "written")) (.cons (.asgO 2 (.cat (.vw 2) (.fz (.lst (.cons (.sub (.var 3) (.cint 2)) (.cons (.tup (.cons (.sub (.sub (.var 3) (.cint 2)) (.cint 0)) (.cons (.bin .Add (.sub (.sub (.var 3) (.cint 2)) (.cint 1)) (.cint 1)) .nil))) .nil)))))) .nil) .nil) .nil)
def b_law_indexes_2 : Ss := (.cons (.ite (.cmp .Eq (.sub (.var 4) (.cint 0)) (.cstr "below")) (.cons (.app 2 (.sub (.var 4) (.cint 5))) .nil) .nil) .nil)
def b_law_indexes_3 : Ss := (.cons (.ite (.cmp .NotEq (.sub (.var 4) (.cint 0)) (.cstr "either")) (.cons (.app 2 (.sub (.var 4) (.cint 2))) .nil) .nil) b_law_indexes_2)
def b_law_indexes_4 : Ss := (.cons (.ite (.cmp .NotIn (.var 6) (.vw 5)) (.cons (.app 5 (.var 6)) .nil) .nil) .nil)
def b_law_indexes_5 : Ss := (.cons (.frz 5) (.cons (.ret (.var 5)) .nil))
def b_law_indexes_6 : Ss := (.cons (.asgO 5 (.lst .nil)) (.cons (.for (.nm 6) (.seq (.fz (.cat (.vw 2) (.fz (.lst (.cons (.tup (.cons (.cint 0) (.cons (.cint 0) .nil))) .nil)))))) b_law_indexes_4) b_law_indexes_5))
def b_law_indexes_7 : Ss := (.cons (.for (.nm 4) (.seq (.sub (.var 0) (.cint 4))) b_law_indexes_3) b_law_indexes_6)
def b_law_indexes : Ss := (.cons (.asgO 2 (.cat (.fz (.listOf (.var 1))) (.fz (.comp (.sub (.var 7) (.cint 1)) (.nm 7) (.seq (.sub (.var 0) (.cint 3))) .no [7])))) (.cons (.for (.nm 3) (.seq (.sub (.var 0) (.cint 2))) b_law_indexes_1) b_law_indexes_7))
class U (P : Prg) : Prop where
  f__law_indexes : P.fns.lookup 185 = some ⟨2, 8, b_law_indexes⟩
end Kk

set_option maxRecDepth 100000
set_option maxHeartbeats 4000000
namespace Kn
open PySem L2 VL

def b_shifted : Ss := (.cons (.ret (.tup (.cons (.sub (.var 0) (.cint 0)) (.cons (.bin .Add (.sub (.var 0) (.cint 1)) (.var 1)) .nil)))) .nil)
def b_less : Ss := (.cons (.ret (.tup (.cons (.sub (.var 0) (.cint 0)) (.cons (.sub (.var 1) (.cint 0)) (.cons (.bin .Sub (.bin .Sub (.sub (.var 1) (.cint 1)) (.sub (.var 0) (.cint 1))) (.cint 1)) .nil))))) .nil)
def b_at_most : Ss := (.cons (.ret (.tup (.cons (.sub (.var 0) (.cint 0)) (.cons (.sub (.var 1) (.cint 0)) (.cons (.bin .Sub (.sub (.var 1) (.cint 1)) (.sub (.var 0) (.cint 1))) .nil))))) .nil)
def b_opposite : Ss := (.cons (.asg (.tup [1, 2, 3]) (.var 0)) (.cons (.ret (.tup (.cons (.var 2) (.cons (.var 1) (.cons (.bin .Sub (.neg (.var 3)) (.cint 1)) .nil))))) .nil))
def b_Known___init__ : Ss := (.cons (.fld (.var 0) "many" (.var 1)) (.cons (.fld (.var 0) "differences" (.new (.listOf (.var 2)))) (.cons (.fld (.var 0) "lists" (.new (.listOf (.var 3)))) (.cons (.fld (.var 0) "cells" (.new (.listOf (.var 4)))) (.cons (.fld (.var 0) "taken" (.new (.listOf (.var 5)))) (.cons (.fld (.var 0) "fresh" (.new (.listOf (.var 6)))) .nil))))))
def b_Known_new_number : Ss := (.cons (.fld (.var 0) "many" (.bin .Add (.attr (.var 0) "many") (.cint 1))) (.cons (.ret (.tup (.cons (.attr (.var 0) "many") (.cons (.cint 0) .nil)))) .nil))
def b_Known_length_1 : Ss := (.cons (.asg (.nm 1) (.sub (.sub (.attr (.var 0) "lists") (.var 1)) (.cint 1))) .nil)
def b_Known_length_2 : Ss := (.cons (.ret (.sub (.sub (.attr (.var 0) "lists") (.var 1)) (.cint 1))) .nil)
def b_Known_length : Ss := (.cons (.wh (.cmp .Eq (.sub (.sub (.attr (.var 0) "lists") (.var 1)) (.cint 0)) (.cstr "written")) b_Known_length_1) b_Known_length_2)
def b_Known_cell_1 : Ss := (.cons (.ite (.and (.cmp .Eq (.var 3) (.var 1)) (.cmp .Eq (.var 4) (.var 2))) (.cons (.ret (.var 5)) .nil) .nil) .nil)
def b_Known_cell_2 : Ss := (.cons (.asg (.nm 5) (.mcall (.var 0) "new_number" .nil)) (.cons (.appE (.attr (.var 0) "cells") (.tup (.cons (.var 1) (.cons (.var 2) (.cons (.var 5) .nil))))) (.cons (.ret (.var 5)) .nil)))
def b_Known_cell : Ss := (.cons (.for (.tup [3, 4, 5]) (.seq (.attr (.var 0) "cells")) b_Known_cell_1) b_Known_cell_2)
def b_Known_twin : Ss := (.cons (.ret (.make 9 (.cons (.attr (.var 0) "many") (.cons (.attr (.var 0) "differences") (.cons (.attr (.var 0) "lists") (.cons (.attr (.var 0) "cells") (.cons (.attr (.var 0) "taken") (.cons (.attr (.var 0) "fresh") .nil)))))))) .nil)
def b_named_indexes_1 : Ss := (.cons (.ite (.cmp .Eq (.sub (.var 2) (.cint 0)) (.cstr "written")) (.cons (.ext 1 (.fz (.lst (.cons (.sub (.var 2) (.cint 2)) (.cons (.call 194 (.cons (.sub (.var 2) (.cint 2)) (.cons (.cint 1) .nil))) .nil))))) .nil) .nil) .nil)
def b_named_indexes_2 : Ss := (.cons (.ite (.cmp .Eq (.sub (.var 3) (.cint 0)) (.cstr "below")) (.cons (.app 1 (.sub (.var 3) (.cint 5))) .nil) .nil) .nil)
def b_named_indexes_3 : Ss := (.cons (.ite (.cmp .NotEq (.sub (.var 3) (.cint 0)) (.cstr "either")) (.cons (.app 1 (.sub (.var 3) (.cint 2))) .nil) .nil) b_named_indexes_2)
def b_named_indexes_4 : Ss := (.cons (.putE (.var 4) (.var 5) (.cbl true)) .nil)
def b_named_indexes_5 : Ss := (.cons (.ret (.new (.listOf (.var 4)))) .nil)
def b_named_indexes_6 : Ss := (.cons (.app 1 (.glob 9)) (.cons (.asg (.nm 4) (.new .dctN0)) (.cons (.frz 1) (.cons (.for (.nm 5) (.seq (.var 1)) b_named_indexes_4) b_named_indexes_5))))
def b_named_indexes_7 : Ss := (.cons (.for (.nm 3) (.seq (.attr (.var 0) "taken")) b_named_indexes_3) b_named_indexes_6)
def b_named_indexes : Ss := (.cons (.asgO 1 (.listOf (.attr (.var 0) "fresh"))) (.cons (.ext 1 (.fz (.comp (.var 5) (.tup [6, 5, 7]) (.seq (.attr (.var 0) "cells")) .no [6, 5, 7]))) (.cons (.for (.nm 2) (.seq (.attr (.var 0) "lists")) b_named_indexes_1) b_named_indexes_7)))
class U (P : Prg) : Prop where
  f_shifted : P.fns.lookup 194 = some ⟨2, 2, b_shifted⟩
  f_less : P.fns.lookup 191 = some ⟨2, 2, b_less⟩
  f_at_most : P.fns.lookup 192 = some ⟨2, 2, b_at_most⟩
  f_opposite : P.fns.lookup 193 = some ⟨1, 4, b_opposite⟩
  f_Known___init__ : P.fns.lookup 195 = some ⟨7, 7, b_Known___init__⟩
  f_Known_new_number : P.fns.lookup 196 = some ⟨1, 1, b_Known_new_number⟩
  f_Known_length : P.fns.lookup 197 = some ⟨2, 2, b_Known_length⟩
  f_Known_cell : P.fns.lookup 198 = some ⟨3, 6, b_Known_cell⟩
  f_Known_twin : P.fns.lookup 199 = some ⟨1, 1, b_Known_twin⟩
  f_named_indexes : P.fns.lookup 190 = some ⟨1, 8, b_named_indexes⟩
  g_GROUND : P.glob.lookup 9 = some (.tup [.int 0, .int 0])
  m_9_new_number : P.meth.lookup (9, ("new_number" : Str)) = some 196
  m_9_length : P.meth.lookup (9, ("length" : Str)) = some 197
  m_9_cell : P.meth.lookup (9, ("cell" : Str)) = some 198
  m_9_twin : P.meth.lookup (9, ("twin" : Str)) = some 199
  i_9 : P.init.lookup 9 = some 195
  d_9_many : P.flds.contains (9, ("many" : Str)) = true
  d_9_differences : P.flds.contains (9, ("differences" : Str)) = true
  d_9_lists : P.flds.contains (9, ("lists" : Str)) = true
  d_9_cells : P.flds.contains (9, ("cells" : Str)) = true
  d_9_taken : P.flds.contains (9, ("taken" : Str)) = true
  d_9_fresh : P.flds.contains (9, ("fresh" : Str)) = true
end Kn

set_option maxRecDepth 100000
set_option maxHeartbeats 4000000
namespace K17
open PySem L2 VL

def b_law_made : Ss := (.cons (.asg (.nm 2) (.sub (.var 0) (.cint 0))) (.cons (.ret (.make 9 (.cons (.sub (.var 2) (.cint 0)) (.cons (.fz (.listOf (.sub (.var 2) (.cint 1)))) (.cons (.fz (.listOf (.sub (.var 2) (.cint 2)))) (.cons (.fz (.listOf (.sub (.var 2) (.cint 3)))) (.cons (.fz (.listOf (.sub (.var 2) (.cint 4)))) (.cons (.fz (.listOf (.var 1))) .nil)))))))) .nil))
def b_law_splits_1 : Ss := (.cons (.ite (.cmp .Eq (.sub (.sub (.sub (.var 0) (.cint 3)) (.var 4)) (.cint 0)) (.sub (.sub (.sub (.var 0) (.cint 3)) (.var 5)) (.cint 0))) (.cons (.app 3 (.tup (.cons (.cstr "pair") (.cons (.var 4) (.cons (.var 5) .nil))))) .nil) .nil) .nil)
def b_law_splits_2 : Ss := (.cons (.for (.nm 5) (.rng2 (.bin .Add (.var 4) (.cint 1)) (.blt .len (.cons (.sub (.var 0) (.cint 3)) .nil))) b_law_splits_1) .nil)
def b_law_splits_3 : Ss := (.cons (.ite (.cmp .Eq (.sub (.sub (.sub (.var 0) (.cint 2)) (.sub (.sub (.sub (.var 0) (.cint 3)) (.var 4)) (.cint 0))) (.cint 0)) (.cstr "written")) (.cons (.app 3 (.tup (.cons (.cstr "write") (.cons (.var 4) .nil)))) .nil) .nil) b_law_splits_2)
def b_law_splits_4 : Ss := (.cons (.app 3 (.tup (.cons (.var 7) (.cons (.var 6) (.cons (.var 8) (.cons (.bin .Mod (.blt .int (.cons (.bin .Add (.sub (.var 2) (.var 6)) (.bin .Mult (.cint 7) (.var 8))) .nil)) (.blt .len (.cons (.var 1) .nil))) .nil)))))) (.cons (.app 3 (.tup (.cons (.var 7) (.cons (.var 6) (.cons (.bin .Mod (.blt .int (.cons (.bin .Add (.sub (.var 2) (.bin .Add (.var 6) (.cint 8))) (.bin .Mult (.cint 5) (.var 8))) .nil)) (.blt .len (.cons (.var 1) .nil))) (.cons (.var 8) .nil)))))) .nil))
def b_law_splits_5 : Ss := (.cons (.asg (.nm 7) (.sub (.sub (.sub (.var 0) (.cint 4)) (.var 6)) (.cint 0))) (.cons (.ite (.cmp .Eq (.var 7) (.cstr "either")) (.cons (.app 3 (.tup (.cons (.var 7) (.cons (.var 6) .nil)))) .nil) (.cons (.ite (.or (.cmp .Eq (.var 7) (.cstr "all")) (.cmp .Eq (.var 7) (.cstr "match"))) (.cons (.asgO 3 (.cat (.vw 3) (.fz (.comp (.tup (.cons (.var 7) (.cons (.var 6) (.cons (.var 8) .nil)))) (.nm 8) (.rng1 (.blt .len (.cons (.var 1) .nil))) .no [8])))) .nil) (.cons (.for (.nm 8) (.rng1 (.blt .len (.cons (.var 1) .nil))) b_law_splits_4) .nil)) .nil)) .nil))
def b_law_splits_6 : Ss := (.cons (.frz 3) (.cons (.ret (.var 3)) .nil))
def b_law_splits_7 : Ss := (.cons (.for (.nm 6) (.rng1 (.blt .len (.cons (.sub (.var 0) (.cint 4)) .nil))) b_law_splits_5) b_law_splits_6)
def b_law_splits : Ss := (.cons (.asgO 3 (.lst .nil)) (.cons (.for (.nm 4) (.rng1 (.blt .len (.cons (.sub (.var 0) (.cint 3)) .nil))) b_law_splits_3) b_law_splits_7))
def b_law_kept : Ss := (.cons (.ret (.blt .all (.cons (.fz (.comp (.cmp .LtE (.bin .Sub (.call 170 (.cons (.tup (.cons (.var 2) (.cons (.cint 0) .nil))) (.cons (.var 1) .nil))) (.call 170 (.cons (.tup (.cons (.var 3) (.cons (.cint 0) .nil))) (.cons (.var 1) .nil)))) (.var 4)) (.tup [2, 3, 4]) (.seq (.var 0)) .no [2, 3, 4])) .nil))) .nil)
def b_law_1 : Ss := (.cons (.appE (.var 4) (.call 175 (.cons (.var 1) (.cons (.var 14) (.cons (.call 170 (.cons (.var 15) (.cons (.var 4) .nil))) .nil))))) (.cons (.ite (.cmp .NotEq (.var 16) (.tup (.cons (.blt .len (.cons (.var 4) .nil)) (.cons (.cint 0) .nil)))) (.cons (.ret (.cbl false)) .nil) .nil) .nil))
def b_law_2 : Ss := (.cons (.asg (.nm 17) (.blt .len (.cons (.fz (.comp (.var 19) (.nm 19) (.seq (.var 13)) (.so (.tru (.call 228 (.cons (.var 19) (.cons (.var 4) .nil))))) [19])) .nil))) (.cons (.ite (.or (.cmp .Eq (.var 17) (.cint 0)) (.and (.cmp .Gt (.var 17) (.cint 1)) (.cmp .NotEq (.sub (.var 11) (.cint 0)) (.cstr "either")))) (.cons (.ret (.cbl false)) .nil) .nil) .nil))
def b_law_3 : Ss := (.cons (.ite (.cmp .NotEq (.attr (.var 6) "many") (.blt .len (.cons (.var 4) .nil))) (.cons (.ret (.cbl false)) .nil) .nil) b_law_2)
def b_law_4 : Ss := (.cons (.for (.tup [14, 15, 16]) (.seq (.fz (.slice (.attr (.var 6) "cells") (.so (.var 12)) .no))) b_law_1) b_law_3)
def b_law_5 : Ss := (.cons (.asg (.nm 12) (.blt .len (.cons (.attr (.var 6) "cells") .nil))) (.cons (.asg (.nm 13) (.call 212 (.cons (.var 6) (.cons (.fz (.listOf (.var 7))) (.cons (.var 11) .nil))))) (.cons (.ite (.or (.not (.tru (.isi (.var 13) "list"))) (.cmp .Gt (.blt .len (.cons (.attr (.var 6) "cells") .nil)) (.bin .Add (.var 12) (.cint 2)))) (.cons (.ret (.cbl false)) .nil) .nil) b_law_4)))
def b_law_6 : Ss := (.cons (.ret (.cbl true)) .nil)
def b_law : Ss := (.cons (.asg (.tup [1, 2]) (.call 226 (.cons (.var 0) (.cons (.cint 5) (.cons (.cint 6) .nil))))) (.cons (.asg (.tup [3, 4, 5]) (.var 1)) (.cons (.asg (.nm 6) (.call 222 (.cons (.var 1) (.cons (.var 2) .nil)))) (.cons (.asg (.nm 7) (.call 185 (.cons (.var 3) (.cons (.var 2) .nil)))) (.cons (.asg (.nm 8) (.call 168 (.cons (.var 0) (.cons (.cint 6) (.cons (.fz (.comp (.cint 1000) (.nm 18) (.rng1 (.cint 18)) .no [18])) .nil))))) (.cons (.asg (.nm 9) (.call 227 (.cons (.var 3) (.cons (.var 7) (.cons (.var 8) .nil))))) (.cons (.asg (.nm 10) (.bin .Mod (.blt .int (.cons (.sub (.var 8) (.cint 16)) .nil)) (.blt .max2 (.cons (.cint 1) (.cons (.blt .len (.cons (.var 9) .nil)) .nil))))) (.cons (.asg (.nm 9) (.fz (.cat (.fz (.slice (.var 9) (.so (.var 10)) .no)) (.fz (.slice (.var 9) .no (.so (.var 10))))))) (.cons (.asg (.nm 4) (.new (.listOf (.var 4)))) (.cons (.for (.nm 11) (.seq (.fz (.slice (.var 9) .no (.so (.cint 24))))) b_law_5) b_law_6))))))))))
class U (P : Prg) : Prop where
  f__law_made : P.fns.lookup 222 = some ⟨2, 3, b_law_made⟩
  f__law_splits : P.fns.lookup 227 = some ⟨3, 9, b_law_splits⟩
  f__law_kept : P.fns.lookup 228 = some ⟨2, 5, b_law_kept⟩
  f_law : P.fns.lookup 229 = some ⟨1, 20, b_law⟩
end K17

set_option maxRecDepth 100000
set_option maxHeartbeats 4000000
namespace K17
open PySem L2 VL
def P : Prg where
  fns := [(194, Fn.mk 2 2 Kq.b_shifted), (191, Fn.mk 2 2 Kq.b_less), (192, Fn.mk 2 2 Kq.b_at_most), (193, Fn.mk 1 4 Kq.b_opposite), (195, Fn.mk 7 7 Kq.b_Known___init__), (196, Fn.mk 1 1 Kq.b_Known_new_number), (197, Fn.mk 2 2 Kq.b_Known_length), (198, Fn.mk 3 6 Kq.b_Known_cell), (167, Fn.mk 2 2 Kg.b_law_cell), (168, Fn.mk 3 10 Kg.b_law_draws), (169, Fn.mk 2 2 Kg.b_law_at_most), (170, Fn.mk 2 2 Kg.b_law_of), (171, Fn.mk 2 3 Kg.b_law_length), (173, Fn.mk 3 4 Kg.b_law_form_for), (174, Fn.mk 2 5 Kg.b_law_base), (175, Fn.mk 3 8 Kg.b_law_there), (176, Fn.mk 3 11 Kg.b_law_lists), (149, Fn.mk 3 4 Kg.b_law_compared), (177, Fn.mk 4 8 Kg.b_law_range), (178, Fn.mk 2 17 Kg.b_law_true), (200, Fn.mk 3 3 Sp.b_sign_ways), (201, Fn.mk 2 2 Sp.b_equal), (202, Fn.mk 2 6 Sp.b_parted), (203, Fn.mk 2 2 Sp.b_outside), (204, Fn.mk 3 7 Sp.b_pair_ways), (205, Fn.mk 2 11 Sp.b_write_ways), (206, Fn.mk 3 10 Sp.b_all_ways), (207, Fn.mk 3 12 Sp.b_match_ways), (208, Fn.mk 4 10 Sp.b_sorted_ways), (209, Fn.mk 4 13 Sp.b_below_ways), (210, Fn.mk 2 4 Sp.b_is_row), (211, Fn.mk 3 7 Sp.b_fits), (212, Fn.mk 3 5 Sp.b_split_ways), (172, Fn.mk 1 1 Kx.b_law_small), (179, Fn.mk 2 9 Kx.b_law_loose), (180, Fn.mk 3 24 Kx.b_law_promise), (226, Fn.mk 3 21 Kx.b_law_world), (185, Fn.mk 2 8 Kk.b_law_indexes), (222, Fn.mk 2 3 K17.b_law_made), (227, Fn.mk 3 9 K17.b_law_splits), (228, Fn.mk 2 5 K17.b_law_kept), (229, Fn.mk 1 20 K17.b_law)]
  glob := [(9, .tup [.int 0, .int 0])]
  gdct := [(10, [(("pair" : Str), (3 : Int)), (("write" : Str), (2 : Int)), (("either" : Str), (2 : Int)), (("all" : Str), (3 : Int)), (("match" : Str), (3 : Int)), (("sorted" : Str), (4 : Int)), (("below" : Str), (4 : Int))])]
  meth := [((9, ("new_number" : Str)), 196), ((9, ("length" : Str)), 197), ((9, ("cell" : Str)), 198)]
  init := [(9, 195)]
  flds := [(9, ("many" : Str)), (9, ("differences" : Str)), (9, ("lists" : Str)), (9, ("cells" : Str)), (9, ("taken" : Str)), (9, ("fresh" : Str))]
  tryf := []
  sub := []
instance : Kq.U P := ⟨rfl, rfl, rfl, rfl, rfl, rfl, rfl, rfl, rfl, rfl, rfl, rfl, rfl, rfl, rfl, rfl, rfl, rfl, rfl⟩
instance : Kg.U P := ⟨rfl, rfl, rfl, rfl, rfl, rfl, rfl, rfl, rfl, rfl, rfl, rfl⟩
instance : Sp.U P := ⟨rfl, rfl, rfl, rfl, rfl, rfl, rfl, rfl, rfl, rfl, rfl, rfl, rfl, rfl⟩
instance : Kx.U P := ⟨rfl, rfl, rfl, rfl⟩
instance : Kk.U P := ⟨rfl⟩
instance : K17.U P := ⟨rfl, rfl, rfl, rfl⟩
end K17

set_option maxRecDepth 100000
set_option maxHeartbeats 4000000
/-! knowns, plain: forms, lists, cells, promises, a state that fits -/
namespace Kv
open PySem L2 VL
abbrev il (ns : List Int) : List AV := ns.map AV.int
abbrev Fm := Nat × Int
def fv (vs : List Int) (f : Fm) : Int := if f.1 = 0 then f.2 else (vs[f.1 - 1]?).getD 0 + f.2
def fmv (f : Fm) : AV := .tup [.int (f.1 : Int), .int f.2]
inductive Ls where
  | wr (b : Nat) (i v : Fm) | nw (f : Fm)
def lsv : Ls → AV
  | .wr b i v => .tup [.str "written", .int (b : Int), fmv i, fmv v]
  | .nw f => .tup [.str "new", fmv f]
abbrev Ce := Nat × Fm × Fm
def cev (c : Ce) : AV := .tup [.int (c.1 : Int), fmv c.2.1, fmv c.2.2]
abbrev Td := Nat × Nat × Int
def td (t : Td) : AV := .tup [.int (t.1 : Int), .int (t.2.1 : Int), .int t.2.2]
inductive Sg where
  | lt | le | gt | ge | eq | ne
deriving DecidableEq
def sgS : Sg → Str
  | .lt => "<" | .le => "<=" | .gt => ">" | .ge => ">=" | .eq => "==" | .ne => "!="
inductive Pr where
  | eit (ws : List (List Td))
  | all (n : Nat) (lo hi : Fm) (s : Sg) (f : Fm)
  | mat (n : Nat) (lo hi : Fm) (s : Sg) (o : Nat) (p : Int)
  | srt (n : Nat) (lo hi : Fm)
  | blw (n : Nat) (lo hi : Fm) (o : Nat) (low high : Fm)
def prv : Pr → AV
  | .eit ws => .tup [.str "either", .tup (ws.map fun w => .tup (w.map td))]
  | .all n lo hi s f => .tup [.str "all", .int (n : Int), fmv lo, fmv hi, .str (sgS s), fmv f]
  | .mat n lo hi s o p => .tup [.str "match", .int (n : Int), fmv lo, fmv hi, .str (sgS s), .int (o : Int), .int p]
  | .srt n lo hi => .tup [.str "sorted", .int (n : Int), fmv lo, fmv hi]
  | .blw n lo hi o low high => .tup [.str "below", .int (n : Int), fmv lo, fmv hi, .int (o : Int), fmv low, fmv high]
/-- a form whose unknown is there -/
def FIn (m : Nat) (f : Fm) : Prop := f.1 ≤ m ∧ (-10000000000000 ≤ f.2 ∧ f.2 ≤ 10000000000000)
/-- a form that fits -/
def FOk (vs : List Int) (f : Fm) : Prop := f.1 ≤ vs.length ∧ (-10000000000 ≤ f.2 ∧ f.2 ≤ 10000000000) ∧ (-1000 ≤ fv vs f ∧ fv vs f ≤ 1000)
theorem FOk.fin {vs : List Int} {f : Fm} (h : FOk vs f) : FIn vs.length f := ⟨h.1, by have := h.2.1; omega, by have := h.2.1; omega⟩
theorem FIn.mono {m m' : Nat} {f : Fm} (h : FIn m f) (e : m ≤ m') : FIn m' f := ⟨Nat.le_trans h.1 e, h.2⟩
def TIn (m : Nat) (t : Td) : Prop := t.1 ≤ m ∧ t.2.1 ≤ m ∧ (-20000000000000 ≤ t.2.2 ∧ t.2.2 ≤ 20000000000000)
/-- lists that lean on lesser ones alone -/
def LIn (m : Nat) (ls : List Ls) : Prop := ∀ (n : Nat) l, ls[n]? = some l → match l with
  | .wr b i v => b < n ∧ FIn m i ∧ FIn m v
  | .nw f => FIn m f
def LOk (vs : List Int) (ls : List Ls) : Prop := ∀ (n : Nat) l, ls[n]? = some l → match l with
  | .wr b i v => b < n ∧ FOk vs i ∧ FOk vs v
  | .nw f => FOk vs f ∧ 0 ≤ fv vs f ∧ fv vs f < 10
theorem LOk.lin {vs : List Int} {ls : List Ls} (h : LOk vs ls) : LIn vs.length ls := fun n l e => by
  have := h n l e
  cases l with
  | wr b i v => exact ⟨this.1, this.2.1.fin, this.2.2.fin⟩
  | nw f => exact this.1.fin
def CIn (m nl : Nat) (c : Ce) : Prop := c.1 < nl ∧ FIn m c.2.1 ∧ FIn m c.2.2
def PIn (m nl : Nat) : Pr → Prop
  | .eit ws => ws ≠ [] ∧ ws.length ≤ 4 ∧ ∀ w ∈ ws, w.length ≤ 4 ∧ ∀ t ∈ w, TIn m t
  | .all n lo hi _ f => n < nl ∧ FIn m lo ∧ FIn m hi ∧ FIn m f
  | .mat n lo hi _ o p => n < nl ∧ FIn m lo ∧ FIn m hi ∧ o < nl ∧ (-1000000 ≤ p ∧ p ≤ 1000000)
  | .srt n lo hi => n < nl ∧ FIn m lo ∧ FIn m hi
  | .blw n lo hi o low high => n < nl ∧ FIn m lo ∧ FIn m hi ∧ o < nl ∧ FIn m low ∧ FIn m high
/-! ### a list's length -/
def lenF (ls : List Ls) : Nat → Nat → Fm
  | 0, _ => (0, 0)
  | n + 1, cur => match ls[cur]? with
    | some (.wr b _ _) => lenF ls n b
    | some (.nw f) => f
    | none => (0, 0)
def LF (ls : List Ls) (num : Nat) : Fm := lenF ls (num + 1) num
section
variable {m : Nat} {vs : List Int} {ls : List Ls}
theorem lenF_eq (ho : LIn m ls) : ∀ (k cur n : Nat), cur < k → cur < n → lenF ls n cur = lenF ls (cur + 1) cur := by
  intro k
  induction k with
  | zero => intro cur n h; omega
  | succ k ih =>
    intro cur n h1 h2
    obtain ⟨n, rfl⟩ : ∃ n', n = n' + 1 := ⟨n - 1, by omega⟩
    simp only [lenF]
    cases e : ls[cur]? with
    | none => rfl
    | some l =>
      cases l with
      | nw f => rfl
      | wr b i v =>
        have hb := (ho cur _ e).1
        simp only
        rw [ih b n (by omega) (by omega), ih b cur (by omega) (by omega)]
theorem L_wr (ho : LIn m ls) {num b : Nat} {i v : Fm} (e : ls[num]? = some (.wr b i v)) : LF ls num = LF ls b := by
  unfold LF
  simp only [lenF, e]
  exact lenF_eq ho (b + 1) b num (by omega) (ho num _ e).1
theorem L_nw {num : Nat} {f : Fm} (e : ls[num]? = some (.nw f)) : LF ls num = f := by
  unfold LF
  simp only [lenF, e]
theorem L_in (ho : LIn m ls) : ∀ (k num : Nat), num < k → num < ls.length → FIn m (LF ls num) := by
  intro k
  induction k with
  | zero => intro num h; omega
  | succ k ih =>
    intro num h1 h2
    have e := List.getElem?_eq_getElem h2
    cases w : ls[num] with
    | nw f =>
      rw [w] at e
      rw [L_nw e]
      exact ho num _ e
    | wr b i v =>
      rw [w] at e
      rw [L_wr ho e]
      have hb := (ho num _ e).1
      exact ih b (by omega) (by omega)
theorem L_ok (ho : LOk vs ls) : ∀ (k num : Nat), num < k → num < ls.length → FOk vs (LF ls num) ∧ 0 ≤ fv vs (LF ls num) ∧ fv vs (LF ls num) < 10 := by
  intro k
  induction k with
  | zero => intro num h; omega
  | succ k ih =>
    intro num h1 h2
    have e := List.getElem?_eq_getElem h2
    cases w : ls[num] with
    | nw f =>
      rw [w] at e
      rw [L_nw e]
      exact ho num _ e
    | wr b i v =>
      rw [w] at e
      rw [L_wr ho.lin e]
      have hb := (ho num _ e).1
      exact ih b (by omega) (by omega)
end
/-! ### the state: what a list holds at an index -/
structure Rl where
  kind : Int
  a : Int
  b : Int
  c : Int
  slope : Int
def Rl.Ok (r : Rl) : Prop := (-4 ≤ r.a ∧ r.a ≤ 5) ∧ (0 ≤ r.b ∧ r.b ≤ 3) ∧ (-4 ≤ r.c ∧ r.c ≤ 5) ∧ (0 ≤ r.slope ∧ r.slope ≤ 2) ∧ (0 ≤ r.kind ∧ r.kind ≤ 2)
def rlv : Option Rl → AV
  | none => .non
  | some r => .tup [.int r.kind, .lst [.int r.a, .int r.b, .int r.c], .int r.slope]
def base (r : Rl) (k : Int) : Int :=
  if r.kind = 0 then (if k % 3 = 0 then r.a else if k % 3 = 1 then r.b else r.c)
  else if r.kind = 1 then r.a + r.slope * k + r.b * (if k > 2 then 1 else 0)
  else r.a
def thF (vs : List Int) (ls : List Ls) (rs : List (Option Rl)) : Nat → Nat → Int → Int
  | 0, _, _ => 0
  | n + 1, cur, k => match ls[cur]? with
    | some (.wr b i v) => if k = fv vs i then fv vs v else thF vs ls rs n b k
    | some (.nw _) => match rs[cur]? with
      | some (some r) => base r k
      | _ => 0
    | none => 0
def th (vs : List Int) (ls : List Ls) (rs : List (Option Rl)) (num : Nat) (k : Int) : Int := thF vs ls rs (num + 1) num k
/-- rules where lists are new -/
def ROk (ls : List Ls) (rs : List (Option Rl)) : Prop := rs.length = ls.length ∧ ∀ (n : Nat) f, ls[n]? = some (.nw f) → ∃ r, rs[n]? = some (some r) ∧ r.Ok
section
variable {vs : List Int} {ls : List Ls} {rs : List (Option Rl)}
theorem thF_eq (ho : LOk vs ls) (k : Int) : ∀ (m cur n : Nat), cur < m → cur < n → thF vs ls rs n cur k = thF vs ls rs (cur + 1) cur k := by
  intro m
  induction m with
  | zero => intro cur n h; omega
  | succ m ih =>
    intro cur n h1 h2
    obtain ⟨n, rfl⟩ : ∃ n', n = n' + 1 := ⟨n - 1, by omega⟩
    simp only [thF]
    cases e : ls[cur]? with
    | none => rfl
    | some l =>
      cases l with
      | nw f => rfl
      | wr b i v =>
        have hb := (ho cur _ e).1
        simp only
        rw [ih b n (by omega) (by omega), ih b cur (by omega) (by omega)]
theorem T_hit {num b : Nat} {i v : Fm} {k : Int} (e : ls[num]? = some (.wr b i v)) (h : k = fv vs i) : th vs ls rs num k = fv vs v := by
  unfold th
  simp only [thF, e, h, if_true]
theorem T_miss (ho : LOk vs ls) {num b : Nat} {i v : Fm} {k : Int} (e : ls[num]? = some (.wr b i v)) (h : k ≠ fv vs i) : th vs ls rs num k = th vs ls rs b k := by
  unfold th
  simp only [thF, e, h, if_false]
  exact thF_eq ho k (b + 1) b num (by omega) (ho num _ e).1
theorem T_new {num : Nat} {f : Fm} {k : Int} {r : Rl} (e : ls[num]? = some (.nw f)) (h : rs[num]? = some (some r)) : th vs ls rs num k = base r k := by
  unfold th
  simp only [thF, e, h]
theorem base_bd {r : Rl} (h : r.Ok) {k : Int} (k1 : -100 ≤ k) (k2 : k ≤ 100) : -1000 ≤ base r k ∧ base r k ≤ 1000 := by
  obtain ⟨h1, h2, h3, h4, h5⟩ := h
  unfold base
  have hm : r.slope * k ≤ 200 ∧ -200 ≤ r.slope * k := by
    have : r.slope = 0 ∨ r.slope = 1 ∨ r.slope = 2 := by omega
    rcases this with e | e | e <;> rw [e] <;> omega
  split
  · split
    · omega
    · split <;> omega
  · split
    · split <;> omega
    · omega
theorem T_bd (ho : LOk vs ls) (hr : ROk ls rs) {k : Int} (k1 : -100 ≤ k) (k2 : k ≤ 100) : ∀ (m num : Nat), num < m → num < ls.length → -1000 ≤ th vs ls rs num k ∧ th vs ls rs num k ≤ 1000 := by
  intro m
  induction m with
  | zero => intro num h; omega
  | succ m ih =>
    intro num h1 h2
    have e := List.getElem?_eq_getElem h2
    cases w : ls[num] with
    | nw f =>
      rw [w] at e
      obtain ⟨r, er, ok⟩ := hr.2 num f e
      rw [T_new e er]
      exact base_bd ok k1 k2
    | wr b i v =>
      rw [w] at e
      have hb := ho num _ e
      by_cases c : k = fv vs i
      · rw [T_hit e c]; exact hb.2.2.2.2
      · rw [T_miss ho e c]; exact ih b (by have := hb.1; omega) (by have := hb.1; omega)
end
/-! ### truth -/
def cmpB (s : Sg) (a b : Int) : Bool := match s with
  | .lt => decide (a < b) | .le => decide (a ≤ b) | .gt => decide (b < a) | .ge => decide (b ≤ a) | .eq => decide (a = b) | .ne => !decide (a = b)
def tv (vs : List Int) (u : Nat) : Int := fv vs (u, 0)
def keepB (vs : List Int) (t : Td) : Bool := decide (tv vs t.1 - tv vs t.2.1 ≤ t.2.2)
/-- the places of a list from lo to below hi -/
def rgP (vs : List Int) (ls : List Ls) (n : Nat) (lo hi : Fm) : List Int :=
  let a := max 0 (fv vs lo)
  let e := min (fv vs hi) (fv vs (LF ls n))
  (List.range (e - a).toNat).map fun (k : Nat) => a + (k : Int)
/-- an entry of the state's world -/
structure Wd where
  vs : List Int
  ls : List Ls
  rs : List (Option Rl)
def Wd.t (w : Wd) (n : Nat) (k : Int) : Int := th w.vs w.ls w.rs n k
def Wd.cells (w : Wd) (n : Nat) (lo hi : Fm) : List Int := (rgP w.vs w.ls n lo hi).map (w.t n)
def pairsLe : List Int → Bool
  | a :: b :: r => decide (a ≤ b) && pairsLe (b :: r)
  | _ => true
def Wd.holds (w : Wd) : Pr → Bool
  | .eit ws => ws.any fun wy => wy.all (keepB w.vs)
  | .all n lo hi s f => (w.cells n lo hi).all fun c => cmpB s c (fv w.vs f)
  | .mat n lo hi s o p => ((w.cells n lo hi).zip (w.cells o lo hi)).all fun c => cmpB s c.1 (c.2 + p)
  | .srt n lo hi => pairsLe (w.cells n lo hi)
  | .blw n lo hi o low high => (w.cells n lo hi).all fun a => (w.cells o low high).all fun b => decide (a ≤ b)
structure Wd.Ok (w : Wd) : Prop where
  l : LOk w.vs w.ls
  r : ROk w.ls w.rs
  v : ∀ v ∈ w.vs, -2000000000 ≤ v ∧ v ≤ 2000000000
  n : w.vs.length ≤ 20
  k : w.ls.length ≤ 20
end Kv

set_option maxRecDepth 100000
set_option maxHeartbeats 4000000
namespace Kg
open PySem L2 VL Kv
local macro_rules
  | `(tactic| push_cast [$xs,*]) => `(tactic| try simp only [$xs,*, WpSs, WpS, WpE, WpEs, WpBs, WpO, WpN, WpI, WpC, WpT, getS, setS, tgK, setsS, wipeS, k_add, k_addT, k_sub, k_mul, k_fdiv, k_mod, k_neg, k_lt, k_le, k_gt, k_ge, k_eqI, k_neI, k_eqS, k_neS, k_eqB, k_neB, k_is, k_isn, k_isB, k_isnB, k_gIn, ctx_gdct, isNon_non, isNon_int, isNon_str, isNon_lst, isNon_tup, isNon_adr, k_lenS, k_lenL, k_lenR, k_lenT, k_int, k_str, k_abs, tru_bl, augK, ctx_call, ctx_glob, k_in, k_nin, k_inS, k_addS, k_intB, isi_non_int, isi_non_bool, isi_non_str, isi_non_list, isi_non_tuple, isi_bl_int, isi_bl_bool, isi_bl_str, isi_bl_list, isi_bl_tuple, isi_int_int, isi_int_bool, isi_int_str, isi_int_list, isi_int_tuple, isi_str_int, isi_str_bool, isi_str_str, isi_str_list, isi_str_tuple, isi_tup_int, isi_tup_bool, isi_tup_str, isi_tup_list, isi_tup_tuple, isi_lst_int, isi_lst_bool, isi_lst_str, isi_lst_list, isi_lst_tuple, isi_ro_int, isi_ro_bool, isi_ro_str, isi_ro_list, isi_ro_tuple, zs_lst, zs_tup])
theorem il_get {ns : List Int} {j : Nat} (hj : j < ns.length) : atI (il ns) (j : Int) = some (.int ns[j]) := by
  rw [atI_nat (by simpa using hj)]
  simp [hj]
theorem viewT_ns {h : AHeap} {x : AV} {xs : List AV} (hv : viewT h x = some xs) : ∀ z, x ≠ .str z := fun z e => by subst e; cases hv
theorem k_subI {h : AHeap} {x : AV} {ns : List Int} {j : Nat} {Q : KA} (hv : viewT h x = some (il ns)) (hj : j < ns.length) (q : Q (.int ns[j])) : subK h x (.int (j : Int)) Q := k_subL hv (viewT_ns hv) (il_get hj) q
theorem k_subIl {h : AHeap} {ns : List Int} {j : Nat} {Q : KA} (hj : j < ns.length) (q : Q (.int ns[j])) : subK h (.lst (il ns)) (.int (j : Int)) Q := k_subI viewT_lst hj q
theorem k_subV {h : AHeap} {x : AV} {xs : List AV} {d : AV} {j : Nat} {Q : KA} (hv : viewT h x = some xs) (e : xs[j]? = some d) (q : Q d) : subK h x (.int (j : Int)) Q := by
  have hj := (List.getElem?_eq_some_iff.mp e).1
  exact k_subL hv (viewT_ns hv) (by rw [atI_nat hj]; exact e) q
theorem k_tup {h : AHeap} {xs : List AV} {d : AV} {j : Nat} {Q : KA} (e : xs[j]? = some d) (q : Q d) : subK h (.tup xs) (.int (j : Int)) Q := k_subV viewT_tup e q
theorem comp_ints {B : AV → AHeap → (Option AV → AHeap → Prop) → Prop} {xs : List AV} {h : AHeap} {Q : List AV → AHeap → Prop} (f : Nat → Int) (hs : ∀ i x R, xs[i]? = some x → R (some (.int (f i))) h → B x h R) (hd : Q (il ((List.range xs.length).map f)) h) :
    compL B (fun _ => True) xs [] h Q := comp_map (fun i => .int (f i)) hs (by rw [il, List.map_map] at hd; exact hd)
theorem int_one (ds : List Int) (x : Int) : il ds ++ [.int x] = il (ds ++ [x]) := by rw [il, il, List.map_append]; rfl
theorem nat_of {i : Int} (h : 0 ≤ i) : ∃ j : Nat, i = j := Int.eq_ofNat_of_zero_le h
theorem modI {x : Int} {m : Nat} (h : 0 < m) : ∃ j : Nat, x % (m : Int) = j ∧ j < m := by
  have h1 := Int.emod_nonneg x (b := (m : Int)) (by omega)
  have h2 := Int.emod_lt_of_pos x (b := (m : Int)) (by omega)
  obtain ⟨j, hj⟩ := nat_of h1
  exact ⟨j, hj, by omega⟩
theorem k_lenV {h : AHeap} {x : AV} {xs : List AV} {Q : KA} (e : viewT h x = some xs) (q : Q (.int xs.length)) : bltK h .len [x] Q := by
  have hn := viewT_ns e
  unfold bltK
  split
  · rename_i b vs z heq
    cases heq
    exact absurd rfl (hn _)
  · rename_i heq
    cases heq
    rw [e]
    exact q
  all_goals (rename_i heq; first | (cases heq; done) | skip)
  all_goals simp_all
/-- sizes that are drawn below -/
def Sizes (ss : List Int) : Prop := ∀ s ∈ ss, 0 < s ∧ s.natAbs.log2 < 9000
theorem log_s {i : Int} (h : 0 < i) (h2 : i ≤ 10000000000) : i.natAbs.log2 < 9000 := by
  have : i.natAbs < 2 ^ 64 := by
    have e : (2 ^ 64 : Nat) = 18446744073709551616 := by decide
    omega
  have := PySem.Flt.log2_lt_of (by decide : 0 < 64) this
  omega
theorem sizes_of {ss : List Int} (h : ∀ s ∈ ss, 0 < s ∧ s ≤ 10000000000) : Sizes ss := fun s hs => ⟨(h s hs).1, log_s (h s hs).1 (h s hs).2⟩
/-- what was drawn -/
def Drn (ss ds : List Int) : Prop := ds.length = ss.length ∧ ∀ (i : Nat) (h1 : i < ds.length) (h2 : i < ss.length), 0 ≤ ds[i] ∧ ds[i] < ss[i]
theorem Drn.at {ss ds : List Int} (d : Drn ss ds) {i : Nat} {s : Int} (h : ss[i]? = some s) : ∃ h1 : i < ds.length, 0 ≤ ds[i] ∧ ds[i] < s := by
  obtain ⟨h2, e⟩ := List.getElem?_eq_some_iff.mp h
  have h1 : i < ds.length := by rw [d.1]; exact h2
  exact ⟨h1, by rw [← e]; exact d.2 i h1 h2⟩
theorem k_dr {h : AHeap} {ss ds : List Int} {j : Nat} {s : Int} {Q : KA} (d : Drn ss ds) (e : ss[j]? = some s) (q : ∀ v : Int, 0 ≤ v → v < s → Q (.int v)) : subK h (.lst (il ds)) (.int (j : Int)) Q := by
  obtain ⟨h1, h2, h3⟩ := d.at e
  exact k_subIl h1 (q _ h2 h3)
section
variable {P : Prg} [U P]
theorem law_cell_ok {n : Nat} {ns : List Int} {k : Int} {h Q} (q : ∀ c : Int, Q (.int c) h) : callN P (n+1) 167 [.ro (il ns), .int k] h Q := by
  refine call_of U.f__law_cell rfl ?_
  show WpSs (ctxOf P (callN P n)) b_law_cell _ [.val (.ro (il ns)), .val (.int k)] h
  push_cast [b_law_cell, List.length_map]
  refine ite_b (fun c => ?_) (fun c => by push_cast [b_law_cell_1]; exact q _)
  have h1 := Int.emod_nonneg k (b := (ns.length : Int)) (by omega)
  have h2 := Int.emod_lt_of_pos k (b := (ns.length : Int)) (by omega)
  refine ⟨by omega, ?_⟩
  obtain ⟨j, hj⟩ := nat_of h1
  rw [hj] at h2 ⊢
  exact k_subI viewT_ro (by omega) (q _)
def primes : List Int := [2147483647, 998244353, 1000000007, 1000000009, 4294967291, 1073741789, 536870909, 2305843009213693951]
theorem primes_ok (j : Nat) (hj : j < primes.length) : 0 < primes[j] ∧ primes[j] ≤ 2305843009213693951 := by
  have : ∀ p ∈ primes, 0 < p ∧ p ≤ 2305843009213693951 := by decide
  exact this _ (List.getElem_mem hj)
theorem k_prime {h : AHeap} {i : Int} {Q : KA} (h0 : 0 ≤ i) (q : ∀ p : Int, 0 < p → p ≤ 2305843009213693951 → Q (.int p)) : subK h (.lst [.int 2147483647, .int 998244353, .int 1000000007, .int 1000000009, .int 4294967291, .int 1073741789, .int 536870909, .int 2305843009213693951]) (.int (i % 8)) Q := by
  have h1 := Int.emod_nonneg i (b := 8) (by omega)
  have h2 := Int.emod_lt_of_pos i (b := 8) (by omega)
  obtain ⟨j, hj⟩ := nat_of h1
  rw [hj] at h2 ⊢
  have hj : j < primes.length := by show j < 8; omega
  exact k_subIl (ns := primes) hj (q _ (primes_ok j hj).1 (primes_ok j hj).2)
theorem draws_ok {n : Nat} {ns ss : List Int} {p : Int} {h Q} (hs : Sizes ss) (hl : ss.length ≤ 1000) (q : ∀ ds : List Int, Drn ss ds → Q (.lst (il ds)) h) : callN P (n+2) 168 [.ro (il ns), .int p, .lst (il ss)] h Q := by
  refine call_of U.f__law_draws rfl ?_
  show WpSs (ctxOf P (callN P (n+1))) b_law_draws _ [.val (.ro (il ns)), .val (.int p), .val (.lst (il ss)), .no, .no, .no, .no, .no, .no, .no] h
  have hz1 : sizeLine = 16777216 := rfl
  push_cast [b_law_draws]
  refine ⟨by decide, ?_⟩
  refine law_cell_ok fun c => ?_
  push_cast [WpSs]
  refine ⟨⟨by decide, by decide, by decide⟩, ?_⟩
  generalize (if c < 0 then -c else c) = c
  have main : ∀ r : Int, WpSs (ctxOf P (callN P (n+1))) b_law_draws_3 { nx := fun _ h => Q .non h, rt := Q } [.val (.ro (il ns)), .val (.int p), .val (.lst (il ss)), .val (.lst (il primes)), .val (.int c), .val (.int r), .no, .no, .no, .no] h := by
    intro r
    push_cast [b_law_draws_3, List.length_map]
    refine ⟨Nat.zero_le _, ⟨by omega, by omega⟩, ?_⟩
    rw [Int.toNat_natCast]
    refine for_inv (fun k ρ h' => h' = h ∧ ∃ (ds : List Int) (r : Int) (s7 s8 s9 : Slot), ds.length = k ∧ (∀ (i : Nat) (h1 : i < ds.length) (h2 : i < ss.length), 0 ≤ ds[i] ∧ ds[i] < ss[i]) ∧ ρ = [.val (.ro (il ns)), .val (.int p), .val (.lst (il ss)), .val (.lst (il primes)), .val (.int c), .val (.int r), .own (.lst (il ds)), s7, s8, s9]) ⟨rfl, [], r, .no, .no, .no, rfl, by simp, rfl⟩ (fun _ _ _ _ _ => by trivial) ?_ ?_
    · rintro k x _ h D' hx ⟨rfl, ds, r, s7, s8, s9, rfl, hd, rfl⟩ kn kc kr kb
      obtain ⟨hk, rfl⟩ := items_range hx
      have hk : ds.length < ss.length := hk
      have hsz := hs _ (List.getElem_mem hk)
      have app : ∀ v : Int, ∀ (i : Nat) (h1 : i < (ds ++ [v % ss[ds.length]]).length) (h2 : i < ss.length), 0 ≤ (ds ++ [v % ss[ds.length]])[i] ∧ (ds ++ [v % ss[ds.length]])[i] < ss[i] := by
        intro v i h1 h2
        rw [List.length_append] at h1
        have h1 : i < ds.length + 1 := h1
        by_cases e : i < ds.length
        · rw [List.getElem_append_left e]
          exact hd i e h2
        · have e : i = ds.length := by omega
          subst e
          rw [List.getElem_append_right (Nat.le_refl _)]
          simp only [Nat.sub_self, List.getElem_cons_zero]
          exact ⟨Int.emod_nonneg _ (by omega), Int.emod_lt_of_pos _ hsz.1⟩
      push_cast [b_law_draws_1]
      refine ite_b (fun c1 => ?_) (fun c1 => ?_)
      · refine k_subIl hk ?_
        push_cast [WpSs]
        refine ⟨hsz.1, by rw [List.length_map]; omega, ?_⟩
        refine k_subIl hk ?_
        push_cast [int_one]
        refine ⟨hsz, ?_⟩
        exact kn _ _ ⟨rfl, _, _, _, _, _, by simp, app _, rfl⟩
      · refine ⟨mulA_l (by decide) (by decide), mulA_r (by decide) (by decide), mulA_l (by decide) (by decide), by decide, ?_⟩
        refine k_prime (by omega) fun p1 h1 h2 => ?_
        push_cast [WpSs]
        generalize ((c + 1 + 31 * p + (ds.length : Int)) * 48271 + 69621 * (ds.length : Int)) = a1
        have h3 := Int.emod_nonneg a1 (b := p1) (by omega)
        have h4 := Int.emod_lt_of_pos a1 h1
        refine ⟨h1, ?_⟩
        generalize a1 % p1 = a2 at h3 h4
        refine ⟨mulA_l (by omega) (by omega), mulA_l (by decide) (by decide), by decide, ?_⟩
        refine k_prime (by omega) fun p2 h1 h2 => ?_
        push_cast [WpSs]
        refine ⟨h1, ?_⟩
        refine ⟨mulA_r (by decide) (by decide), mulA_r (by decide) (by decide), by decide, ?_⟩
        refine k_prime (by omega) fun p3 h1 h2 => ?_
        push_cast [WpSs]
        refine ⟨h1, divA (by decide) (by decide), ?_⟩
        refine k_subIl hk ?_
        push_cast [int_one]
        refine ⟨hsz.1, by rw [List.length_map]; omega, ?_⟩
        exact kn _ _ ⟨rfl, _, _, _, _, _, by simp, app _, rfl⟩
    · rintro _ h ⟨rfl, ds, r, s7, s8, s9, hd1, hd, rfl⟩
      push_cast [b_law_draws_2]
      refine q ds ⟨?_, hd⟩
      simpa using hd1
  refine ite_b (fun _ => main _) (fun _ => main _)
/-! ### forms -/
theorem k_fm0 {h : AHeap} {f : Fm} {Q : KA} (q : Q (.int (f.1 : Int))) : subK h (fmv f) (.int 0) Q := k_tup (j := 0) (xs := [.int (f.1 : Int), .int f.2]) rfl q
theorem k_fm1 {h : AHeap} {f : Fm} {Q : KA} (q : Q (.int f.2)) : subK h (fmv f) (.int 1) Q := k_tup (j := 1) (xs := [.int (f.1 : Int), .int f.2]) rfl q
theorem of_ok {n : Nat} {vs : List Int} {f : Fm} {h : AHeap} {Q} (hf : f.1 ≤ vs.length) (q : Q (.int (fv vs f)) h) : callN P (n+1) 170 [fmv f, .lst (il vs)] h Q := by
  refine call_of U.f__law_of rfl ?_
  show WpSs (ctxOf P (callN P n)) b_law_of _ [.val (fmv f), .val (.lst (il vs))] h
  push_cast [b_law_of]
  refine k_fm0 ?_
  push_cast [WpSs]
  refine ite_b (fun c => ?_) (fun c => ?_)
  · refine k_fm1 ?_
    have : fv vs f = f.2 := if_pos (by omega)
    rw [this] at q
    exact q
  · push_cast [b_law_of_1]
    refine k_fm0 ?_
    have e1 : (f.1 : Int) - 1 = ((f.1 - 1 : Nat) : Int) := by omega
    have hl : f.1 - 1 < vs.length := by omega
    push_cast [e1]
    refine k_subIl hl ?_
    refine k_fm1 ?_
    have : fv vs f = vs[f.1 - 1] + f.2 := by
      unfold fv
      rw [if_neg (by omega), List.getElem?_eq_getElem hl]; rfl
    rw [this] at q
    exact q
def VB (vs : List Int) : Prop := ∀ v ∈ vs, -2000000000 ≤ v ∧ v ≤ 2000000000
theorem form_for_ok {n : Nat} {vs : List Int} {d t : Int} {h : AHeap} {Q} (hv : VB vs) (t1 : -1000 ≤ t) (t2 : t ≤ 1000) (q : ∀ f : Fm, FOk vs f → fv vs f = t → Q (fmv f) h) : callN P (n+1) 173 [.int d, .lst (il vs), .int t] h Q := by
  refine call_of U.f__law_form_for rfl ?_
  have hz1 : sizeLine = 16777216 := rfl
  show WpSs (ctxOf P (callN P n)) b_law_form_for _ [.val (.int d), .val (.lst (il vs)), .val (.int t), .no] h
  push_cast [b_law_form_for, List.length_map]
  have h1 := Int.emod_nonneg d (b := (vs.length : Int) + 1) (by omega)
  have h2 := Int.emod_lt_of_pos d (b := (vs.length : Int) + 1) (by omega)
  obtain ⟨j, hj⟩ := nat_of h1
  rw [hj] at h2 ⊢
  refine ⟨by omega, ?_⟩
  refine ite_b (fun c => ?_) (fun c => ?_)
  · refine ⟨by show 2 ≤ _; omega, ?_⟩
    have e : fv vs (0, t) = t := rfl
    exact q (0, t) ⟨Nat.zero_le _, ⟨by show _ ≤ t; omega, by show t ≤ _; omega⟩, by rw [e]; exact ⟨t1, t2⟩⟩ e
  · push_cast [b_law_form_for_1]
    have e1 : (j : Int) - 1 = ((j - 1 : Nat) : Int) := by omega
    have hl : j - 1 < vs.length := by omega
    rw [e1]
    refine k_subIl hl ?_
    refine ⟨by show 2 ≤ _; omega, ?_⟩
    have b := hv _ (List.getElem_mem hl)
    have e : fv vs (j, t - vs[j - 1]) = t := by
      unfold fv
      rw [if_neg (show ¬ j = 0 by omega), List.getElem?_eq_getElem hl]
      show vs[j - 1] + (t - vs[j - 1]) = t
      omega
    exact q (j, t - vs[j - 1]) ⟨by show j ≤ _; omega, ⟨by show _ ≤ t - vs[j - 1]; omega, by show t - vs[j - 1] ≤ _; omega⟩, by rw [e]; exact ⟨t1, t2⟩⟩ e
theorem at_most_ok {n : Nat} {f g : Fm} {h : AHeap} {Q} (q : Q (td (f.1, g.1, g.2 - f.2)) h) : callN P (n+1) 169 [fmv f, fmv g] h Q := by
  refine call_of U.f__law_at_most rfl ?_
  show WpSs (ctxOf P (callN P n)) b_law_at_most _ [.val (fmv f), .val (fmv g)] h
  push_cast [b_law_at_most]
  refine k_fm0 ?_
  refine k_fm0 ?_
  refine k_fm1 ?_
  refine k_fm1 ?_
  push_cast [WpSs]
  exact ⟨by show 3 ≤ sizeLine; decide, q⟩
/-! ### lists -/
theorem ls_get {ls : List Ls} {j : Nat} (hj : j < ls.length) : (ls.map lsv)[j]? = some (lsv ls[j]) := by
  rw [List.getElem?_map, List.getElem?_eq_getElem hj]; rfl
theorem k_subLs {h : AHeap} {L : AV} {ls : List Ls} {j : Nat} {Q : KA} (hL : viewT h L = some (ls.map lsv)) (hj : j < ls.length) (q : Q (lsv ls[j])) : subK h L (.int (j : Int)) Q := k_subV hL (ls_get hj) q
theorem wn : decide (("written" : Str) = "written") = true ∧ decide (("new" : Str) = "written") = false ∧ decide (("written" : Str) = "new") = false ∧ decide (("new" : Str) = "new") = true := by decide +kernel
theorem length_ok {n m : Nat} {h : AHeap} {num : Nat} {L : AV} {ls : List Ls} {Q} (hL : viewT h L = some (ls.map lsv)) (ho : LIn m ls) (hl : ls.length ≤ 100) (hnum : num < ls.length) (q : Q (fmv (LF ls num)) h) : callN P (n+1) 171 [L, .int (num : Int)] h Q := by
  refine call_of U.f__law_length rfl ?_
  show WpSs (ctxOf P (callN P n)) b_law_length _ [.val L, .val (.int num), .no] h
  push_cast [b_law_length]
  refine k_lenV hL ?_
  rw [List.length_map]
  refine ⟨⟨by omega, by omega⟩, ?_⟩
  rw [Int.toNat_natCast]
  refine for_inv (fun i ρ h' => h' = h ∧ ∃ (cur : Nat) (s : Slot), cur + i ≤ num ∧ LF ls cur = LF ls num ∧ ρ = [.val L, .val (.int cur), s]) ⟨rfl, num, .no, by omega, rfl, rfl⟩ (fun _ _ _ _ _ => by trivial) ?_ ?_
  · rintro i x _ h D' hx ⟨rfl, cur, s, hci, hV, rfl⟩ kn kc kr kb
    have hcur : cur < ls.length := by omega
    have e := List.getElem?_eq_getElem hcur
    push_cast [b_law_length_2]
    refine k_subLs hL hcur ?_
    cases w : ls[cur] with
    | wr b i' v =>
      rw [w] at e
      have hb1 := (ho cur _ e).1
      refine k_tup (j := 0) (d := .str "written") (xs := [.str "written", .int (b : Int), fmv i', fmv v]) rfl ?_
      push_cast [wn.2.2.1, Bool.false_eq_true, if_false, b_law_length_1]
      refine k_subLs hL hcur ?_
      rw [w]
      refine k_tup (j := 1) (d := .int (b : Int)) (xs := [.str "written", .int (b : Int), fmv i', fmv v]) rfl ?_
      exact kn _ _ ⟨rfl, b, _, by omega, by rw [← hV, L_wr ho e], rfl⟩
    | nw f =>
      rw [w] at e
      refine k_tup (j := 0) (d := .str "new") (xs := [.str "new", fmv f]) rfl ?_
      push_cast [wn.2.2.2, decide_true, if_true]
      refine k_subLs hL hcur ?_
      rw [w]
      refine k_tup (j := 1) (d := fmv f) (xs := [.str "new", fmv f]) rfl ?_
      rw [← hV, L_nw e] at q
      exact kr _ _ q
  · rintro _ h ⟨rfl, cur, s, hci, hV, rfl⟩
    simp only [List.length_map, List.length_range] at hci
    omega
theorem base_ok {n : Nat} {r : Rl} {k : Int} {h Q} (hr : r.Ok) (q : Q (.int (base r k)) h) : callN P (n+1) 174 [rlv (some r), .int k] h Q := by
  refine call_of U.f__law_base rfl ?_
  show WpSs (ctxOf P (callN P n)) b_law_base _ [.val (.tup [.int r.kind, .lst [.int r.a, .int r.b, .int r.c], .int r.slope]), .val (.int k), .no, .no, .no] h
  obtain ⟨o1, o2, o3, o4, o5⟩ := hr
  push_cast [b_law_base]
  refine ite_b (fun c => ?_) (fun c => ?_)
  · refine ⟨by show (0 : Int) < 3; decide, ?_⟩
    have h1 := Int.emod_nonneg k (b := 3) (by omega)
    have h2 := Int.emod_lt_of_pos k (b := 3) (by omega)
    have e3 : (([AV.int r.a, .int r.b, .int r.c].length : Nat) : Int) = 3 := rfl
    rw [e3]
    unfold base at q
    rw [if_pos c] at q
    have : k % 3 = 0 ∨ k % 3 = 1 ∨ k % 3 = 2 := by omega
    rcases this with e | e | e <;> rw [e] at q ⊢
    · exact k_subV (j := 0) (xs := [.int r.a, .int r.b, .int r.c]) viewT_lst rfl q
    · exact k_subV (j := 1) (xs := [.int r.a, .int r.b, .int r.c]) viewT_lst rfl q
    · exact k_subV (j := 2) (xs := [.int r.a, .int r.b, .int r.c]) viewT_lst rfl q
  push_cast [b_law_base_2]
  refine ite_b (fun c2 => ?_) (fun c2 => ?_)
  · refine k_subV (j := 0) (xs := [.int r.a, .int r.b, .int r.c]) viewT_lst (d := .int r.a) rfl ?_
    refine ⟨mulA_l (by omega) (by omega), ?_⟩
    push_cast [WpSs]
    refine k_subV (j := 1) (xs := [.int r.a, .int r.b, .int r.c]) viewT_lst (d := .int r.b) rfl ?_
    push_cast [WpSs]
    refine ⟨mulA_l (by omega) (by omega), ?_⟩
    unfold base at q
    rw [if_neg c, if_pos c2] at q
    have e : (if decide (2 < k) = true then (1 : Int) else 0) = if k > 2 then 1 else 0 := by
      by_cases c : 2 < k
      · simp [c]
      · simp [c]
    rw [e]
    exact q
  · push_cast [b_law_base_1]
    unfold base at q
    rw [if_neg c, if_neg c2] at q
    exact k_subV (j := 0) (xs := [.int r.a, .int r.b, .int r.c]) viewT_lst rfl q
/-- the law's world as it stands -/
def WdS (h : AHeap) (K : Nat) (ls : List Ls) : Prop := ∃ m D L C T, cells h K = .lst [m, D, L, C, T] ∧ viewT h L = some (ls.map lsv)
def wdv (K : Nat) (w : Wd) : AV := .tup [.adr K, .lst (il w.vs), .lst (w.rs.map rlv)]
theorem view_adr {h : AHeap} {n : Nat} {xs : List AV} (e : cells h n = .lst xs) : viewT h (.adr n) = some xs := by
  show view h (.adr n) = _
  simp only [view, e]
theorem k_k2 {h : AHeap} {K : Nat} {ls : List Ls} {Q : KA} (s : WdS h K ls) (q : ∀ L, viewT h L = some (ls.map lsv) → Q L) : subK h (.adr K) (.int 2) Q := by
  obtain ⟨m, D, L, C, T, e, v⟩ := s
  exact k_subV (j := 2) (view_adr e) rfl (q L v)
theorem there_ok {n : Nat} {h : AHeap} {K num : Nat} {k : Int} {w : Wd} {Q} (s : WdS h K w.ls) (ok : w.Ok) (hnum : num < w.ls.length) (q : Q (.int (w.t num k)) h) : callN P (n+2) 175 [wdv K w, .int (num : Int), .int k] h Q := by
  refine call_of U.f__law_there rfl ?_
  show WpSs (ctxOf P (callN P (n+1))) b_law_there _ [.val (wdv K w), .val (.int num), .val (.int k), .no, .no, .no, .no, .no] h
  have hl := ok.k
  have wr2 : (w.rs.map rlv).length = w.ls.length := by rw [List.length_map]; exact ok.r.1
  push_cast [b_law_there, wdv]
  refine k_k2 s fun L hL => ?_
  refine k_lenV hL ?_
  rw [List.length_map]
  refine ⟨⟨by omega, by omega⟩, ?_⟩
  rw [Int.toNat_natCast]
  refine for_inv (fun i ρ h' => h' = h ∧ ∃ (cur : Nat) (s6 s7 : Slot), cur + i ≤ num ∧ w.t cur k = w.t num k ∧ ρ = [.val (wdv K w), .val (.int cur), .val (.int k), .val (.adr K), .val (.lst (il w.vs)), .val (.lst (w.rs.map rlv)), s6, s7]) ⟨rfl, num, .no, .no, by omega, rfl, rfl⟩ (fun _ _ _ _ _ => by trivial) ?_ ?_
  · rintro i x _ h D' hx ⟨rfl, cur, s6, s7, hci, hV, rfl⟩ kn kc kr kb
    have hcur : cur < w.ls.length := by omega
    have e := List.getElem?_eq_getElem hcur
    push_cast [b_law_there_3]
    refine k_k2 s fun L hL => ?_
    refine k_subLs hL hcur ?_
    cases w' : w.ls[cur] with
    | wr b i' v =>
      rw [w'] at e
      have hb1 := ok.l cur _ e
      refine k_tup (j := 0) (d := .str "written") (xs := [.str "written", .int (b : Int), fmv i', fmv v]) rfl ?_
      push_cast [wn.2.2.1, Bool.false_eq_true, if_false, b_law_there_2]
      refine k_tup (j := 2) (d := fmv i') (xs := [.str "written", .int (b : Int), fmv i', fmv v]) rfl ?_
      refine of_ok hb1.2.1.1 ?_
      push_cast [WpSs]
      refine ite_b (fun c => ?_) (fun c => ?_)
      · refine k_tup (j := 3) (d := fmv v) (xs := [.str "written", .int (b : Int), fmv i', fmv v]) rfl ?_
        refine of_ok hb1.2.2.1 ?_
        refine kr _ _ ?_
        rw [← hV, Wd.t, T_hit e c] at q
        exact q
      · push_cast [b_law_there_1]
        refine k_tup (j := 1) (d := .int (b : Int)) (xs := [.str "written", .int (b : Int), fmv i', fmv v]) rfl ?_
        refine kn _ _ ⟨rfl, b, _, _, by omega, ?_, rfl⟩
        rw [← hV, Wd.t, Wd.t, T_miss ok.l e c]
    | nw f =>
      rw [w'] at e
      obtain ⟨r, er, rok⟩ := ok.r.2 cur f e
      refine k_tup (j := 0) (d := .str "new") (xs := [.str "new", fmv f]) rfl ?_
      push_cast [wn.2.2.2, decide_true, if_true]
      refine k_subV (h := h) (d := rlv (some r)) viewT_lst (by rw [List.getElem?_map, er]; rfl) ?_
      refine base_ok rok ?_
      refine kr _ _ ?_
      rw [← hV, Wd.t, T_new e er] at q
      exact q
  · rintro _ h ⟨rfl, cur, s6, s7, hci, hV, rfl⟩
    simp only [List.length_map, List.length_range] at hci
    omega
end
end Kg

set_option maxRecDepth 100000
set_option maxHeartbeats 4000000
namespace Kg
open PySem L2 VL Kv
local macro_rules
  | `(tactic| push_cast [$xs,*]) => `(tactic| try simp only [$xs,*, WpSs, WpS, WpE, WpEs, WpBs, WpO, WpN, WpI, WpC, WpT, getS, setS, tgK, setsS, wipeS, k_add, k_addT, k_sub, k_mul, k_fdiv, k_mod, k_neg, k_lt, k_le, k_gt, k_ge, k_eqI, k_neI, k_eqS, k_neS, k_eqB, k_neB, k_is, k_isn, k_isB, k_isnB, k_gIn, ctx_gdct, isNon_non, isNon_int, isNon_str, isNon_lst, isNon_tup, isNon_adr, k_lenS, k_lenL, k_lenR, k_lenT, k_int, k_str, k_abs, tru_bl, augK, ctx_call, ctx_glob, k_in, k_nin, k_inS, k_addS, k_intB, isi_non_int, isi_non_bool, isi_non_str, isi_non_list, isi_non_tuple, isi_bl_int, isi_bl_bool, isi_bl_str, isi_bl_list, isi_bl_tuple, isi_int_int, isi_int_bool, isi_int_str, isi_int_list, isi_int_tuple, isi_str_int, isi_str_bool, isi_str_str, isi_str_list, isi_str_tuple, isi_tup_int, isi_tup_bool, isi_tup_str, isi_tup_list, isi_tup_tuple, isi_lst_int, isi_lst_bool, isi_lst_str, isi_lst_list, isi_lst_tuple, isi_ro_int, isi_ro_bool, isi_ro_str, isi_ro_list, isi_ro_tuple, zs_lst, zs_tup])
theorem comp_list {α : Type} {l : List α} {g f : α → AV} {B : AV → AHeap → (Option AV → AHeap → Prop) → Prop} {chk : AHeap → Prop} {h : AHeap} {Q : List AV → AHeap → Prop} (hc : chk h) (hs : ∀ a ∈ l, ∀ R : Option AV → AHeap → Prop, R (some (f a)) h → B (g a) h R) (hd : Q (l.map f) h) : compL B chk (l.map g) [] h Q := by
  refine comp_inv (fun i a h' => a = (l.take i).map f ∧ h' = h) ⟨rfl, rfl⟩ (fun _ _ _ _ z => by rw [z.2]; exact hc) ?_ ?_
  · rintro i x a h' R hx ⟨rfl, rfl⟩ k1 k2
    obtain ⟨b, hb, rfl⟩ := items_map hx
    refine hs b (List.mem_of_getElem? hb) R (k1 _ _ ⟨?_, rfl⟩)
    rw [List.take_succ, hb, List.map_append]; rfl
  · rintro a h' ⟨rfl, rfl⟩
    rw [List.length_map, List.take_length]
    exact hd
theorem k_all {h : AHeap} {bs : List Bool} {Q : KA} (q : Q (.bl (bs.all id))) : bltK h .all [.lst (bs.map AV.bl)] Q := by
  unfold bltK
  simp only [view_lst, Option.bind_some, asBools_map]
  exact q
theorem asInts_il (ns : List Int) : asInts (il ns) = some ns := by
  induction ns with
  | nil => rfl
  | cons n ns ih => show (asInts (il ns)).map (n :: ·) = _; rw [ih]; rfl
theorem k_maxL {h : AHeap} {ns : List Int} {Q : KA} (h0 : ns ≠ []) (q : ∀ m, m ∈ ns → (∀ y, y ∈ ns → y ≤ m) → Q (.int m)) : bltK h .maxL [.lst (il ns)] Q := by
  unfold bltK
  simp only [view_lst, Option.bind_some, asInts_il]
  exact ⟨List.length_pos_iff.mpr h0, q⟩
theorem k_minL {h : AHeap} {ns : List Int} {Q : KA} (h0 : ns ≠ []) (q : ∀ m, m ∈ ns → (∀ y, y ∈ ns → m ≤ y) → Q (.int m)) : bltK h .minL [.lst (il ns)] Q := by
  unfold bltK
  simp only [view_lst, Option.bind_some, asInts_il]
  exact ⟨List.length_pos_iff.mpr h0, q⟩
theorem sg_ne {a b : Sg} (h : a ≠ b) : sgS a ≠ sgS b := by
  revert h
  cases a <;> cases b <;> decide +kernel
def sgs : List Str := ["<", "<=", ">", ">=", "==", "!="]
def sgI : Sg → Nat
  | .lt => 0 | .le => 1 | .gt => 2 | .ge => 3 | .eq => 4 | .ne => 5
theorem sg_find (s : Sg) : (sgs.map AV.str).findIdx? (fun z => eqF z (.str (sgS s))) = some (sgI s) := by
  cases s <;> decide +kernel
theorem sg_flat : (sgs.map AV.str).all flatA = true := by decide +kernel
theorem k_sg {h : AHeap} {s : Sg} {Q : KA} (q : Q (.int (sgI s : Int))) : idxK h (.lst [.str "<", .str "<=", .str ">", .str ">=", .str "==", .str "!="]) (.str (sgS s)) Q := by
  show idxK h (.lst (sgs.map AV.str)) (.str (sgS s)) Q
  unfold idxK
  simp only [view_lst, sg_find]
  exact ⟨rfl, sg_flat, q⟩
section
variable {P : Prg} [U P]
theorem compared_ok {n : Nat} {h : AHeap} {s : Sg} {x y : Int} {Q} (q : Q (.bl (cmpB s x y)) h) : callN P (n+1) 149 [.str (sgS s), .int x, .int y] h Q := by
  refine call_of U.f__law_compared rfl ?_
  show WpSs (ctxOf P (callN P n)) b_law_compared _ [.val (.str (sgS s)), .val (.int x), .val (.int y), .no] h
  have hz : (6 : Nat) ≤ sizeLine := by decide
  push_cast [b_law_compared]
  refine ⟨hz, hz, rfl, k_sg ?_⟩
  refine k_subV (h := h) (xs := [.bl (decide (x < y)), .bl (decide (x ≤ y)), .bl (decide (y < x)), .bl (decide (y ≤ x)), .bl (decide (x = y)), .bl (!decide (x = y))]) (d := .bl (cmpB s x y)) viewT_lst ?_ q
  cases s <;> rfl
theorem range_ok {n : Nat} {h : AHeap} {K num : Nat} {lo hi : Fm} {w : Wd} {Q} (s : WdS h K w.ls) (ok : w.Ok) (hnum : num < w.ls.length) (h1 : FOk w.vs lo) (h2 : FOk w.vs hi) (q : Q (.lst (il (rgP w.vs w.ls num lo hi))) h) : callN P (n+2) 177 [wdv K w, .int (num : Int), fmv lo, fmv hi] h Q := by
  refine call_of U.f__law_range rfl ?_
  show WpSs (ctxOf P (callN P (n+1))) b_law_range _ [.val (wdv K w), .val (.int num), .val (fmv lo), .val (fmv hi), .no, .no, .no, .no] h
  have L := L_ok ok.l (num + 1) num (by omega) hnum
  have hk := ok.k
  push_cast [b_law_range, wdv]
  refine of_ok h2.1 ?_
  refine k_k2 s fun L' hL => ?_
  refine length_ok hL ok.l.lin (by omega) hnum ?_
  refine of_ok L.1.1 ?_
  push_cast [k_min2]
  refine of_ok h1.1 ?_
  push_cast [k_max2]
  have e1 : (if fv w.vs lo > 0 then fv w.vs lo else 0) = max 0 (fv w.vs lo) := by split <;> omega
  have e2 : (if fv w.vs (LF w.ls num) < fv w.vs hi then fv w.vs (LF w.ls num) else fv w.vs hi) = min (fv w.vs hi) (fv w.vs (LF w.ls num)) := by split <;> omega
  rw [e1, e2]
  refine ⟨by omega, ?_⟩
  have e3 : il (rgP w.vs w.ls num lo hi) = (List.range (min (fv w.vs hi) (fv w.vs (LF w.ls num)) - max 0 (fv w.vs lo)).toNat).map fun (k : Nat) => .int (max 0 (fv w.vs lo) + (k : Int)) := by
    unfold rgP il
    rw [List.map_map]; rfl
  rw [e3] at q
  exact q
theorem rg_mem {w : Wd} (ok : w.Ok) {num : Nat} (hnum : num < w.ls.length) {lo hi : Fm} {k : Int} (h : k ∈ rgP w.vs w.ls num lo hi) : 0 ≤ k ∧ k < 10 := by
  have L := L_ok ok.l (num + 1) num (by omega) hnum
  unfold rgP at h
  obtain ⟨j, hj, rfl⟩ := List.mem_map.mp h
  have := List.mem_range.mp hj
  omega
theorem rg_len {w : Wd} (ok : w.Ok) {num : Nat} (hnum : num < w.ls.length) {lo hi : Fm} : (rgP w.vs w.ls num lo hi).length ≤ 10 := by
  have L := L_ok ok.l (num + 1) num (by omega) hnum
  unfold rgP
  rw [List.length_map, List.length_range]
  omega
/-- the cells in a range, walked -/
theorem cells_ok {n : Nat} {h : AHeap} {K num : Nat} {lo hi : Fm} {w : Wd} {Q : List AV → AHeap → Prop} (s : WdS h K w.ls) (ok : w.Ok) (hnum : num < w.ls.length) (q : Q (il (w.cells num lo hi)) h) {B : AV → AHeap → (Option AV → AHeap → Prop) → Prop} {chk : AHeap → Prop} (hc : chk h)
    (hB : ∀ (k : Int) R, callN P (n+2) 175 [wdv K w, .int (num : Int), .int k] h (fun d h1 => R (some d) h1) → B (.int k) h R) : compL B chk (il (rgP w.vs w.ls num lo hi)) [] h Q := by
  refine comp_list (g := AV.int) (f := fun k => .int (w.t num k)) hc (fun k hk R r => hB k R (there_ok s ok hnum r)) ?_
  unfold Wd.cells il at q
  rw [List.map_map] at q
  exact q
/-- the forms of a promise fit -/
def POk (vs : List Int) (nl : Nat) : Pr → Prop
  | .eit ws => ws ≠ [] ∧ ws.length ≤ 4 ∧ ∀ wy ∈ ws, wy.length ≤ 4 ∧ ∀ t ∈ wy, TIn vs.length t
  | .all n lo hi _ f => n < nl ∧ FOk vs lo ∧ FOk vs hi ∧ FOk vs f
  | .mat n lo hi _ o p => n < nl ∧ FOk vs lo ∧ FOk vs hi ∧ o < nl ∧ (-1000 ≤ p ∧ p ≤ 1000)
  | .srt n lo hi => n < nl ∧ FOk vs lo ∧ FOk vs hi
  | .blw n lo hi o low high => n < nl ∧ FOk vs lo ∧ FOk vs hi ∧ o < nl ∧ FOk vs low ∧ FOk vs high
theorem ps : decide (("all" : Str) = "either") = false ∧ decide (("match" : Str) = "either") = false ∧ decide (("sorted" : Str) = "either") = false ∧ decide (("below" : Str) = "either") = false ∧ decide (("match" : Str) = "all") = false ∧ decide (("sorted" : Str) = "all") = false ∧ decide (("below" : Str) = "all") = false ∧ decide (("sorted" : Str) = "match") = false ∧ decide (("below" : Str) = "match") = false ∧ decide (("below" : Str) = "sorted") = false := by decide +kernel
theorem all_map {α : Type} (l : List α) (f : α → Bool) : (l.map f).all id = l.all f := by
  rw [List.all_map]; rfl
theorem pairs_eq : ∀ l : List Int, ((List.range (l.length - 1)).map fun k => decide ((l[k]?).getD 0 ≤ (l[k+1]?).getD 0)).all id = pairsLe l
  | [] => rfl
  | [a] => rfl
  | a :: b :: r => by
    have ih := pairs_eq (b :: r)
    show ((List.range ((b :: r).length - 1 + 1)).map _).all id = (decide (a ≤ b) && pairsLe (b :: r))
    rw [List.range_succ_eq_map, List.map_cons, List.all_cons, List.map_map]
    rw [← ih]
    rfl
theorem true_ok {n : Nat} {h : AHeap} {K : Nat} {w : Wd} {p : Pr} {Q} (s : WdS h K w.ls) (ok : w.Ok) (hp : POk w.vs w.ls.length p) (q : Q (.bl (w.holds p)) h) : callN P (n+3) 178 [wdv K w, prv p] h Q := by
  refine call_of U.f__law_true rfl ?_
  show WpSs (ctxOf P (callN P (n+2))) b_law_true _ [.val (wdv K w), .val (prv p), .no, .no, .no, .no, .no, .no, .no, .no, .no, .no, .no, .no, .no, .no, .no] h
  have hz1 : sizeLine = 16777216 := rfl
  cases p with
  | eit ws =>
    obtain ⟨_, hl, hw⟩ := hp
    push_cast [b_law_true, wdv, prv]
    refine k_tup (j := 0) (d := .str "either") (xs := [.str "either", .tup (ws.map fun wy => .tup (wy.map td))]) rfl ?_
    push_cast [decide_true, if_true]
    refine k_tup (j := 1) (d := .tup (ws.map fun wy => .tup (wy.map td))) (xs := [.str "either", .tup (ws.map fun wy => .tup (wy.map td))]) rfl ?_
    push_cast [viewT_tup]
    refine for_inv (fun i ρ h' => h' = h ∧ (∀ j, j < i → ∀ wy, ws[j]? = some wy → wy.all (keepB w.vs) = false) ∧ ∃ s5, ρ = [.val (wdv K w), .val (prv (.eit ws)), .val (.adr K), .val (.lst (il w.vs)), .val (.lst (w.rs.map rlv)), s5, .no, .no, .no, .no, .no, .no, .no, .no, .no, .no, .no]) ⟨rfl, (fun j hj => by omega), .no, rfl⟩ (fun _ _ _ _ _ => by trivial) ?_ ?_
    · rintro i x _ h D' hx ⟨rfl, hno, s5, rfl⟩ kn kc kr kb
      obtain ⟨wy, hwy, rfl⟩ := items_map hx
      obtain ⟨wl, wt⟩ := hw wy (List.mem_of_getElem? hwy)
      push_cast [b_law_true_1, viewT_tup]
      refine ⟨by rw [List.length_map]; omega, ?_⟩
      refine comp_list (g := td) (f := fun t => .bl (keepB w.vs t)) trivial (fun t ht R r => ?_) ?_
      · obtain ⟨t1, t2, _⟩ := wt t ht
        push_cast [td, if_true]
        refine ⟨by show 2 ≤ sizeLine; decide, ?_⟩
        refine of_ok (f := (t.1, 0)) t1 ?_
        refine ⟨by show 2 ≤ sizeLine; decide, ?_⟩
        refine of_ok (f := (t.2.1, 0)) t2 ?_
        push_cast [WpSs]
        exact r
      · have e : wy.map (fun t => AV.bl (keepB w.vs t)) = (wy.map (keepB w.vs)).map AV.bl := by rw [List.map_map]; rfl
        rw [e]
        refine k_all ?_
        rw [all_map, tru_bl]
        cases c : wy.all (keepB w.vs) with
        | true =>
          push_cast [if_true]
          refine kr _ _ ?_
          have : w.holds (.eit ws) = true := List.any_eq_true.mpr ⟨wy, List.mem_of_getElem? hwy, c⟩
          rw [this] at q
          exact q
        | false =>
          push_cast [Bool.false_eq_true, if_false]
          refine kn _ _ ⟨rfl, fun j hj wz hz => ?_, _, rfl⟩
          by_cases cj : j < i
          · exact hno j cj wz hz
          · have : j = i := by omega
            subst this
            rw [hwy] at hz; cases hz
            exact c
    · rintro _ h ⟨rfl, hno, s5, rfl⟩
      push_cast [b_law_true_2]
      have : w.holds (.eit ws) = false := by
        show ws.any _ = false
        rw [List.any_eq_false]
        intro wy hm
        obtain ⟨j, hj⟩ := List.mem_iff_getElem?.mp hm
        have hlt := (List.getElem?_eq_some_iff.mp hj).1
        have := hno j (by rw [List.length_map]; exact hlt) wy hj
        rw [this]; decide
      rw [this] at q
      exact q
  | all num lo hi sg f =>
    obtain ⟨hn, h1, h2, h3⟩ := hp
    have cl := rg_len ok hn (lo := lo) (hi := hi)
    push_cast [b_law_true, wdv, prv]
    refine k_tup (j := 0) (d := .str "all") (xs := [.str "all", .int (num : Int), fmv lo, fmv hi, .str (sgS sg), fmv f]) rfl ?_
    push_cast [ps, Bool.false_eq_true, if_false, b_law_true_6, k_sliceT]
    have ec : cut [AV.str "all", .int (num : Int), fmv lo, fmv hi, .str (sgS sg), fmv f] (some 1) (some 4) = [.int (num : Int), fmv lo, fmv hi] := cut_ss _ 1 4
    push_cast [ec]
    refine range_ok s ok hn h1 h2 ?_
    push_cast [viewT_lst]
    refine ⟨by simp; omega, ?_⟩
    refine cells_ok (P := P) (n := n) s ok hn ?_ trivial fun k R r => ?_
    · have c2 : (w.cells num lo hi).length ≤ 10 := by unfold Wd.cells; rw [List.length_map]; exact cl
      refine k_tup (j := 0) (d := .str "all") (xs := [.str "all", .int (num : Int), fmv lo, fmv hi, .str (sgS sg), fmv f]) rfl ?_
      push_cast [decide_true, if_true, viewT_lst]
      refine ⟨by simp; omega, ?_⟩
      refine comp_list (g := AV.int) (f := fun c => .bl (cmpB sg c (fv w.vs f))) trivial (fun c hc R r => ?_) ?_
      · push_cast [if_true]
        refine k_tup (j := 4) (d := .str (sgS sg)) (xs := [.str "all", .int (num : Int), fmv lo, fmv hi, .str (sgS sg), fmv f]) rfl ?_
        refine k_tup (j := 5) (d := fmv f) (xs := [.str "all", .int (num : Int), fmv lo, fmv hi, .str (sgS sg), fmv f]) rfl ?_
        refine of_ok h3.1 ?_
        exact compared_ok r
      · have e : (w.cells num lo hi).map (fun c => AV.bl (cmpB sg c (fv w.vs f))) = ((w.cells num lo hi).map fun c => cmpB sg c (fv w.vs f)).map AV.bl := by rw [List.map_map]; rfl
        rw [e]
        refine k_all ?_
        rw [all_map]
        exact q
    · push_cast [if_true]
      exact r
  | mat num lo hi sg o pl =>
    obtain ⟨hn, h1, h2, h3, h4⟩ := hp
    have cl := rg_len ok hn (lo := lo) (hi := hi)
    have cl2 := rg_len ok h3 (lo := lo) (hi := hi)
    push_cast [b_law_true, wdv, prv]
    refine k_tup (j := 0) (d := .str "match") (xs := [.str "match", .int (num : Int), fmv lo, fmv hi, .str (sgS sg), .int (o : Int), .int pl]) rfl ?_
    push_cast [ps, Bool.false_eq_true, if_false, b_law_true_6, k_sliceT]
    have ec : cut [AV.str "match", .int (num : Int), fmv lo, fmv hi, .str (sgS sg), .int (o : Int), .int pl] (some 1) (some 4) = [.int (num : Int), fmv lo, fmv hi] := cut_ss _ 1 4
    push_cast [ec]
    refine range_ok s ok hn h1 h2 ?_
    push_cast [viewT_lst]
    refine ⟨by simp; omega, ?_⟩
    refine cells_ok (P := P) (n := n) s ok hn ?_ trivial fun k R r => ?_
    · have c2 : (w.cells num lo hi).length ≤ 10 := by unfold Wd.cells; rw [List.length_map]; exact cl
      have c3 : (w.cells o lo hi).length ≤ 10 := by unfold Wd.cells; rw [List.length_map]; exact cl2
      refine k_tup (j := 0) (d := .str "match") (xs := [.str "match", .int (num : Int), fmv lo, fmv hi, .str (sgS sg), .int (o : Int), .int pl]) rfl ?_
      push_cast [ps, Bool.false_eq_true, if_false, b_law_true_5]
      refine k_tup (j := 0) (d := .str "match") (xs := [.str "match", .int (num : Int), fmv lo, fmv hi, .str (sgS sg), .int (o : Int), .int pl]) rfl ?_
      push_cast [decide_true, if_true]
      refine k_tup (j := 5) (d := .int (o : Int)) (xs := [.str "match", .int (num : Int), fmv lo, fmv hi, .str (sgS sg), .int (o : Int), .int pl]) rfl ?_
      refine range_ok s ok h3 h1 h2 ?_
      push_cast [viewT_lst]
      refine ⟨by simp; omega, ?_⟩
      refine cells_ok (P := P) (n := n) s ok h3 ?_ trivial fun k R r => ?_
      · push_cast [k_lenL, k_min2, List.length_map]
        have em : (if (((w.cells o lo hi).length : Nat) : Int) < (((w.cells num lo hi).length : Nat) : Int) then (((w.cells o lo hi).length : Nat) : Int) else (((w.cells num lo hi).length : Nat) : Int)) = ((min (w.cells num lo hi).length (w.cells o lo hi).length : Nat) : Int) := by split <;> omega
        rw [em, Int.toNat_natCast]
        refine ⟨⟨by omega, by omega⟩, by simp; omega, ?_⟩
        refine comp_map (fun i => .bl (cmpB sg (((w.cells num lo hi)[i]?).getD 0) (((w.cells o lo hi)[i]?).getD 0 + pl))) (fun i x R hx r => ?_) ?_
        · obtain ⟨hi', rfl⟩ := items_range hx
          have i1 : i < (w.cells num lo hi).length := by omega
          have i2 : i < (w.cells o lo hi).length := by omega
          rw [List.getElem?_eq_getElem i1, List.getElem?_eq_getElem i2] at r
          push_cast [if_true]
          refine k_tup (j := 4) (d := .str (sgS sg)) (xs := [.str "match", .int (num : Int), fmv lo, fmv hi, .str (sgS sg), .int (o : Int), .int pl]) rfl ?_
          refine k_subIl i1 ?_
          refine k_subIl i2 ?_
          refine k_tup (j := 6) (d := .int pl) (xs := [.str "match", .int (num : Int), fmv lo, fmv hi, .str (sgS sg), .int (o : Int), .int pl]) rfl ?_
          push_cast [WpSs]
          exact compared_ok r
        · rw [List.length_map, List.length_range]
          have e : (List.range (min (w.cells num lo hi).length (w.cells o lo hi).length)).map (fun i => AV.bl (cmpB sg (((w.cells num lo hi)[i]?).getD 0) (((w.cells o lo hi)[i]?).getD 0 + pl))) = ((((w.cells num lo hi).zip (w.cells o lo hi)).map fun c => cmpB sg c.1 (c.2 + pl))).map AV.bl := by
            apply List.ext_getElem
            · simp
            · intro j j1 j2
              have j3 : j < min (w.cells num lo hi).length (w.cells o lo hi).length := by simpa using j1
              simp only [List.getElem_map, List.getElem_range, List.getElem_zip]
              rw [List.getElem?_eq_getElem (by omega), List.getElem?_eq_getElem (by omega)]
              rfl
          rw [e]
          refine k_all ?_
          rw [all_map]
          exact q
      · push_cast [if_true]
        refine k_tup (j := 5) (d := .int (o : Int)) (xs := [.str "match", .int (num : Int), fmv lo, fmv hi, .str (sgS sg), .int (o : Int), .int pl]) rfl ?_
        exact r
    · push_cast [if_true]
      exact r
  | srt num lo hi =>
    obtain ⟨hn, h1, h2⟩ := hp
    have cl := rg_len ok hn (lo := lo) (hi := hi)
    push_cast [b_law_true, wdv, prv]
    refine k_tup (j := 0) (d := .str "sorted") (xs := [.str "sorted", .int (num : Int), fmv lo, fmv hi]) rfl ?_
    push_cast [ps, Bool.false_eq_true, if_false, b_law_true_6, k_sliceT]
    have ec : cut [AV.str "sorted", .int (num : Int), fmv lo, fmv hi] (some 1) (some 4) = [.int (num : Int), fmv lo, fmv hi] := cut_ss _ 1 4
    push_cast [ec]
    refine range_ok s ok hn h1 h2 ?_
    push_cast [viewT_lst]
    refine ⟨by simp; omega, ?_⟩
    refine cells_ok (P := P) (n := n) s ok hn ?_ trivial fun k R r => ?_
    · have c2 : (w.cells num lo hi).length ≤ 10 := by unfold Wd.cells; rw [List.length_map]; exact cl
      refine k_tup (j := 0) (d := .str "sorted") (xs := [.str "sorted", .int (num : Int), fmv lo, fmv hi]) rfl ?_
      push_cast [ps, Bool.false_eq_true, if_false, b_law_true_5]
      refine k_tup (j := 0) (d := .str "sorted") (xs := [.str "sorted", .int (num : Int), fmv lo, fmv hi]) rfl ?_
      push_cast [ps, Bool.false_eq_true, if_false, b_law_true_4]
      refine k_tup (j := 0) (d := .str "sorted") (xs := [.str "sorted", .int (num : Int), fmv lo, fmv hi]) rfl ?_
      push_cast [decide_true, if_true, k_lenL, List.length_map]
      refine ⟨⟨by omega, by omega⟩, by simp; omega, ?_⟩
      have et : ((((w.cells num lo hi).length : Nat) : Int) - 1).toNat = (w.cells num lo hi).length - 1 := by omega
      rw [et]
      refine comp_map (fun i => .bl (decide (((w.cells num lo hi)[i]?).getD 0 ≤ ((w.cells num lo hi)[i+1]?).getD 0))) (fun i x R hx r => ?_) ?_
      · obtain ⟨hi', rfl⟩ := items_range hx
        have i1 : i < (w.cells num lo hi).length := by omega
        have i2 : i + 1 < (w.cells num lo hi).length := by omega
        rw [List.getElem?_eq_getElem i1, List.getElem?_eq_getElem i2] at r
        have e1 : (i : Int) + 1 = ((i + 1 : Nat) : Int) := by omega
        push_cast [if_true, e1]
        refine k_subIl i1 ?_
        refine k_subIl i2 ?_
        exact r
      · rw [List.length_map, List.length_range]
        have e : (List.range ((w.cells num lo hi).length - 1)).map (fun i => AV.bl (decide (((w.cells num lo hi)[i]?).getD 0 ≤ ((w.cells num lo hi)[i+1]?).getD 0))) = ((List.range ((w.cells num lo hi).length - 1)).map fun k => decide (((w.cells num lo hi)[k]?).getD 0 ≤ ((w.cells num lo hi)[k+1]?).getD 0)).map AV.bl := by rw [List.map_map]; rfl
        rw [e]
        refine k_all ?_
        rw [pairs_eq]
        exact q
    · push_cast [if_true]
      exact r
  | blw num lo hi o low high =>
    obtain ⟨hn, h1, h2, h3, h4, h5⟩ := hp
    have cl := rg_len ok hn (lo := lo) (hi := hi)
    have cl2 := rg_len ok h3 (lo := low) (hi := high)
    push_cast [b_law_true, wdv, prv]
    refine k_tup (j := 0) (d := .str "below") (xs := [.str "below", .int (num : Int), fmv lo, fmv hi, .int (o : Int), fmv low, fmv high]) rfl ?_
    push_cast [ps, Bool.false_eq_true, if_false, b_law_true_6, k_sliceT]
    have ec : cut [AV.str "below", .int (num : Int), fmv lo, fmv hi, .int (o : Int), fmv low, fmv high] (some 1) (some 4) = [.int (num : Int), fmv lo, fmv hi] := cut_ss _ 1 4
    push_cast [ec]
    refine range_ok s ok hn h1 h2 ?_
    push_cast [viewT_lst]
    refine ⟨by simp; omega, ?_⟩
    refine cells_ok (P := P) (n := n) s ok hn ?_ trivial fun k R r => ?_
    · have c2 : (w.cells num lo hi).length ≤ 10 := by unfold Wd.cells; rw [List.length_map]; exact cl
      refine k_tup (j := 0) (d := .str "below") (xs := [.str "below", .int (num : Int), fmv lo, fmv hi, .int (o : Int), fmv low, fmv high]) rfl ?_
      push_cast [ps, Bool.false_eq_true, if_false, b_law_true_5]
      refine k_tup (j := 0) (d := .str "below") (xs := [.str "below", .int (num : Int), fmv lo, fmv hi, .int (o : Int), fmv low, fmv high]) rfl ?_
      push_cast [ps, Bool.false_eq_true, if_false, b_law_true_4]
      refine k_tup (j := 0) (d := .str "below") (xs := [.str "below", .int (num : Int), fmv lo, fmv hi, .int (o : Int), fmv low, fmv high]) rfl ?_
      push_cast [ps, Bool.false_eq_true, if_false, b_law_true_3]
      refine k_tup (j := 4) (d := .int (o : Int)) (xs := [.str "below", .int (num : Int), fmv lo, fmv hi, .int (o : Int), fmv low, fmv high]) rfl ?_
      refine k_tup (j := 5) (d := fmv low) (xs := [.str "below", .int (num : Int), fmv lo, fmv hi, .int (o : Int), fmv low, fmv high]) rfl ?_
      refine k_tup (j := 6) (d := fmv high) (xs := [.str "below", .int (num : Int), fmv lo, fmv hi, .int (o : Int), fmv low, fmv high]) rfl ?_
      refine range_ok s ok h3 h4 h5 ?_
      push_cast [viewT_lst]
      refine ⟨by simp; omega, ?_⟩
      refine cells_ok (P := P) (n := n) s ok h3 ?_ trivial fun k R r => ?_
      · push_cast [k_lenL, List.length_map]
        have done : ∀ b : Bool, b = w.holds (.blw num lo hi o low high) → Q (.bl b) h := fun b e => by rw [e]; exact q
        by_cases z1 : w.cells num lo hi = []
        · have e : decide ((((w.cells num lo hi).length : Nat) : Int) = 0) = true := by rw [z1]; rfl
          rw [e]
          exact done _ (by show true = (w.cells num lo hi).all _; rw [z1]; rfl)
        · have e : decide ((((w.cells num lo hi).length : Nat) : Int) = 0) = false := decide_eq_false (by have := List.length_pos_iff.mpr z1; omega)
          rw [e]
          by_cases z2 : w.cells o low high = []
          · have e : decide ((((w.cells o low high).length : Nat) : Int) = 0) = true := by rw [z2]; rfl
            rw [e]
            exact done _ (by show true = (w.cells num lo hi).all fun a => (w.cells o low high).all _; rw [z2]; simp)
          · have e : decide ((((w.cells o low high).length : Nat) : Int) = 0) = false := decide_eq_false (by have := List.length_pos_iff.mpr z2; omega)
            rw [e]
            refine k_maxL z1 fun m m1 m2 => ?_
            refine k_minL z2 fun m' m3 m4 => ?_
            push_cast [WpSs]
            refine done _ ?_
            show decide (m ≤ m') = (w.cells num lo hi).all fun a => (w.cells o low high).all fun b => decide (a ≤ b)
            rw [Bool.eq_iff_iff, decide_eq_true_iff, List.all_eq_true]
            constructor
            · intro hm a ha
              rw [List.all_eq_true]
              intro b hb
              have := m2 a ha
              have := m4 b hb
              exact decide_eq_true (by omega)
            · intro hall
              have := List.all_eq_true.mp (hall m m1) m' m3
              exact of_decide_eq_true this
      · push_cast [if_true]
        refine k_tup (j := 4) (d := .int (o : Int)) (xs := [.str "below", .int (num : Int), fmv lo, fmv hi, .int (o : Int), fmv low, fmv high]) rfl ?_
        exact r
    · push_cast [if_true]
      exact r
end
end Kg

set_option maxRecDepth 100000
set_option maxHeartbeats 4000000
namespace Kg
open PySem L2 VL Kv
local macro_rules
  | `(tactic| push_cast [$xs,*]) => `(tactic| try simp only [$xs,*, WpSs, WpS, WpE, WpEs, WpBs, WpO, WpN, WpI, WpC, WpT, getS, setS, tgK, setsS, wipeS, k_add, k_addT, k_sub, k_mul, k_fdiv, k_mod, k_neg, k_lt, k_le, k_gt, k_ge, k_eqI, k_neI, k_eqS, k_neS, k_eqB, k_neB, k_is, k_isn, k_isB, k_isnB, k_gIn, ctx_gdct, isNon_non, isNon_int, isNon_str, isNon_lst, isNon_tup, isNon_adr, k_lenS, k_lenL, k_lenR, k_lenT, k_int, k_str, k_abs, tru_bl, augK, ctx_call, ctx_glob, k_in, k_nin, k_inS, k_addS, k_intB, isi_non_int, isi_non_bool, isi_non_str, isi_non_list, isi_non_tuple, isi_bl_int, isi_bl_bool, isi_bl_str, isi_bl_list, isi_bl_tuple, isi_int_int, isi_int_bool, isi_int_str, isi_int_list, isi_int_tuple, isi_str_int, isi_str_bool, isi_str_str, isi_str_list, isi_str_tuple, isi_tup_int, isi_tup_bool, isi_tup_str, isi_tup_list, isi_tup_tuple, isi_lst_int, isi_lst_bool, isi_lst_str, isi_lst_list, isi_lst_tuple, isi_ro_int, isi_ro_bool, isi_ro_str, isi_ro_list, isi_ro_tuple, zs_lst, zs_tup])
theorem LOk.snoc {vs : List Int} {ls : List Ls} {l : Ls} (h : LOk vs ls) (hl : match l with
  | .wr b i v => b < ls.length ∧ FOk vs i ∧ FOk vs v
  | .nw f => FOk vs f ∧ 0 ≤ fv vs f ∧ fv vs f < 10) : LOk vs (ls ++ [l]) := by
  intro n x hx
  by_cases c : n < ls.length
  · rw [List.getElem?_append_left c] at hx
    exact h n x hx
  · rw [List.getElem?_append_right (by omega)] at hx
    have : n - ls.length = 0 := by
      cases e : n - ls.length with
      | zero => rfl
      | succ j => rw [e] at hx; simp at hx
    rw [this] at hx
    simp at hx
    subst hx
    have : n = ls.length := by omega
    subst this
    exact hl
theorem ROk.snoc {ls : List Ls} {rs : List (Option Rl)} {l : Ls} {r : Option Rl} (h : ROk ls rs) (hl : ∀ f, l = .nw f → ∃ r', r = some r' ∧ r'.Ok) : ROk (ls ++ [l]) (rs ++ [r]) := by
  refine ⟨by simp [h.1], fun n f hx => ?_⟩
  by_cases c : n < ls.length
  · rw [List.getElem?_append_left c] at hx
    obtain ⟨r', e, ok⟩ := h.2 n f hx
    exact ⟨r', by rw [List.getElem?_append_left (by rw [h.1]; exact c)]; exact e, ok⟩
  · rw [List.getElem?_append_right (by omega)] at hx
    have : n - ls.length = 0 := by
      cases e : n - ls.length with
      | zero => rfl
      | succ j => rw [e] at hx; simp at hx
    rw [this] at hx
    simp at hx
    obtain ⟨r', e, ok⟩ := hl f hx
    refine ⟨r', ?_, ok⟩
    rw [List.getElem?_append_right (by rw [h.1]; omega), h.1, this, e]
    rfl
theorem ls_one (ls : List Ls) (l : Ls) : ls.map lsv ++ [lsv l] = (ls ++ [l]).map lsv := by rw [List.map_append]; rfl
theorem rl_one (ls : List (Option Rl)) (l : Option Rl) : ls.map rlv ++ [rlv l] = (ls ++ [l]).map rlv := by rw [List.map_append]; rfl
theorem td_one (ls : List Td) (l : Td) : ls.map td ++ [td l] = (ls ++ [l]).map td := by rw [List.map_append]; rfl
theorem ce_one (ls : List Ce) (l : Ce) : ls.map cev ++ [cev l] = (ls ++ [l]).map cev := by rw [List.map_append]; rfl
theorem cells_at {h l : AHeap} (i : Nat) : cells (h ++ l) (h.length + i) = (l[i]?).getD .dead := by
  unfold cells
  rw [List.getElem?_append_right (by omega)]
  congr 2
  omega
theorem cells_at0 {h l : AHeap} : cells (h ++ l) h.length = (l[0]?).getD .dead := cells_at 0
theorem set_at {h l : AHeap} (i : Nat) (c : Cell) : (h ++ l).set (h.length + i) c = h ++ l.set i c := by
  have := List.set_append_right (s := (h : List Cell)) (t := (l : List Cell)) (h.length + i) c (Nat.le_add_right _ _)
  rw [Nat.add_sub_cancel_left] at this
  exact this
theorem set_at0 {h l : AHeap} (c : Cell) : (h ++ l).set h.length c = h ++ l.set 0 c := set_at 0 c
/-- a difference that is kept by the values -/
def DOk (vs : List Int) (t : Td) : Prop := TIn vs.length t ∧ tv vs t.1 - tv vs t.2.1 ≤ t.2.2
section
variable {P : Prg} [U P]
theorem lists_ok {n : Nat} {ns vs : List Int} {count : Nat} {h : AHeap} {Q} (hv : VB vs) (hvl : vs.length ≤ 20) (hc : count ≤ 20) (q : ∀ (ls : List Ls) (rs : List (Option Rl)) (ts : List Td), ls.length = count → LOk vs ls → ROk ls rs → ts.length ≤ count → (∀ t ∈ ts, DOk vs t) → Q (.tup [.lst (ls.map lsv), .lst (rs.map rlv), .adr h.length]) (h ++ [.lst (ts.map td)])) :
    callN P (n+3) 176 [.ro (il ns), .int (count : Int), .lst (il vs)] h Q := by
  refine call_of U.f__law_lists rfl ?_
  have hz1 : sizeLine = 16777216 := rfl
  show WpSs (ctxOf P (callN P (n+2))) b_law_lists _ [.val (.ro (il ns)), .val (.int count), .val (.lst (il vs)), .no, .no, .no, .no, .no, .no, .no, .no] h
  push_cast [b_law_lists]
  refine ⟨Nat.zero_le _, Nat.zero_le _, Nat.zero_le _, ⟨by omega, by omega⟩, ?_⟩
  rw [Int.toNat_natCast]
  refine for_inv (fun k ρ h' => ∃ (ls : List Ls) (rs : List (Option Rl)) (ts : List Td) (s6 s7 s8 s9 s10 : Slot), h' = h ++ [.lst (ts.map td)] ∧ ls.length = k ∧ LOk vs ls ∧ ROk ls rs ∧ ts.length ≤ k ∧ (∀ t ∈ ts, DOk vs t) ∧ ρ = [.val (.ro (il ns)), .val (.int count), .val (.lst (il vs)), .own (.lst (ls.map lsv)), .own (.lst (rs.map rlv)), .val (.adr h.length), s6, s7, s8, s9, s10]) ⟨[], [], [], .no, .no, .no, .no, .no, rfl, rfl, (fun n l h => by simp at h), ⟨rfl, fun n l h => by simp at h⟩, Nat.le_refl _, (fun _ h => by cases h), rfl⟩ (fun _ _ _ _ _ => by trivial) ?_ ?_
  · rintro k x _ _ D' hx ⟨ls, rs, ts, s6, s7, s8, s9, s10, rfl, rfl, hl, hr, ht, htb, rfl⟩ kn kc kr kb
    obtain ⟨hk, rfl⟩ := items_range hx
    have rl := hr.1
    push_cast [b_law_lists_2]
    refine ⟨by show 12 ≤ _; omega, ?_⟩
    refine draws_ok (ss := [3, 7, 40, 40, 3, 10, 10, 10, 3, 10, 40, 10]) (sizes_of (by decide)) (by decide) fun ds hd => ?_
    have new : ∀ s8, WpSs (ctxOf P (callN P (n+2))) b_law_lists_1 D' [.val (.ro (il ns)), .val (.int count), .val (.lst (il vs)), .own (.lst (ls.map lsv)), .own (.lst (rs.map rlv)), .val (.adr h.length), .val (.int ls.length), .val (.lst (il ds)), s8, s9, s10] (h ++ [.lst (ts.map td)]) := by
      intro s8
      push_cast [b_law_lists_1]
      refine k_dr (j := 2) hd rfl fun v2 _ _ => ?_
      refine k_dr (j := 1) hd rfl fun v1 a1 a2 => ?_
      refine form_for_ok hv (by omega) (by omega) fun f f1 f2 => ?_
      have e : AV.tup [.str "new", fmv f] = lsv (.nw f) := rfl
      push_cast [e, ls_one]
      refine ⟨by show 2 ≤ _; omega, by rw [List.length_map]; omega, ?_⟩
      push_cast [cells_at0, List.getElem?_cons_zero, Option.getD_some]
      refine ⟨by show 2 ≤ _; omega, ?_⟩
      refine at_most_ok (f := (0, 0)) ?_
      push_cast [Int.sub_zero, cells_at0, List.getElem?_cons_zero, Option.getD_some, appC, td_one, set_at0, List.set_cons_zero]
      refine ⟨by rw [List.length_map]; omega, ?_⟩
      refine k_dr (j := 5) hd rfl fun v5 b1 b2 => ?_
      push_cast [WpSs]
      refine k_dr (j := 6) hd rfl fun v6 b3 b4 => ?_
      push_cast [WpSs]
      refine ⟨divA (by decide) (by decide), ?_⟩
      refine k_dr (j := 7) hd rfl fun v7 b5 b6 => ?_
      push_cast [WpSs]
      refine ⟨by show 3 ≤ _; omega, ?_⟩
      refine k_dr (j := 4) hd rfl fun v4 b7 b8 => ?_
      refine k_dr (j := 8) hd rfl fun v8 b9 b10 => ?_
      have e2 : AV.tup [.int v4, .lst [.int (v5 - 4), .int (v6 / 3), .int (v7 - 4)], .int v8] = rlv (some ⟨v4, v5 - 4, v6 / 3, v7 - 4, v8⟩) := rfl
      push_cast [e2, rl_one]
      refine ⟨by show 3 ≤ _; omega, by rw [List.length_map]; omega, ?_⟩
      have rok : Rl.Ok ⟨v4, v5 - 4, v6 / 3, v7 - 4, v8⟩ := by
        show (-4 ≤ v5 - 4 ∧ v5 - 4 ≤ 5) ∧ (0 ≤ v6 / 3 ∧ v6 / 3 ≤ 3) ∧ (-4 ≤ v7 - 4 ∧ v7 - 4 ≤ 5) ∧ (0 ≤ v8 ∧ v8 ≤ 2) ∧ (0 ≤ v4 ∧ v4 ≤ 2)
        omega
      refine kn _ _ ⟨_, _, _, _, _, _, _, _, rfl, by simp, LOk.snoc hl (l := .nw f) ⟨f1, by omega, by omega⟩, ROk.snoc hr (fun g eg => ⟨_, rfl, rok⟩), by simp; omega, ?_, rfl⟩
      intro t ht
      rcases List.mem_append.mp ht with ht | ht
      · exact htb t ht
      · rw [List.mem_singleton.mp ht]
        have f3 := f1.2.1
        have f4 := f1.1
        refine ⟨⟨Nat.zero_le _, f4, by show _ ≤ f.2; omega, by show f.2 ≤ _; omega⟩, ?_⟩
        show tv vs 0 - tv vs f.1 ≤ f.2
        have e0 : tv vs 0 = 0 := rfl
        have e1 : tv vs f.1 + f.2 = fv vs f := by
          unfold tv fv
          show (if f.1 = 0 then (0 : Int) else (vs[f.1 - 1]?).getD 0 + 0) + f.2 = if f.1 = 0 then f.2 else (vs[f.1 - 1]?).getD 0 + f.2
          split <;> omega
        omega
    push_cast [k_gt]
    refine ite_b (fun c => ?_) (fun c => ?_)
    · refine k_dr (j := 0) hd rfl fun v0 _ _ => ?_
      push_cast [k_gt]
      refine ite_b (fun c2 => ?_) (fun c2 => new _)
      refine k_dr (j := 2) hd rfl fun v2 _ _ => ?_
      refine k_dr (j := 9) hd rfl fun v9 a1 a2 => ?_
      push_cast [WpSs]
      refine form_for_ok hv (by omega) (by omega) fun f f1 f2 => ?_
      refine k_dr (j := 1) hd rfl fun v1 _ _ => ?_
      obtain ⟨b, hb, hb2⟩ := modI (x := v1) (m := ls.length) (by omega)
      push_cast [WpSs]
      refine ⟨by omega, ?_⟩
      rw [hb]
      refine k_dr (j := 3) hd rfl fun v3 _ _ => ?_
      refine k_dr (j := 11) hd rfl fun v11 a3 a4 => ?_
      push_cast [WpSs]
      refine form_for_ok hv (by omega) (by omega) fun g g1 g2 => ?_
      have e : AV.tup [.str "written", .int (b : Int), fmv f, fmv g] = lsv (.wr b f g) := rfl
      have e2 : AV.non = rlv none := rfl
      push_cast [e, ls_one]
      refine ⟨by show 4 ≤ _; omega, by rw [List.length_map]; omega, by rw [List.length_map]; omega, ?_⟩
      rw [e2, rl_one]
      exact kc _ _ ⟨_, _, _, _, _, _, _, _, rfl, by simp, LOk.snoc hl (l := .wr b f g) ⟨hb2, f1, g1⟩, ROk.snoc hr (fun g eg => by cases eg), by omega, htb, rfl⟩
    · simp only [Bool.false_eq_true, if_false]
      exact new _
  · rintro _ _ ⟨ls, rs, ts, s6, s7, s8, s9, s10, rfl, hk, hl, hr, ht, htb, rfl⟩
    simp only [List.length_map, List.length_range] at hk ht
    push_cast [b_law_lists_3]
    exact ⟨by show 3 ≤ _; omega, q ls rs ts hk hl hr ht htb⟩
end
end Kg

set_option maxRecDepth 100000
set_option maxHeartbeats 4000000
/-! knowns, plain: named indexes, cells asked for -/
namespace Kv
open PySem L2 VL
structure Kd where
  m : Nat
  ds : List Td
  ls : List Ls
  cs : List Ce
  ps : List Pr
  fr : List Fm
/-- everything in it leans on what is there -/
structure Kd.Ok (K : Kd) : Prop where
  d : ∀ t ∈ K.ds, TIn K.m t
  l : LIn K.m K.ls
  c : ∀ c ∈ K.cs, CIn K.m K.ls.length c
  p : ∀ p ∈ K.ps, PIn K.m K.ls.length p
  f : ∀ f ∈ K.fr, FIn K.m f
  ml : K.m ≤ 1000
  dl : K.ds.length ≤ 40
  ll : K.ls.length ≤ 10
  cl : K.cs.length ≤ 100
  pl : K.ps.length ≤ 10
  fl : K.fr.length ≤ 5
def lsF : Ls → List Fm
  | .wr _ i _ => [i, (i.1, i.2 + 1)]
  | .nw _ => []
def prF : Pr → List Fm
  | .eit _ => []
  | .all _ lo _ _ _ => [lo]
  | .mat _ lo _ _ _ _ => [lo]
  | .srt _ lo _ => [lo]
  | .blw _ lo _ _ low _ => [lo, low]
def Kd.found (K : Kd) : List Fm := K.fr ++ K.cs.map (·.2.1) ++ K.ls.flatMap lsF ++ K.ps.flatMap prF ++ [(0, 0)]
def addO (acc : List Fm) (f : Fm) : List Fm := if f ∈ acc then acc else acc ++ [f]
def once (l : List Fm) : List Fm := l.foldl addO []
def Kd.idx (K : Kd) : List Fm := once K.found
def Kd.find (K : Kd) (num : Nat) (f : Fm) : Option Fm := (K.cs.find? fun c => decide (c.1 = num ∧ c.2.1 = f)).map (·.2.2)
def Kd.have (K : Kd) (num : Nat) (f : Fm) : Kd := match K.find num f with
  | some _ => K
  | none => { K with m := K.m + 1, cs := K.cs ++ [(num, f, (K.m + 1, 0))] }
def Kd.val (K : Kd) (num : Nat) (f : Fm) : Fm := match K.find num f with
  | some v => v
  | none => (K.m + 1, 0)
theorem once_len (l : List Fm) : (once l).length ≤ l.length := by
  have : ∀ (l acc : List Fm), (l.foldl addO acc).length ≤ acc.length + l.length := by
    intro l
    induction l with
    | nil => intro acc; simp
    | cons x l ih =>
      intro acc
      have := ih (addO acc x)
      have : (addO acc x).length ≤ acc.length + 1 := by
        unfold addO
        split
        · omega
        · simp
      simp only [List.foldl_cons, List.length_cons]
      omega
  have := this l []
  simpa [once] using this
theorem once_take {l : List Fm} {i : Nat} {f : Fm} (h : l[i]? = some f) : once (l.take (i + 1)) = addO (once (l.take i)) f := by
  unfold once
  rw [List.take_succ, h, List.foldl_append]
  rfl
theorem once_mem {l : List Fm} {f : Fm} (h : f ∈ once l) : f ∈ l := by
  have : ∀ (l acc : List Fm), (f ∈ l.foldl addO acc) → f ∈ acc ∨ f ∈ l := by
    intro l
    induction l with
    | nil => intro acc h; exact .inl h
    | cons x l ih =>
      intro acc h
      rcases ih _ h with h | h
      · unfold addO at h
        split at h
        · exact .inl h
        · rcases List.mem_append.mp h with h | h
          · exact .inl h
          · rw [List.mem_singleton.mp h]; exact .inr (by simp)
      · exact .inr (by simp [h])
  rcases this l [] h with h | h
  · cases h
  · exact h
theorem flat_take {α : Type} {l : List α} {g : α → List Fm} {i : Nat} {a : α} (h : l[i]? = some a) : (l.take (i + 1)).flatMap g = (l.take i).flatMap g ++ g a := by
  rw [List.take_succ, h, List.flatMap_append]
  simp
theorem flat_len {α : Type} {g : α → List Fm} (hg : ∀ a, (g a).length ≤ 2) : ∀ l : List α, (l.flatMap g).length ≤ 2 * l.length
  | [] => by simp
  | a :: l => by
    have := flat_len hg l
    have := hg a
    rw [List.flatMap_cons, List.length_append, List.length_cons]
    omega
theorem lsF_len (l : Ls) : (lsF l).length ≤ 2 := by cases l <;> simp [lsF]
theorem prF_len (l : Pr) : (prF l).length ≤ 2 := by cases l <;> simp [prF]
theorem found_len {K : Kd} (ok : K.Ok) : K.found.length ≤ 500 := by
  have := flat_len lsF_len K.ls
  have := flat_len prF_len K.ps
  have := ok.fl; have := ok.cl; have := ok.ll; have := ok.pl
  unfold Kd.found
  simp only [List.length_append, List.length_map, List.length_singleton]
  omega
theorem idx_len {K : Kd} (ok : K.Ok) : K.idx.length ≤ 500 := Nat.le_trans (once_len _) (found_len ok)
theorem have_find {K : Kd} {num : Nat} {f v : Fm} (h : K.find num f = some v) : K.have num f = K ∧ K.val num f = v := by
  unfold Kd.have Kd.val
  rw [h]; exact ⟨rfl, rfl⟩
theorem have_none {K : Kd} {num : Nat} {f : Fm} (h : K.find num f = none) : K.have num f = { K with m := K.m + 1, cs := K.cs ++ [(num, f, (K.m + 1, 0))] } ∧ K.val num f = (K.m + 1, 0) := by
  unfold Kd.have Kd.val
  rw [h]; exact ⟨rfl, rfl⟩
theorem TIn.mono {m m' : Nat} {t : Td} (h : TIn m t) (e : m ≤ m') : TIn m' t := ⟨Nat.le_trans h.1 e, Nat.le_trans h.2.1 e, h.2.2⟩
theorem LIn.mono {m m' : Nat} {ls : List Ls} (h : LIn m ls) (e : m ≤ m') : LIn m' ls := fun n l x => by
  have := h n l x
  cases l with
  | wr b i v => exact ⟨this.1, this.2.1.mono e, this.2.2.mono e⟩
  | nw f => exact FIn.mono this e
theorem CIn.mono {m m' nl : Nat} {c : Ce} (h : CIn m nl c) (e : m ≤ m') : CIn m' nl c := ⟨h.1, h.2.1.mono e, h.2.2.mono e⟩
theorem PIn.mono {m m' nl : Nat} {p : Pr} (h : PIn m nl p) (e : m ≤ m') : PIn m' nl p := by
  cases p with
  | eit ws => exact ⟨h.1, h.2.1, fun w hw => ⟨(h.2.2 w hw).1, fun t ht => ((h.2.2 w hw).2 t ht).mono e⟩⟩
  | all n lo hi s f => exact ⟨h.1, h.2.1.mono e, h.2.2.1.mono e, h.2.2.2.mono e⟩
  | mat n lo hi s o pp => exact ⟨h.1, h.2.1.mono e, h.2.2.1.mono e, h.2.2.2⟩
  | srt n lo hi => exact ⟨h.1, h.2.1.mono e, h.2.2.mono e⟩
  | blw n lo hi o x y => exact ⟨h.1, h.2.1.mono e, h.2.2.1.mono e, h.2.2.2.1, h.2.2.2.2.1.mono e, h.2.2.2.2.2.mono e⟩
/-- one unknown more -/
theorem ok_num {K : Kd} (ok : K.Ok) (h : K.m + 1 ≤ 1000) : Kd.Ok { K with m := K.m + 1 } :=
  ⟨fun t ht => (ok.d t ht).mono (Nat.le_succ _), ok.l.mono (Nat.le_succ _), fun c hc => (ok.c c hc).mono (Nat.le_succ _), fun p hp => (ok.p p hp).mono (Nat.le_succ _), fun f hf => (ok.f f hf).mono (Nat.le_succ _), h, ok.dl, ok.ll, ok.cl, ok.pl, ok.fl⟩
theorem ok_have {K : Kd} (ok : K.Ok) {num : Nat} {f : Fm} (hn : num < K.ls.length) (hf : FIn K.m f) (h : K.m + 1 ≤ 1000) (hc : K.cs.length + 1 ≤ 100) : (K.have num f).Ok := by
  cases e : K.find num f with
  | some v => rw [(have_find e).1]; exact ok
  | none =>
    rw [(have_none e).1]
    have o := ok_num ok h
    refine ⟨o.d, o.l, fun c hc => ?_, o.p, o.f, o.ml, o.dl, o.ll, by simp; omega, o.pl, o.fl⟩
    rcases List.mem_append.mp hc with hc | hc
    · exact o.c c hc
    · rw [List.mem_singleton.mp hc]
      exact ⟨hn, hf.mono (Nat.le_succ _), Nat.le_refl _, by show (-10000000000000 : Int) ≤ 0; omega, by show (0 : Int) ≤ 10000000000000; omega⟩
theorem val_in {K : Kd} (ok : K.Ok) {num : Nat} {f : Fm} : FIn (K.have num f).m (K.val num f) ∧ K.m ≤ (K.have num f).m := by
  cases e : K.find num f with
  | some v =>
    rw [(have_find e).1, (have_find e).2]
    unfold Kd.find at e
    obtain ⟨c, h1, rfl⟩ := Option.map_eq_some_iff.mp e
    exact ⟨(ok.c c (List.mem_of_find?_eq_some h1)).2.2, Nat.le_refl _⟩
  | none =>
    rw [(have_none e).1, (have_none e).2]
    exact ⟨⟨Nat.le_refl _, by show (-10000000000000 : Int) ≤ 0; omega, by show (0 : Int) ≤ 10000000000000; omega⟩, Nat.le_succ _⟩
theorem have_ls {K : Kd} {num : Nat} {f : Fm} : (K.have num f).ls = K.ls ∧ (K.have num f).ps = K.ps ∧ (K.have num f).ds = K.ds ∧ (K.have num f).fr = K.fr ∧ (K.have num f).cs.length ≤ K.cs.length + 1 ∧ (K.have num f).m ≤ K.m + 1 := by
  cases e : K.find num f with
  | some v => rw [(have_find e).1]; exact ⟨rfl, rfl, rfl, rfl, by omega, by omega⟩
  | none => rw [(have_none e).1]; exact ⟨rfl, rfl, rfl, rfl, by simp, Nat.le_refl _⟩
theorem lsF_in {m : Nat} {ls : List Ls} (h : LIn m ls) {l : Ls} (hl : l ∈ ls) {f : Fm} (hf : f ∈ lsF l) : f.1 ≤ m ∧ (-10000000000001 ≤ f.2 ∧ f.2 ≤ 10000000000001) := by
  obtain ⟨n, hn⟩ := List.mem_iff_getElem?.mp hl
  have := h n l hn
  cases l with
  | wr b i v =>
    obtain ⟨_, h1, _⟩ := this
    obtain ⟨a, b, c⟩ := h1
    simp only [lsF, List.mem_cons, List.not_mem_nil, or_false] at hf
    rcases hf with rfl | rfl
    · exact ⟨a, by omega, by omega⟩
    · exact ⟨a, by show _ ≤ i.2 + 1; omega, by show i.2 + 1 ≤ _; omega⟩
  | nw f => cases hf
theorem prF_in {m nl : Nat} {p : Pr} (h : PIn m nl p) {f : Fm} (hf : f ∈ prF p) : FIn m f := by
  cases p with
  | eit ws => cases hf
  | all n lo hi s g => simp only [prF, List.mem_singleton] at hf; subst hf; exact h.2.1
  | mat n lo hi s o pp => simp only [prF, List.mem_singleton] at hf; subst hf; exact h.2.1
  | srt n lo hi => simp only [prF, List.mem_singleton] at hf; subst hf; exact h.2.1
  | blw n lo hi o x y =>
    simp only [prF, List.mem_cons, List.not_mem_nil, or_false] at hf
    rcases hf with rfl | rfl
    · exact h.2.1
    · exact h.2.2.2.2.1
/-- a named index -/
def XIn (m : Nat) (f : Fm) : Prop := f.1 ≤ m ∧ (-10000000000001 ≤ f.2 ∧ f.2 ≤ 10000000000001)
theorem FIn.x {m : Nat} {f : Fm} (h : FIn m f) : XIn m f := ⟨h.1, by have := h.2; omega, by have := h.2; omega⟩
theorem found_in {K : Kd} (ok : K.Ok) {f : Fm} (h : f ∈ K.found) : XIn K.m f := by
  unfold Kd.found at h
  simp only [List.mem_append, List.mem_map, List.mem_flatMap, List.mem_singleton] at h
  rcases h with (((h | ⟨c, h, rfl⟩) | ⟨l, h, h2⟩) | ⟨p, h, h2⟩) | rfl
  · exact (ok.f f h).x
  · exact (ok.c c h).2.1.x
  · exact lsF_in ok.l h h2
  · exact (prF_in (ok.p p h) h2).x
  · exact ⟨Nat.zero_le _, by show (-10000000000001 : Int) ≤ 0; omega, by show (0 : Int) ≤ 10000000000001; omega⟩
theorem idx_in {K : Kd} (ok : K.Ok) {f : Fm} (h : f ∈ K.idx) : XIn K.m f := found_in ok (once_mem h)
end Kv

set_option maxRecDepth 100000
set_option maxHeartbeats 4000000
namespace Kn
open PySem L2 VL Kv Kg
local macro_rules
  | `(tactic| push_cast [$xs,*]) => `(tactic| try simp only [$xs,*, WpSs, WpS, WpE, WpEs, WpBs, WpO, WpN, WpI, WpC, WpT, getS, setS, tgK, setsS, wipeS, k_add, k_addT, k_sub, k_mul, k_fdiv, k_mod, k_neg, k_lt, k_le, k_gt, k_ge, k_eqI, k_neI, k_eqS, k_neS, k_eqB, k_neB, k_is, k_isn, k_isB, k_isnB, k_gIn, ctx_gdct, isNon_non, isNon_int, isNon_str, isNon_lst, isNon_tup, isNon_adr, k_lenS, k_lenL, k_lenR, k_lenT, k_int, k_str, k_abs, tru_bl, augK, ctx_call, ctx_glob, k_in, k_nin, k_inS, k_addS, k_intB, isi_non_int, isi_non_bool, isi_non_str, isi_non_list, isi_non_tuple, isi_bl_int, isi_bl_bool, isi_bl_str, isi_bl_list, isi_bl_tuple, isi_int_int, isi_int_bool, isi_int_str, isi_int_list, isi_int_tuple, isi_str_int, isi_str_bool, isi_str_str, isi_str_list, isi_str_tuple, isi_tup_int, isi_tup_bool, isi_tup_str, isi_tup_list, isi_tup_tuple, isi_lst_int, isi_lst_bool, isi_lst_str, isi_lst_list, isi_lst_tuple, isi_ro_int, isi_ro_bool, isi_ro_str, isi_ro_list, isi_ro_tuple, zs_lst, zs_tup])
def flds (m : Nat) (o : Nat) : List (Str × AV) := [("many", .int (m : Int)), ("differences", .adr (o + 1)), ("lists", .adr (o + 2)), ("cells", .adr (o + 3)), ("taken", .adr (o + 4)), ("fresh", .adr (o + 5))]
/-- the object of a known, at o to o + 5 -/
structure Ob (h : AHeap) (o : Nat) (K : Kd) : Prop where
  hd : cells h o = .obj 9 (flds K.m o)
  d : cells h (o + 1) = .lst (K.ds.map td)
  l : cells h (o + 2) = .lst (K.ls.map lsv)
  c : cells h (o + 3) = .lst (K.cs.map cev)
  t : cells h (o + 4) = .lst (K.ps.map prv)
  f : cells h (o + 5) = .lst (K.fr.map fmv)
/-- only what stands from o on, n cells, was changed -/
structure Fr (o n : Nat) (h h' : AHeap) : Prop where
  len : h.length ≤ h'.length
  keep : ∀ b, b < h.length → (b < o ∨ o + n ≤ b) → cells h' b = cells h b
theorem Fr.refl {o n : Nat} {h : AHeap} : Fr o n h h := ⟨Nat.le_refl _, fun _ _ _ => rfl⟩
theorem Fr.trans {o n : Nat} {h h' h'' : AHeap} (x : Fr o n h h') (y : Fr o n h' h'') : Fr o n h h'' := ⟨Nat.le_trans x.len y.len, fun b h1 h2 => (y.keep b (Nat.lt_of_lt_of_le h1 x.len) h2).trans (x.keep b h1 h2)⟩
theorem Fr.wide {o n o' n' : Nat} {h h' : AHeap} (x : Fr o n h h') (e1 : o' ≤ o) (e2 : o + n ≤ o' + n') : Fr o' n' h h' := ⟨x.len, fun b h1 h2 => x.keep b h1 (by omega)⟩
theorem cells_lt {h : AHeap} {n : Nat} {c : Cell} (e : cells h n = c) (hc : c ≠ .dead) : n < h.length := by
  cases Nat.lt_or_ge n h.length with
  | inl q => exact q
  | inr q => unfold cells at e; rw [List.getElem?_eq_none q] at e; exact absurd e.symm hc
theorem cells_app {h l : AHeap} {n : Nat} (e : n < h.length) : cells (h ++ l) n = cells h n := by
  unfold cells
  rw [List.getElem?_append_left e]
theorem cells_put {h : AHeap} {n m : Nat} {c : Cell} (hn : n ≠ m) : cells (h.set n c) m = cells h m := by
  unfold cells
  rw [List.getElem?_set_ne hn]
theorem cells_set {h : AHeap} {n : Nat} {c : Cell} (hn : n < h.length) : cells (h.set n c) n = c := by
  unfold cells
  rw [List.getElem?_set_self hn]; rfl
theorem Fr.app {o n : Nat} {h l : AHeap} : Fr o n h (h ++ l) := ⟨by simp, fun b h1 _ => cells_app h1⟩
theorem Fr.set {o n m : Nat} {h : AHeap} {c : Cell} (h1 : o ≤ m) (h2 : m < o + n) : Fr o n h (h.set m c) := ⟨by simp, fun b _ h3 => cells_put (by omega)⟩
theorem viewT_app {h l : AHeap} {x : AV} {xs : List AV} (e : viewT h x = some xs) : viewT (h ++ l) x = some xs := by
  cases x <;> try exact e
  rename_i n
  have e' : view h (.adr n) = some xs := e
  simp only [view] at e'
  show view (h ++ l) (.adr n) = _
  simp only [view]
  cases c : cells h n with
  | lst ys =>
    rw [c] at e'
    have := cells_lt c (fun z => by cases z)
    rw [cells_app this, c]
    exact e'
  | _ => rw [c] at e'; cases e'
section
variable {h h' : AHeap} {o : Nat} {K : Kd}
theorem Ob.lt (x : Ob h o K) : o + 5 < h.length := cells_lt x.f (fun z => by cases z)
theorem Ob.mono (x : Ob h o K) (k : ∀ i, i < 6 → cells h' (o + i) = cells h (o + i)) : Ob h' o K :=
  ⟨(k 0 (by omega)).trans x.hd, (k 1 (by omega)).trans x.d, (k 2 (by omega)).trans x.l, (k 3 (by omega)).trans x.c, (k 4 (by omega)).trans x.t, (k 5 (by omega)).trans x.f⟩
theorem Ob.fr (x : Ob h o K) {p n : Nat} (f : Fr p n h h') (d : o + 6 ≤ p ∨ p + n ≤ o) : Ob h' o K := x.mono fun i hi => f.keep _ (by have := x.lt; omega) (by omega)
theorem Ob.app (x : Ob h o K) (l : AHeap) : Ob (h ++ l) o K := x.mono fun i hi => cells_app (by have := x.lt; omega)
end
def oH (o : Nat) (K : Kd) : AHeap := [.obj 9 (flds K.m o), .lst (K.ds.map td), .lst (K.ls.map lsv), .lst (K.cs.map cev), .lst (K.ps.map prv), .lst (K.fr.map fmv)]
theorem oH_ob {h : AHeap} {K : Kd} : Ob (h ++ oH h.length K) h.length K := ⟨cells_at0, cells_at 1, cells_at 2, cells_at 3, cells_at 4, cells_at 5⟩
section
variable {m o : Nat}
theorem l_m : (flds m o).lookup ("many" : Str) = some (.int (m : Int)) := rfl
theorem l_d : (flds m o).lookup ("differences" : Str) = some (.adr (o + 1)) := rfl
theorem l_l : (flds m o).lookup ("lists" : Str) = some (.adr (o + 2)) := rfl
theorem l_c : (flds m o).lookup ("cells" : Str) = some (.adr (o + 3)) := rfl
theorem l_t : (flds m o).lookup ("taken" : Str) = some (.adr (o + 4)) := rfl
theorem l_f : (flds m o).lookup ("fresh" : Str) = some (.adr (o + 5)) := rfl
theorem n_new : (flds m o).lookup ("new_number" : Str) = none := rfl
theorem n_len : (flds m o).lookup ("length" : Str) = none := rfl
theorem n_cell : (flds m o).lookup ("cell" : Str) = none := rfl
theorem n_twin : (flds m o).lookup ("twin" : Str) = none := rfl
theorem p_m {k : Nat} : putFA ("many" : Str) (.int (k : Int)) (flds m o) = flds k o := rfl
theorem f_len : (flds m o).length = 6 := rfl
end
theorem k_eqF {h : AHeap} {f g : Fm} {Q : KA} (q : Q (.bl (decide (f = g)))) : cmpK h .Eq (fmv f) (fmv g) Q := by
  show eqGen h false (fmv f) (fmv g) Q
  have e : ∀ f : Fm, pdH h (fmv f) = some (.tuple [.int (f.1 : Int), .int f.2]) := fun f => by
    simp only [fmv, pdH, pdHs, Option.bind_some, Option.map_some]
  unfold eqGen
  rw [e, e]
  refine ⟨rfl, rfl, ?_⟩
  have : PyData.eqv (.tuple [.int (f.1 : Int), .int f.2]) (.tuple [.int (g.1 : Int), .int g.2]) = decide (f = g) := by
    show (((f.1 : Int) == (g.1 : Int)) && ((f.2 == g.2) && true)) = decide (f = g)
    rw [Bool.eq_iff_iff]
    simp only [Bool.and_true, Bool.and_eq_true, beq_iff_eq, decide_eq_true_eq, Prod.ext_iff]
    omega
  simp only [this, Bool.false_eq_true, if_false]
  exact q
section
variable {P : Prg} [U P]
theorem fld_k {n : Nat} {f : Str} (h : P.flds.contains (9, f) = true) : (ctxOf P (callN P n)).fld 9 f = true := h
theorem fm {n : Nat} : (ctxOf P (callN P n)).fld 9 "many" = true := U.d_9_many
theorem fd {n : Nat} : (ctxOf P (callN P n)).fld 9 "differences" = true := U.d_9_differences
theorem fl {n : Nat} : (ctxOf P (callN P n)).fld 9 "lists" = true := U.d_9_lists
theorem fc {n : Nat} : (ctxOf P (callN P n)).fld 9 "cells" = true := U.d_9_cells
theorem ft {n : Nat} : (ctxOf P (callN P n)).fld 9 "taken" = true := U.d_9_taken
theorem ff {n : Nat} : (ctxOf P (callN P n)).fld 9 "fresh" = true := U.d_9_fresh
theorem me_new {n : Nat} : (ctxOf P (callN P n)).meth 9 "new_number" = some 196 := U.m_9_new_number
theorem me_len {n : Nat} : (ctxOf P (callN P n)).meth 9 "length" = some 197 := U.m_9_length
theorem me_cell {n : Nat} : (ctxOf P (callN P n)).meth 9 "cell" = some 198 := U.m_9_cell
theorem me_twin {n : Nat} : (ctxOf P (callN P n)).meth 9 "twin" = some 199 := U.m_9_twin
theorem ini {n : Nat} : (ctxOf P (callN P n)).init 9 = some 195 := U.i_9
theorem shifted_ok {n : Nat} {f : Fm} {p : Int} {h : AHeap} {Q} (q : Q (fmv (f.1, f.2 + p)) h) : callN P (n+1) 194 [fmv f, .int p] h Q := by
  refine call_of U.f_shifted rfl ?_
  show WpSs (ctxOf P (callN P n)) b_shifted _ [.val (fmv f), .val (.int p)] h
  push_cast [b_shifted]
  refine k_fm0 (k_fm1 ?_)
  exact ⟨by show 2 ≤ sizeLine; decide, q⟩
theorem less_ok {n : Nat} {f g : Fm} {h : AHeap} {Q} (q : Q (td (f.1, g.1, g.2 - f.2 - 1)) h) : callN P (n+1) 191 [fmv f, fmv g] h Q := by
  refine call_of U.f_less rfl ?_
  show WpSs (ctxOf P (callN P n)) b_less _ [.val (fmv f), .val (fmv g)] h
  push_cast [b_less]
  refine k_fm0 (k_fm0 (k_fm1 (k_fm1 ?_)))
  exact ⟨by show 3 ≤ sizeLine; decide, q⟩
theorem at_most_ok {n : Nat} {f g : Fm} {h : AHeap} {Q} (q : Q (td (f.1, g.1, g.2 - f.2)) h) : callN P (n+1) 192 [fmv f, fmv g] h Q := by
  refine call_of U.f_at_most rfl ?_
  show WpSs (ctxOf P (callN P n)) b_at_most _ [.val (fmv f), .val (fmv g)] h
  push_cast [b_at_most]
  refine k_fm0 (k_fm0 (k_fm1 (k_fm1 ?_)))
  exact ⟨by show 3 ≤ sizeLine; decide, q⟩
theorem opposite_ok {n : Nat} {t : Td} {h : AHeap} {Q} (q : Q (td (t.2.1, t.1, -t.2.2 - 1)) h) : callN P (n+1) 193 [td t] h Q := by
  refine call_of U.f_opposite rfl ?_
  show WpSs (ctxOf P (callN P n)) b_opposite _ [.val (td t), .no, .no, .no] h
  push_cast [b_opposite, td]
  exact ⟨by show 3 ≤ sizeLine; decide, q⟩
theorem init_ok {n : Nat} {h : AHeap} {D L C T F : AV} {K : Kd} {Q} (hD : viewT h D = some (K.ds.map td)) (hL : viewT h L = some (K.ls.map lsv)) (hC : viewT h C = some (K.cs.map cev)) (hT : viewT h T = some (K.ps.map prv)) (hF : viewT h F = some (K.fr.map fmv)) (q : Q .non (h ++ oH h.length K)) :
    callN P (n+1) 195 [.adr h.length, .int (K.m : Int), D, L, C, T, F] (h ++ [.obj 9 []]) Q := by
  refine call_of U.f_Known___init__ rfl ?_
  show WpSs (ctxOf P (callN P n)) b_Known___init__ _ [.val (.adr h.length), .val (.int (K.m : Int)), .val D, .val L, .val C, .val T, .val F] _
  push_cast [b_Known___init__, viewT_app hD, viewT_app hL, viewT_app hC, viewT_app hT, viewT_app hF, List.append_assoc, List.cons_append, List.nil_append, List.length_append, List.length_cons, List.length_nil, cells_at0, set_at0, List.getElem?_cons_zero, Option.getD_some, List.set_cons_zero]
  refine ⟨fm, by show 0 < 1000; decide, fd, by show 1 < 1000; decide, fl, by show 2 < 1000; decide, fc, by show 3 < 1000; decide, ft, by show 4 < 1000; decide, ff, by show 5 < 1000; decide, ?_⟩
  exact q
theorem make_ok {n : Nat} {h : AHeap} {D L C T F : AV} {K : Kd} {Q : AV → AHeap → Prop} (hD : viewT h D = some (K.ds.map td)) (hL : viewT h L = some (K.ls.map lsv)) (hC : viewT h C = some (K.cs.map cev)) (hT : viewT h T = some (K.ps.map prv)) (hF : viewT h F = some (K.fr.map fmv)) (q : Q (.adr h.length) (h ++ oH h.length K)) :
    match (ctxOf P (callN P (n+1))).init 9 with
    | some f => callN P (n+1) f (.adr h.length :: [.int (K.m : Int), D, L, C, T, F]) (h ++ [.obj 9 []]) fun r h2 => match r with
      | .non => Q (.adr h.length) h2
      | _ => False
    | none => False := by
  rw [ini]
  exact init_ok hD hL hC hT hF q
theorem obj_set {h : AHeap} {o : Nat} {K : Kd} (x : Ob h o K) : Ob (h.set o (.obj 9 (flds (K.m + 1) o))) o { K with m := K.m + 1 } := by
  have := x.lt
  exact ⟨cells_set (by omega), (cells_put (by omega)).trans x.d, (cells_put (by omega)).trans x.l, (cells_put (by omega)).trans x.c, (cells_put (by omega)).trans x.t, (cells_put (by omega)).trans x.f⟩
theorem new_number_ok {n : Nat} {h : AHeap} {o : Nat} {K : Kd} {Q} (x : Ob h o K) (q : ∀ h', Ob h' o { K with m := K.m + 1 } → Fr o 6 h h' → h'.length = h.length → Q (fmv (K.m + 1, 0)) h') : callN P (n+1) 196 [.adr o] h Q := by
  refine call_of U.f_Known_new_number rfl ?_
  show WpSs (ctxOf P (callN P n)) b_Known_new_number _ [.val (.adr o)] h
  have e1 : (K.m : Int) + 1 = ((K.m + 1 : Nat) : Int) := by omega
  have y := obj_set x
  push_cast [b_Known_new_number, x.hd, l_m, e1, fm, true_and, f_len, p_m, y.hd]
  refine ⟨by decide, by show 2 ≤ sizeLine; decide, q _ y (Fr.set (by omega) (by omega)) (by simp)⟩
theorem length_ok {n m : Nat} {h : AHeap} {o : Nat} {K : Kd} {num : Nat} {Q} (x : Ob h o K) (ho : LIn m K.ls) (hnum : num < K.ls.length) (q : Q (fmv (LF K.ls num)) h) : callN P (n+1) 197 [.adr o, .int (num : Int)] h Q := by
  refine call_of U.f_Known_length rfl ?_
  show WpSs (ctxOf P (callN P n)) b_Known_length _ [.val (.adr o), .val (.int num)] h
  have hL : viewT h (.adr (o + 2)) = some (K.ls.map lsv) := view_adr x.l
  push_cast [b_Known_length]
  refine wh_inv (fun mm ρ h' => h' = h ∧ ∃ cur : Nat, mm = cur ∧ cur < K.ls.length ∧ LF K.ls cur = LF K.ls num ∧ ρ = [.val (.adr o), .val (.int cur)]) num ⟨rfl, num, rfl, hnum, rfl, rfl⟩ ?_
  rintro mm _ h D' ⟨rfl, cur, hm, hcur, hV, rfl⟩ kn kc kr kb
  have hm := hm.symm
  subst hm
  have e := List.getElem?_eq_getElem hcur
  push_cast [x.hd, l_l, fl, true_and]
  refine k_subLs hL hcur ?_
  cases w : K.ls[cur] with
  | wr b i v =>
    rw [w] at e
    have hb1 := (ho cur _ e).1
    refine k_tup (j := 0) (d := .str "written") (xs := [.str "written", .int (b : Int), fmv i, fmv v]) rfl ?_
    push_cast [decide_true, if_true, b_Known_length_1, x.hd, l_l, fl, true_and]
    refine k_subLs hL hcur ?_
    rw [w]
    refine k_tup (j := 1) (d := .int (b : Int)) (xs := [.str "written", .int (b : Int), fmv i, fmv v]) rfl ?_
    exact kn b _ _ hb1 ⟨rfl, b, rfl, by omega, by rw [← hV, L_wr ho e], rfl⟩
  | nw f =>
    rw [w] at e
    refine k_tup (j := 0) (d := .str "new") (xs := [.str "new", fmv f]) rfl ?_
    push_cast [wn.2.1, Bool.false_eq_true, if_false, b_Known_length_2, x.hd, l_l, fl, true_and]
    refine k_subLs hL hcur ?_
    rw [w]
    refine k_tup (j := 1) (d := fmv f) (xs := [.str "new", fmv f]) rfl ?_
    rw [← hV, L_nw e] at q
    exact q
theorem find_none_take {K : Kd} {num : Nat} {f : Fm} {i : Nat} (h : ∀ c ∈ K.cs.take i, ¬ (c.1 = num ∧ c.2.1 = f)) {c : Ce} (hc : K.cs[i]? = some c) (hy : c.1 = num ∧ c.2.1 = f) : K.find num f = some c.2.2 := by
  unfold Kd.find
  have e : K.cs = K.cs.take i ++ (c :: K.cs.drop (i + 1)) := by
    obtain ⟨h1, h2⟩ := List.getElem?_eq_some_iff.mp hc
    rw [← h2, ← List.drop_eq_getElem_cons h1, List.take_append_drop]
  rw [e, List.find?_append]
  have : (K.cs.take i).find? (fun c => decide (c.1 = num ∧ c.2.1 = f)) = none := List.find?_eq_none.mpr fun x hx => by simpa using h x hx
  rw [this, List.find?_cons, decide_eq_true hy]
  rfl
theorem find_none_all {K : Kd} {num : Nat} {f : Fm} (h : ∀ c ∈ K.cs, ¬ (c.1 = num ∧ c.2.1 = f)) : K.find num f = none := by
  unfold Kd.find
  rw [List.find?_eq_none.mpr fun x hx => by simpa using h x hx]
  rfl
theorem mem_take_succ {α : Type} {l : List α} {i : Nat} {a b : α} (h : l[i]? = some a) (m : b ∈ l.take (i + 1)) : b ∈ l.take i ∨ b = a := by
  rw [List.take_succ, h] at m
  rcases List.mem_append.mp m with m | m
  · exact .inl m
  · exact .inr (by simpa using m)
theorem cell_ok {n : Nat} {h : AHeap} {o : Nat} {K : Kd} {num : Nat} {f : Fm} {Q} (x : Ob h o K) (hc : K.cs.length ≤ 1000) (q : ∀ h', Ob h' o (K.have num f) → Fr o 6 h h' → h'.length = h.length → Q (fmv (K.val num f)) h') : callN P (n+2) 198 [.adr o, .int (num : Int), fmv f] h Q := by
  refine call_of U.f_Known_cell rfl ?_
  show WpSs (ctxOf P (callN P (n+1))) b_Known_cell _ [.val (.adr o), .val (.int num), .val (fmv f), .no, .no, .no] h
  have hC : viewT h (.adr (o + 3)) = some (K.cs.map cev) := view_adr x.c
  have hz : sizeLine = 16777216 := rfl
  push_cast [b_Known_cell, x.hd, l_c, fc, true_and, hC]
  refine for_inv (fun i ρ h' => h' = h ∧ (∀ c ∈ K.cs.take i, ¬ (c.1 = num ∧ c.2.1 = f)) ∧ ∃ s3 s4 s5, ρ = [.val (.adr o), .val (.int num), .val (fmv f), s3, s4, s5]) ⟨rfl, (fun _ z => by cases z), _, _, _, rfl⟩ (fun _ _ _ _ z => by rw [z.1]; exact hC) ?_ ?_
  · rintro i y _ h D' hx ⟨rfl, hno, s3, s4, s5, rfl⟩ kn kc kr kb
    obtain ⟨c, hci, rfl⟩ := items_map hx
    have next : ¬ (c.1 = num ∧ c.2.1 = f) → ∀ d ∈ K.cs.take (i + 1), ¬ (d.1 = num ∧ d.2.1 = f) := fun hn d hd => by
      rcases mem_take_succ hci hd with hd | rfl
      · exact hno d hd
      · exact hn
    push_cast [b_Known_cell_1, cev]
    refine ite_b (fun c1 => ?_) (fun c1 => ?_)
    · refine k_eqF ?_
      refine ite_b (fun c2 => ?_) (fun c2 => kn _ _ ⟨rfl, next (fun z => c2 z.2), _, _, _, rfl⟩)
      have e := find_none_take hno hci ⟨by omega, c2⟩
      refine kr _ _ ?_
      have := q h (by rw [(have_find e).1]; exact x) Fr.refl rfl
      rw [(have_find e).2] at this
      exact this
    · push_cast [Bool.false_eq_true, if_false]
      exact kn _ _ ⟨rfl, next (fun z => c1 (by omega)), _, _, _, rfl⟩
  · rintro _ h ⟨rfl, hno, s3, s4, s5, rfl⟩
    rw [List.length_map, List.take_length] at hno
    have e := find_none_all hno
    push_cast [b_Known_cell_2, x.hd, n_new, me_new]
    refine new_number_ok x fun h1 x1 fr1 el => ?_
    have hC1 := x1.c
    have hd1 := x1.hd
    have lt1 := x1.lt
    push_cast [hd1, l_c, fc, true_and, hC1]
    refine ⟨by show 3 ≤ sizeLine; decide, ?_⟩
    have ec : AV.tup [.int (num : Int), fmv f, fmv (K.m + 1, 0)] = cev (num, f, (K.m + 1, 0)) := rfl
    push_cast [hC1, appC, ec, ce_one]
    refine ⟨by rw [List.length_map]; omega, ?_⟩
    have := q (h1.set (o + 3) (.lst ((K.cs ++ [(num, f, (K.m + 1, 0))]).map cev))) ?_ (fr1.trans (Fr.set (by omega) (by omega))) (by simp [el])
    · rw [(have_none e).2] at this
      exact this
    · rw [(have_none e).1]
      exact ⟨(cells_put (by omega)).trans x1.hd, (cells_put (by omega)).trans x1.d, (cells_put (by omega)).trans x1.l, cells_set (by omega), (cells_put (by omega)).trans x1.t, (cells_put (by omega)).trans x1.f⟩
theorem twin_ok {n : Nat} {h : AHeap} {o : Nat} {K : Kd} {Q} (x : Ob h o K) (q : Q (.adr h.length) (h ++ oH h.length K)) : callN P (n+2) 199 [.adr o] h Q := by
  refine call_of U.f_Known_twin rfl ?_
  show WpSs (ctxOf P (callN P (n+1))) b_Known_twin _ [.val (.adr o)] h
  push_cast [b_Known_twin, x.hd, l_m, l_d, l_l, l_c, l_t, l_f, fm, fd, fl, fc, ft, ff, true_and]
  exact make_ok (view_adr x.d) (view_adr x.l) (view_adr x.c) (view_adr x.t) (view_adr x.f) q
/-! ### named indexes -/
def nk (f : Fm) : NK := [.inl (f.1 : Int), .inl f.2]
def nkv (f : Fm) : NK × AV := (nk f, .bl true)
theorem nk_of (f : Fm) : nkOf (fmv f) = some (nk f) := rfl
theorem nk_inj {f g : Fm} : nk f = nk g ↔ f = g := by
  constructor
  · intro h
    unfold nk at h
    injection h with h1 h2
    injection h2 with h2 _
    have h1 := Sum.inl.inj h1
    have h2 := Sum.inl.inj h2
    exact Prod.ext (by omega) h2
  · intro h; rw [h]
theorem put_nk (l : List Fm) (f : Fm) : putNK (l.map nkv) (nk f) (.bl true) = (addO l f).map nkv := by
  unfold putNK addO
  have e : ((l.map nkv).any fun kv => decide (kv.1 = nk f)) = decide (f ∈ l) := by
    rw [Bool.eq_iff_iff, List.any_eq_true, decide_eq_true_iff]
    constructor
    · rintro ⟨kv, h1, h2⟩
      obtain ⟨g, hg, rfl⟩ := List.mem_map.mp h1
      have : g = f := nk_inj.mp (of_decide_eq_true h2)
      rw [← this]; exact hg
    · intro h
      exact ⟨nkv f, List.mem_map.mpr ⟨f, h, rfl⟩, decide_eq_true rfl⟩
  rw [e]
  by_cases c : f ∈ l
  · rw [if_pos c, if_pos (decide_eq_true c)]
    rw [List.map_map]
    apply List.map_congr_left
    intro g _
    show (if (nkv g).1 = nk f then ((nkv g).1, AV.bl true) else nkv g) = nkv g
    split <;> rfl
  · rw [if_neg c, if_neg (by simpa using c), List.map_append]
    rfl
theorem nk_list (l : List Fm) : (l.map nkv).map (fun kv => nkA kv.1) = l.map fmv := by rw [List.map_map]; rfl
theorem ground_glob {n : Nat} : P.glob.lookup 9 = some (.tup [.int 0, .int 0]) := U.g_GROUND
theorem ks : decide (("either" : Str) = "either") = true ∧ decide (("below" : Str) = "below") = true ∧ decide (("either" : Str) = "below") = false ∧ decide (("all" : Str) = "below") = false ∧ decide (("match" : Str) = "below") = false ∧ decide (("sorted" : Str) = "below") = false := by decide +kernel
theorem fm_one (l : List Fm) (f : Fm) : l.map fmv ++ [fmv f] = (l ++ [f]).map fmv := by rw [List.map_append]; rfl
theorem fm_app (l k : List Fm) : l.map fmv ++ k.map fmv = (l ++ k).map fmv := by rw [List.map_append]
theorem pr_kind {p : Pr} : ∃ s xs, prv p = .tup (.str s :: xs) := by
  cases p <;> exact ⟨_, _, rfl⟩
/-- a promise's part of the walk -/
theorem named_ok {n : Nat} {h : AHeap} {o : Nat} {K : Kd} {Q} (x : Ob h o K) (ok : K.Ok) (q : Q (.adr (h.length + 1)) (h ++ [.dctN (K.idx.map nkv), .lst (K.idx.map fmv)])) : callN P (n+2) 190 [.adr o] h Q := by
  refine call_of U.f_named_indexes rfl ?_
  show WpSs (ctxOf P (callN P (n+1))) b_named_indexes _ [.val (.adr o), .no, .no, .no, .no, .no, .no, .no] h
  have hz : sizeLine = 16777216 := rfl
  have hC : viewT h (.adr (o + 3)) = some (K.cs.map cev) := view_adr x.c
  have hL : viewT h (.adr (o + 2)) = some (K.ls.map lsv) := view_adr x.l
  have hT : viewT h (.adr (o + 4)) = some (K.ps.map prv) := view_adr x.t
  have hF : viewT h (.adr (o + 5)) = some (K.fr.map fmv) := view_adr x.f
  have l1 := ok.fl; have l2 := ok.cl; have l3 := ok.ll; have l4 := ok.pl
  push_cast [b_named_indexes, x.hd, l_f, l_c, l_l, ff, fc, fl, true_and, hF, hC, hL]
  refine ⟨by rw [List.length_map]; omega, ?_⟩
  refine comp_list (g := cev) (f := fun c => fmv c.2.1) hC (fun c _ R r => by push_cast [cev, if_true]; exact r) ?_
  have e1 : K.cs.map (fun c => fmv c.2.1) = (K.cs.map (·.2.1)).map fmv := by rw [List.map_map]; rfl
  push_cast [viewW_lst, e1, fm_app]
  refine ⟨by simp only [List.length_map, List.length_append, List.length_cons, List.length_nil]; omega, ?_⟩
  push_cast [x.hd, l_l, fl, true_and, hL]
  refine for_inv (fun i ρ h' => h' = h ∧ ∃ s2 s5 s6 s7, ρ = [.val (.adr o), .own (.lst ((K.fr ++ K.cs.map (·.2.1) ++ (K.ls.take i).flatMap lsF).map fmv)), s2, .no, .no, s5, s6, s7]) ⟨rfl, .no, .no, .no, .no, by rw [List.take_zero, List.flatMap_nil, List.append_nil]⟩ (fun _ _ _ _ z => by rw [z.1]; exact hL) ?_ ?_
  · rintro i y _ h D' hx ⟨rfl, s2, s5, s6, s7, rfl⟩ kn kc kr kb
    obtain ⟨l, hl, rfl⟩ := items_map hx
    have hlt := (List.getElem?_eq_some_iff.mp hl).1
    have fln := flat_len lsF_len (K.ls.take i)
    rw [List.length_take] at fln
    push_cast [b_named_indexes_1]
    cases l with
    | wr b f v =>
      refine k_tup (j := 0) (d := .str "written") (xs := [.str "written", .int (b : Int), fmv f, fmv v]) rfl ?_
      push_cast [decide_true, if_true]
      refine k_tup (j := 2) (d := fmv f) (xs := [.str "written", .int (b : Int), fmv f, fmv v]) rfl ?_
      refine k_tup (j := 2) (d := fmv f) (xs := [.str "written", .int (b : Int), fmv f, fmv v]) rfl ?_
      refine shifted_ok ?_
      have e2 : [fmv f, fmv (f.1, f.2 + 1)] = (lsF (.wr b f v)).map fmv := rfl
      refine ⟨by show 2 ≤ sizeLine; decide, ?_⟩
      push_cast [e2, viewW_lst, fm_app]
      refine ⟨by simp [lsF] at fln ⊢; omega, ?_⟩
      rw [List.append_assoc (K.fr ++ _), ← flat_take hl]
      exact kn _ _ ⟨rfl, _, _, _, _, rfl⟩
    | nw f =>
      refine k_tup (j := 0) (d := .str "new") (xs := [.str "new", fmv f]) rfl ?_
      push_cast [wn.2.1, Bool.false_eq_true, if_false]
      have e6 : (K.ls.take (i + 1)).flatMap lsF = (K.ls.take i).flatMap lsF := by rw [flat_take hl]; simp [lsF]
      rw [← e6]
      exact kn _ _ ⟨rfl, _, _, _, _, rfl⟩
  · rintro _ h ⟨rfl, s2, s5, s6, s7, rfl⟩
    rw [List.length_map, List.take_length]
    generalize eB : K.fr ++ K.cs.map (·.2.1) ++ K.ls.flatMap lsF = B
    have bl : B.length ≤ 350 := by
      rw [← eB]
      have := flat_len lsF_len K.ls
      simp only [List.length_map, List.length_append, List.length_cons, List.length_nil]; omega
    push_cast [b_named_indexes_7, x.hd, l_t, ft, true_and, hT]
    refine for_inv (fun i ρ h' => h' = h ∧ ∃ s3, ρ = [.val (.adr o), .own (.lst ((B ++ (K.ps.take i).flatMap prF).map fmv)), s2, s3, .no, s5, s6, s7]) ⟨rfl, .no, by rw [List.take_zero, List.flatMap_nil, List.append_nil]⟩ (fun _ _ _ _ z => by rw [z.1]; exact hT) ?_ ?_
    · rintro i y _ h D' hx ⟨rfl, s3, rfl⟩ kn kc kr kb
      obtain ⟨p, hp, rfl⟩ := items_map hx
      have hlt := (List.getElem?_eq_some_iff.mp hp).1
      have fln := flat_len prF_len (K.ps.take i)
      rw [List.length_take] at fln
      have e3 : ∀ l : List Fm, prF p = l → B ++ (K.ps.take i).flatMap prF ++ l = B ++ (K.ps.take (i + 1)).flatMap prF := fun l hl => by rw [flat_take hp, hl, List.append_assoc]
      push_cast [b_named_indexes_3]
      cases p with
      | eit ws =>
        refine k_tup (j := 0) (d := .str "either") (xs := [.str "either", .tup (ws.map fun w => .tup (w.map td))]) rfl ?_
        push_cast [k_neS, ks, decide_true, Bool.not_true, Bool.false_eq_true, if_false, b_named_indexes_2]
        refine k_tup (j := 0) (d := .str "either") (xs := [.str "either", .tup (ws.map fun w => .tup (w.map td))]) rfl ?_
        push_cast [ks, Bool.false_eq_true, if_false]
        have e6 := e3 [] rfl
        rw [List.append_nil] at e6
        rw [e6]
        exact kn _ _ ⟨rfl, _, rfl⟩
      | all num lo hi sg f =>
        refine k_tup (j := 0) (d := .str "all") (xs := [.str "all", .int (num : Int), fmv lo, fmv hi, .str (sgS sg), fmv f]) rfl ?_
        push_cast [k_neS, ps, Bool.not_false, if_true]
        refine k_tup (j := 2) (d := fmv lo) (xs := [.str "all", .int (num : Int), fmv lo, fmv hi, .str (sgS sg), fmv f]) rfl ?_
        refine ⟨by simp only [List.length_map, List.length_append, List.length_cons, List.length_nil]; omega, ?_⟩
        push_cast [b_named_indexes_2, fm_one]
        refine k_tup (j := 0) (d := .str "all") (xs := [.str "all", .int (num : Int), fmv lo, fmv hi, .str (sgS sg), fmv f]) rfl ?_
        push_cast [ks, Bool.false_eq_true, if_false]
        rw [e3 [lo] rfl]
        exact kn _ _ ⟨rfl, _, rfl⟩
      | mat num lo hi sg oo pl =>
        refine k_tup (j := 0) (d := .str "match") (xs := [.str "match", .int (num : Int), fmv lo, fmv hi, .str (sgS sg), .int (oo : Int), .int pl]) rfl ?_
        push_cast [k_neS, ps, Bool.not_false, if_true]
        refine k_tup (j := 2) (d := fmv lo) (xs := [.str "match", .int (num : Int), fmv lo, fmv hi, .str (sgS sg), .int (oo : Int), .int pl]) rfl ?_
        refine ⟨by simp only [List.length_map, List.length_append, List.length_cons, List.length_nil]; omega, ?_⟩
        push_cast [b_named_indexes_2, fm_one]
        refine k_tup (j := 0) (d := .str "match") (xs := [.str "match", .int (num : Int), fmv lo, fmv hi, .str (sgS sg), .int (oo : Int), .int pl]) rfl ?_
        push_cast [ks, Bool.false_eq_true, if_false]
        rw [e3 [lo] rfl]
        exact kn _ _ ⟨rfl, _, rfl⟩
      | srt num lo hi =>
        refine k_tup (j := 0) (d := .str "sorted") (xs := [.str "sorted", .int (num : Int), fmv lo, fmv hi]) rfl ?_
        push_cast [k_neS, ps, Bool.not_false, if_true]
        refine k_tup (j := 2) (d := fmv lo) (xs := [.str "sorted", .int (num : Int), fmv lo, fmv hi]) rfl ?_
        refine ⟨by simp only [List.length_map, List.length_append, List.length_cons, List.length_nil]; omega, ?_⟩
        push_cast [b_named_indexes_2, fm_one]
        refine k_tup (j := 0) (d := .str "sorted") (xs := [.str "sorted", .int (num : Int), fmv lo, fmv hi]) rfl ?_
        push_cast [ks, Bool.false_eq_true, if_false]
        rw [e3 [lo] rfl]
        exact kn _ _ ⟨rfl, _, rfl⟩
      | blw num lo hi oo low high =>
        refine k_tup (j := 0) (d := .str "below") (xs := [.str "below", .int (num : Int), fmv lo, fmv hi, .int (oo : Int), fmv low, fmv high]) rfl ?_
        push_cast [k_neS, ps, Bool.not_false, if_true]
        refine k_tup (j := 2) (d := fmv lo) (xs := [.str "below", .int (num : Int), fmv lo, fmv hi, .int (oo : Int), fmv low, fmv high]) rfl ?_
        refine ⟨by simp only [List.length_map, List.length_append, List.length_cons, List.length_nil]; omega, ?_⟩
        push_cast [b_named_indexes_2, fm_one]
        refine k_tup (j := 0) (d := .str "below") (xs := [.str "below", .int (num : Int), fmv lo, fmv hi, .int (oo : Int), fmv low, fmv high]) rfl ?_
        push_cast [decide_true, if_true]
        refine k_tup (j := 5) (d := fmv low) (xs := [.str "below", .int (num : Int), fmv lo, fmv hi, .int (oo : Int), fmv low, fmv high]) rfl ?_
        refine ⟨by simp only [List.length_map, List.length_append, List.length_cons, List.length_nil]; omega, ?_⟩
        push_cast [fm_one]
        rw [List.append_assoc _ [lo] [low]]
        have e6 := e3 ([lo] ++ [low]) rfl
        rw [e6]
        exact kn _ _ ⟨rfl, _, rfl⟩
    · rintro _ h ⟨rfl, s3, rfl⟩
      rw [List.length_map, List.take_length]
      have pln := flat_len prF_len K.ps
      push_cast [b_named_indexes_6, ground_glob (P := P) (n := n)]
      refine ⟨by simp only [List.length_map, List.length_append, List.length_cons, List.length_nil]; omega, ?_⟩
      have e4 : (B ++ K.ps.flatMap prF).map fmv ++ [.tup [.int 0, .int 0]] = K.found.map fmv := by
        unfold Kd.found
        rw [eB, List.map_append (l₂ := [(0, 0)])]
        rfl
      have fln := found_len ok
      push_cast [e4, viewT_lst]
      refine for_inv (fun i ρ h' => h' = h ++ [.dctN ((once (K.found.take i)).map nkv)] ∧ ∃ s5, ρ = [.val (.adr o), .val (.lst (K.found.map fmv)), s2, s3, .val (.adr h.length), s5, s6, s7]) ⟨rfl, _, rfl⟩ (fun _ _ _ _ _ => by trivial) ?_ ?_
      · rintro i y _ _ D' hx ⟨rfl, s5, rfl⟩ kn kc kr kb
        obtain ⟨f, hf, rfl⟩ := items_map hx
        have ol := once_len (K.found.take i)
        rw [List.length_take] at ol
        push_cast [b_named_indexes_4, cells_at0, List.getElem?_cons_zero, Option.getD_some, putC, nk_of, put_nk, set_at0, List.set_cons_zero]
        refine ⟨by rw [List.length_map]; omega, kn _ _ ⟨by rw [once_take hf], _, rfl⟩⟩
      · rintro _ _ ⟨rfl, s5, rfl⟩
        rw [List.length_map, List.take_length]
        have ev : viewT (h ++ [Cell.dctN ((once K.found).map nkv)]) (.adr h.length) = none := by
          show view _ (.adr h.length) = none
          simp only [view, cells_at0, List.getElem?_cons_zero, Option.getD_some]
        have en : viewN (h ++ [Cell.dctN ((once K.found).map nkv)]) (.adr h.length) = some ((once K.found).map nkv) := by
          simp only [viewN, cells_at0, List.getElem?_cons_zero, Option.getD_some]
        push_cast [b_named_indexes_5, ev, en, nk_list, List.append_assoc, List.cons_append, List.nil_append, List.length_append, List.length_cons, List.length_nil]
        exact q
end
end Kn

set_option maxRecDepth 100000
set_option maxHeartbeats 400000
/-! what repr and == ask of data -/
namespace Ks
open PySem L2 VL
/-- may be shown and compared, with a weight of at most w and a depth of at most d -/
structure Sh (p : PyData) (w d : Nat) : Prop where
  l : p.leavesShort 151 = true
  w : p.weight ≤ w
  s : p.showable = true
  n : p.hasDict = false
  d : p.depth ≤ d
  c : p.canLay0 = true
structure ShA (p : List PyData) (w d : Nat) : Prop where
  l : PyData.leavesShortAll 151 p = true
  w : PyData.weightAll p ≤ w
  s : PyData.showableAll p = true
  n : PyData.hasDictAll p = false
  d : PyData.depthAll p ≤ d
  c : PyData.canLayAll0 p = true
theorem ShA.nil {d : Nat} : ShA [] 0 d := ⟨rfl, Nat.le_refl _, rfl, rfl, Nat.zero_le _, rfl⟩
theorem ShA.cons {p : PyData} {ps : List PyData} {w v d : Nat} (a : Sh p w d) (b : ShA ps v d) : ShA (p :: ps) (w + 1 + v) d := by
  refine ⟨?_, ?_, ?_, ?_, ?_, ?_⟩
  · simp only [PyData.leavesShortAll, a.l, b.l, Bool.and_self]
  · simp only [PyData.weightAll]
    have := a.w; have := b.w
    omega
  · simp only [PyData.showableAll, a.s, b.s, Bool.and_self]
  · simp only [PyData.hasDictAll, a.n, b.n, Bool.or_self]
  · simp only [PyData.depthAll]
    exact Nat.max_le.mpr ⟨a.d, b.d⟩
  · simp only [PyData.canLayAll0, a.c, b.c, Bool.and_self]
theorem ShA.mapM {α : Type} {f : α → PyData} {w d : Nat} : ∀ {xs : List α}, (∀ x ∈ xs, Sh (f x) w d) → ShA (xs.map f) (xs.length * (w + 1)) d
  | [], _ => by
    rw [List.length_nil, Nat.zero_mul]
    exact .nil
  | x :: xs, h => by
    have b := ShA.cons (h x (List.mem_cons_self ..)) (ShA.mapM fun y hy => h y (List.mem_cons_of_mem _ hy))
    rw [List.length_cons, Nat.succ_mul, Nat.add_comm]
    exact b
theorem ShA.list {p : List PyData} {w d : Nat} (a : ShA p w d) : Sh (.list p) w (d + 1) := ⟨by simp only [PyData.leavesShort]; exact a.l, by simp only [PyData.weight]; exact a.w, by simp only [PyData.showable]; exact a.s, by simp only [PyData.hasDict]; exact a.n, by simp only [PyData.depth]; exact Nat.succ_le_succ a.d, by simp only [PyData.canLay0]; exact a.c⟩
theorem ShA.tup {p : List PyData} {w d : Nat} (a : ShA p w d) : Sh (.tuple p) w (d + 1) := ⟨by simp only [PyData.leavesShort]; exact a.l, by simp only [PyData.weight]; exact a.w, by simp only [PyData.showable]; exact a.s, by simp only [PyData.hasDict]; exact a.n, by simp only [PyData.depth]; exact Nat.succ_le_succ a.d, by simp only [PyData.canLay0]; exact a.c⟩
theorem Sh.mono {p : PyData} {w w' d d' : Nat} (a : Sh p w d) (h1 : w ≤ w') (h2 : d ≤ d') : Sh p w' d' := ⟨a.l, Nat.le_trans a.w h1, a.s, a.n, Nat.le_trans a.d h2, a.c⟩
theorem ShA.mono {p : List PyData} {w w' d d' : Nat} (a : ShA p w d) (h1 : w ≤ w') (h2 : d ≤ d') : ShA p w' d' := ⟨a.l, Nat.le_trans a.w h1, a.s, a.n, Nat.le_trans a.d h2, a.c⟩
theorem log64 {i : Int} (h1 : -18000000000000000000 ≤ i) (h2 : i ≤ 18000000000000000000) : i.natAbs.log2 < 64 := by
  have : i.natAbs < 2 ^ 64 := by
    have e : (2 ^ 64 : Nat) = 18446744073709551616 := by decide
    omega
  exact PySem.Flt.log2_lt_of (by decide : 0 < 64) this
theorem Sh.int {i : Int} {d : Nat} (h1 : -18000000000000000000 ≤ i) (h2 : i ≤ 18000000000000000000) : Sh (.int i) 64 d := by
  have h := log64 h1 h2
  refine ⟨?_, ?_, ?_, rfl, Nat.zero_le _, rfl⟩
  · simp only [PyData.leavesShort, decide_eq_true_eq]
    show (Str.ofString (toString i)).length ≤ 151
    rw [PySem.ofString_length]
    exact PySem.int_text_length_le (k := 150) (by decide) (by omega)
  · simp only [PyData.weight]
    split <;> omega
  · simp only [PyData.showable, decide_eq_true_eq]
    omega
theorem Sh.ok {p : PyData} {w d : Nat} (a : Sh p w d) (h : w ≤ 100000) (h2 : d ≤ 50) : p.showable = true ∧ p.hasDict = false ∧ p.depth ≤ 50 ∧ p.shown.length ≤ sizeLine := by
  refine ⟨a.s, a.n, Nat.le_trans a.d h2, ?_⟩
  have s := PyData.shown_le 151 (by decide) _ a.l
  have hz1 : sizeLine = 16777216 := rfl
  have := a.w
  omega
theorem Sh.shaped {p : PyData} {w d : Nat} (a : Sh p w d) (h2 : d ≤ 50) : SeqAt.shaped p = true := by
  unfold SeqAt.shaped
  rw [Bool.and_eq_true]
  exact ⟨a.c, decide_eq_true (by have := a.d; omega)⟩
theorem k_repr {h : AHeap} {x : AV} {d : PyData} {Q : KA} (e : pdH h x = some d) (c : d.showable = true ∧ d.hasDict = false ∧ d.depth ≤ 50 ∧ d.shown.length ≤ sizeLine) (q : Q (.str d.shown)) : bltK h .repr [x] Q := by
  unfold bltK
  simp only [e]
  exact ⟨c, q⟩
theorem k_eqP {h : AHeap} {x y : AV} {d e : PyData} {w v : Nat} {Q : KA} (hx : pdH h x = some d) (hy : pdH h y = some e) (a : Sh d w 50) (b : Sh e v 50) (q : Q (.bl (PyData.eqv d e))) : eqGen h false x y Q := by
  unfold eqGen
  rw [hx, hy]
  exact ⟨a.shaped (Nat.le_refl _), b.shaped (Nat.le_refl _), q⟩
theorem k_neP {h : AHeap} {x y : AV} {d e : PyData} {w v : Nat} {Q : KA} (hx : pdH h x = some d) (hy : pdH h y = some e) (a : Sh d w 50) (b : Sh e v 50) (q : Q (.bl (!PyData.eqv d e))) : eqGen h true x y Q := by
  unfold eqGen
  rw [hx, hy]
  exact ⟨a.shaped (Nat.le_refl _), b.shaped (Nat.le_refl _), q⟩
theorem k_eqTT {h : AHeap} {xs ys : List AV} {Q : KA} : cmpK h .Eq (.tup xs) (.tup ys) Q = eqGen h false (.tup xs) (.tup ys) Q := rfl
theorem k_neTT {h : AHeap} {xs ys : List AV} {Q : KA} : cmpK h .NotEq (.tup xs) (.tup ys) Q = eqGen h true (.tup xs) (.tup ys) Q := rfl
/-! ### knowns -/
open Kv
def fmp (f : Fm) : PyData := .tuple [.int (f.1 : Int), .int f.2]
def tdp (t : Td) : PyData := .tuple [.int (t.1 : Int), .int (t.2.1 : Int), .int t.2.2]
def lsp : Ls → PyData
  | .wr b i v => .tuple [.str "written", .int (b : Int), fmp i, fmp v]
  | .nw f => .tuple [.str "new", fmp f]
def cep (c : Ce) : PyData := .tuple [.int (c.1 : Int), fmp c.2.1, fmp c.2.2]
def prp : Pr → PyData
  | .eit ws => .tuple [.str "either", .tuple (ws.map fun w => .tuple (w.map tdp))]
  | .all n lo hi s f => .tuple [.str "all", .int (n : Int), fmp lo, fmp hi, .str (sgS s), fmp f]
  | .mat n lo hi s o p => .tuple [.str "match", .int (n : Int), fmp lo, fmp hi, .str (sgS s), .int (o : Int), .int p]
  | .srt n lo hi => .tuple [.str "sorted", .int (n : Int), fmp lo, fmp hi]
  | .blw n lo hi o low high => .tuple [.str "below", .int (n : Int), fmp lo, fmp hi, .int (o : Int), fmp low, fmp high]
theorem pds_map {α : Type} {f : α → AV} {g : α → PyData} (e : ∀ x, pd (f x) = some (g x)) : ∀ xs : List α, pds (xs.map f) = some (xs.map g)
  | [] => rfl
  | x :: xs => by
    show (pd (f x)).bind (fun d => (pds (xs.map f)).map (d :: ·)) = _
    rw [e, pds_map e xs]; rfl
theorem pd_fm (f : Fm) : pd (fmv f) = some (fmp f) := by
  simp only [fmv, fmp, pd, pds, Option.bind_some, Option.map_some]
theorem pd_td (t : Td) : pd (td t) = some (tdp t) := by
  simp only [td, tdp, pd, pds, Option.bind_some, Option.map_some]
theorem pd_ls (l : Ls) : pd (lsv l) = some (lsp l) := by
  cases l <;> simp only [lsv, lsp, pd, pds, pd_fm, Option.bind_some, Option.map_some]
theorem pd_ce (c : Ce) : pd (cev c) = some (cep c) := by
  simp only [cev, cep, pd, pds, pd_fm, Option.bind_some, Option.map_some]
theorem pd_pr (p : Pr) : pd (prv p) = some (prp p) := by
  cases p with
  | eit ws =>
    have e : ∀ w : List Td, pd (.tup (w.map td)) = some (.tuple (w.map tdp)) := fun w => by simp only [pd, pds_map pd_td, Option.map_some]
    simp only [prv, prp, pd, pds, pds_map e, Option.bind_some, Option.map_some]
  | _ => simp only [prv, prp, pd, pds, pd_fm, Option.bind_some, Option.map_some]
mutual
theorem pd_pdH (h : AHeap) : ∀ {x : AV} {d : PyData}, pd x = some d → pdH h x = some d
  | .non, _, e => by simpa [pd, pdH] using e
  | .bl b, _, e => by simpa [pd, pdH] using e
  | .int i, _, e => by simpa [pd, pdH] using e
  | .str s, _, e => by simpa [pd, pdH] using e
  | .tup xs, d, e => by
    simp only [pd] at e
    obtain ⟨ds, e1, rfl⟩ := Option.map_eq_some_iff.mp e
    simp only [pdH, pds_pdH h e1, Option.map_some]
  | .lst xs, d, e => by
    simp only [pd] at e
    obtain ⟨ds, e1, rfl⟩ := Option.map_eq_some_iff.mp e
    simp only [pdH, pds_pdH h e1, Option.map_some]
  | .ro xs, d, e => by
    simp only [pd] at e
    obtain ⟨ds, e1, rfl⟩ := Option.map_eq_some_iff.mp e
    simp only [pdH, pds_pdH h e1, Option.map_some]
  | .dct _, _, e => by simp [pd] at e
  | .adr _, _, e => by simp [pd] at e
theorem pds_pdH (h : AHeap) : ∀ {xs : List AV} {ds : List PyData}, pds xs = some ds → pdHs h xs = some ds
  | [], _, e => by simpa [pds, pdHs] using e
  | x :: xs, d, e => by
    simp only [pds] at e
    obtain ⟨d1, e1, e2⟩ := Option.bind_eq_some_iff.mp e
    obtain ⟨ds, e3, rfl⟩ := Option.map_eq_some_iff.mp e2
    simp only [pdHs, pd_pdH h e1, pds_pdH h e3, Option.bind_some, Option.map_some]
end
/-- a list, wherever it stands -/
theorem pdH_view {h : AHeap} {x : AV} {xs : List AV} {ds : List PyData} (v : view h x = some xs) (e : pds xs = some ds) : pdH h x = some (.list ds) := by
  cases x <;> simp only [view] at v <;> try cases v
  · simp only [pdH, pds_pdH h e, Option.map_some]
  · simp only [pdH, pds_pdH h e, Option.map_some]
  · rename_i n
    simp only [pdH]
    split at v
    · cases v
      simp only [*, Option.map_some]
    · cases v
theorem sh_str {s : Str} {w d : Nat} (h1 : (PyData.str s).leavesShort 151 = true) (h2 : (PyData.str s).weight ≤ w) (h3 : (PyData.str s).canLay0 = true) : Sh (.str s) w d := ⟨h1, h2, rfl, rfl, Nat.zero_le _, h3⟩
theorem sh_written {d : Nat} : Sh (.str "written") 20 d := sh_str (by decide +kernel) (by decide +kernel) (by decide +kernel)
theorem sh_new {d : Nat} : Sh (.str "new") 20 d := sh_str (by decide +kernel) (by decide +kernel) (by decide +kernel)
theorem sh_either {d : Nat} : Sh (.str "either") 20 d := sh_str (by decide +kernel) (by decide +kernel) (by decide +kernel)
theorem sh_all {d : Nat} : Sh (.str "all") 20 d := sh_str (by decide +kernel) (by decide +kernel) (by decide +kernel)
theorem sh_match {d : Nat} : Sh (.str "match") 20 d := sh_str (by decide +kernel) (by decide +kernel) (by decide +kernel)
theorem sh_sorted {d : Nat} : Sh (.str "sorted") 20 d := sh_str (by decide +kernel) (by decide +kernel) (by decide +kernel)
theorem sh_below {d : Nat} : Sh (.str "below") 20 d := sh_str (by decide +kernel) (by decide +kernel) (by decide +kernel)
theorem sh_sg {s : Sg} {d : Nat} : Sh (.str (sgS s)) 20 d := by cases s <;> exact sh_str (by decide +kernel) (by decide +kernel) (by decide +kernel)
theorem sh_nat {n : Nat} (h : n ≤ 100000) {d : Nat} : Sh (.int (n : Int)) 64 d := Sh.int (by omega) (by omega)
theorem sh_fm {m : Nat} {f : Fm} (hm : m ≤ 100000) (h : XIn m f) : Sh (fmp f) 130 1 := by
  have := h.1; have := h.2
  exact ((ShA.cons (sh_nat (n := f.1) (by omega)) (ShA.cons (Sh.int (i := f.2) (by omega) (by omega)) (ShA.nil (d := 0)))).tup).mono (by omega) (by omega)
theorem sh_td {m : Nat} {t : Td} (hm : m ≤ 100000) (h : TIn m t) : Sh (tdp t) 195 1 := by
  have := h.1; have := h.2.1; have := h.2.2
  exact ((ShA.cons (sh_nat (n := t.1) (by omega)) (ShA.cons (sh_nat (n := t.2.1) (by omega)) (ShA.cons (Sh.int (i := t.2.2) (by omega) (by omega)) (ShA.nil (d := 0))))).tup).mono (by omega) (by omega)
theorem sh_ls {m : Nat} {ls : List Ls} {l : Ls} (hm : m ≤ 100000) (hl : ls.length ≤ 1000) (h : LIn m ls) (hm2 : l ∈ ls) : Sh (lsp l) 400 2 := by
  obtain ⟨n, hn⟩ := List.mem_iff_getElem?.mp hm2
  have hlt := (List.getElem?_eq_some_iff.mp hn).1
  have := h n l hn
  cases l with
  | wr b i v =>
    obtain ⟨h1, h2, h3⟩ := this
    exact ((ShA.cons sh_written (ShA.cons (sh_nat (n := b) (by omega)) (ShA.cons (sh_fm hm h2.x) (ShA.cons (sh_fm hm h3.x) .nil)))).tup).mono (by omega) (by omega)
  | nw f => exact ((ShA.cons sh_new (ShA.cons (sh_fm hm (FIn.x this)) .nil)).tup).mono (by omega) (by omega)
theorem sh_ce {m nl : Nat} {c : Ce} (hm : m ≤ 100000) (hl : nl ≤ 1000) (h : CIn m nl c) : Sh (cep c) 400 2 := by
  obtain ⟨h1, h2, h3⟩ := h
  exact ((ShA.cons (sh_nat (n := c.1) (by omega)) (ShA.cons (sh_fm hm h2.x) (ShA.cons (sh_fm hm h3.x) .nil))).tup).mono (by omega) (by omega)
theorem sh_pr {m nl : Nat} {p : Pr} (hm : m ≤ 100000) (hl : nl ≤ 1000) (h : PIn m nl p) : Sh (prp p) 3400 4 := by
  cases p with
  | eit ws =>
    obtain ⟨_, h1, h2⟩ := h
    have hw : ∀ w ∈ ws, Sh (.tuple (w.map tdp)) 800 2 := fun w hw => by
      obtain ⟨g1, g2⟩ := h2 w hw
      have g3 := (ShA.mapM (f := tdp) (w := 195) (d := 1) fun t ht => sh_td hm (g2 t ht)).tup
      refine g3.mono ?_ (by omega)
      have := Nat.mul_le_mul_right 196 g1
      omega
    have g4 := (ShA.mapM (f := fun w : List Td => PyData.tuple (w.map tdp)) (w := 800) (d := 2) hw).tup
    have g5 : Sh (.tuple (ws.map fun w => .tuple (w.map tdp))) 3210 3 := by
      refine g4.mono ?_ (by omega)
      have := Nat.mul_le_mul_right 801 h1
      omega
    exact ((ShA.cons sh_either (ShA.cons g5 .nil)).tup).mono (by omega) (by omega)
  | all n lo hi s f =>
    obtain ⟨h1, h2, h3, h4⟩ := h
    exact ((ShA.cons sh_all (ShA.cons (sh_nat (n := n) (by omega)) (ShA.cons (sh_fm hm h2.x) (ShA.cons (sh_fm hm h3.x) (ShA.cons sh_sg (ShA.cons (sh_fm hm h4.x) .nil)))))).tup).mono (by omega) (by omega)
  | mat n lo hi s o pp =>
    obtain ⟨h1, h2, h3, h4, h5⟩ := h
    exact ((ShA.cons sh_match (ShA.cons (sh_nat (n := n) (by omega)) (ShA.cons (sh_fm hm h2.x) (ShA.cons (sh_fm hm h3.x) (ShA.cons sh_sg (ShA.cons (sh_nat (n := o) (by omega)) (ShA.cons (Sh.int (i := pp) (by omega) (by omega)) .nil))))))).tup).mono (by omega) (by omega)
  | srt n lo hi =>
    obtain ⟨h1, h2, h3⟩ := h
    exact ((ShA.cons sh_sorted (ShA.cons (sh_nat (n := n) (by omega)) (ShA.cons (sh_fm hm h2.x) (ShA.cons (sh_fm hm h3.x) .nil)))).tup).mono (by omega) (by omega)
  | blw n lo hi o x y =>
    obtain ⟨h1, h2, h3, h4, h5, h6⟩ := h
    exact ((ShA.cons sh_below (ShA.cons (sh_nat (n := n) (by omega)) (ShA.cons (sh_fm hm h2.x) (ShA.cons (sh_fm hm h3.x) (ShA.cons (sh_nat (n := o) (by omega)) (ShA.cons (sh_fm hm h5.x) (ShA.cons (sh_fm hm h6.x) .nil))))))).tup).mono (by omega) (by omega)
/-- a known as it is shown -/
def kdp (K : Kd) : PyData := .list [.int (K.m : Int), .list (K.ds.map tdp), .list (K.ls.map lsp), .list (K.cs.map cep), .list (K.ps.map prp), .list (K.fr.map fmp)]
theorem sh_list {α : Type} {f : α → PyData} {xs : List α} {w d k : Nat} (h : ∀ x ∈ xs, Sh (f x) w d) (hl : xs.length ≤ k) : Sh (.list (xs.map f)) (k * (w + 1)) (d + 1) :=
  ((ShA.mapM h).list).mono (Nat.mul_le_mul_right _ hl) (Nat.le_refl _)
theorem sh_kd {K : Kd} (ok : K.Ok) : Sh (kdp K) 90000 6 := by
  have a1 : Sh (.list (K.ds.map tdp)) _ 5 := (sh_list (k := 40) (fun t ht => sh_td (by have := ok.ml; omega) (ok.d t ht)) ok.dl).mono (Nat.le_refl _) (by omega)
  have a2 : Sh (.list (K.ls.map lsp)) _ 5 := (sh_list (k := 10) (fun t ht => sh_ls (by have := ok.ml; omega) (by have := ok.ll; omega) ok.l ht) ok.ll).mono (Nat.le_refl _) (by omega)
  have a3 : Sh (.list (K.cs.map cep)) _ 5 := (sh_list (k := 100) (fun t ht => sh_ce (by have := ok.ml; omega) (by have := ok.ll; omega) (ok.c t ht)) ok.cl).mono (Nat.le_refl _) (by omega)
  have a4 : Sh (.list (K.ps.map prp)) _ 5 := (sh_list (k := 10) (fun t ht => sh_pr (by have := ok.ml; omega) (by have := ok.ll; omega) (ok.p t ht)) ok.pl).mono (Nat.le_refl _) (by omega)
  have a5 : Sh (.list (K.fr.map fmp)) _ 5 := (sh_list (k := 5) (fun t ht => sh_fm (by have := ok.ml; omega) (ok.f t ht).x) ok.fl).mono (Nat.le_refl _) (by omega)
  have a0 : Sh (.int (K.m : Int)) 64 5 := sh_nat (by have := ok.ml; omega)
  exact ((ShA.cons a0 (ShA.cons a1 (ShA.cons a2 (ShA.cons a3 (ShA.cons a4 (ShA.cons a5 .nil)))))).list).mono (by omega) (by omega)
end Ks

set_option maxRecDepth 100000
set_option maxHeartbeats 4000000
namespace Kj
open PySem L2 VL Kv Kg Kn Kk
local macro_rules
  | `(tactic| push_cast [$xs,*]) => `(tactic| try simp only [$xs,*, WpSs, WpS, WpE, WpEs, WpBs, WpO, WpN, WpI, WpC, WpT, getS, setS, tgK, setsS, wipeS, k_add, k_addT, k_sub, k_mul, k_fdiv, k_mod, k_neg, k_lt, k_le, k_gt, k_ge, k_eqI, k_neI, k_eqS, k_neS, k_eqB, k_neB, k_is, k_isn, k_isB, k_isnB, k_gIn, ctx_gdct, isNon_non, isNon_int, isNon_str, isNon_lst, isNon_tup, isNon_adr, k_lenS, k_lenL, k_lenR, k_lenT, k_int, k_str, k_abs, tru_bl, augK, ctx_call, ctx_glob, k_in, k_nin, k_inS, k_addS, k_intB, isi_non_int, isi_non_bool, isi_non_str, isi_non_list, isi_non_tuple, isi_bl_int, isi_bl_bool, isi_bl_str, isi_bl_list, isi_bl_tuple, isi_int_int, isi_int_bool, isi_int_str, isi_int_list, isi_int_tuple, isi_str_int, isi_str_bool, isi_str_str, isi_str_list, isi_str_tuple, isi_tup_int, isi_tup_bool, isi_tup_str, isi_tup_list, isi_tup_tuple, isi_lst_int, isi_lst_bool, isi_lst_str, isi_lst_list, isi_lst_tuple, isi_ro_int, isi_ro_bool, isi_ro_str, isi_ro_list, isi_ro_tuple, zs_lst, zs_tup])
/-- a list in a region -/
theorem vt {h : AHeap} {x : AV} {xs : List AV} (v : view h x = some xs) : viewT h x = some xs := by
  cases x <;> first | exact v | cases v
structure Vw (h : AHeap) (p a c : Nat) (x : AV) (xs : List AV) : Prop where
  v : view h x = some xs
  r : ∀ n, x = .adr n → p ≤ n ∧ n < p + 4 ∧ n ≠ a ∧ n ≠ c
/-- the law's own known, within p to p + 4 -/
structure Lk (h : AHeap) (p a : Nat) (K : Kd) : Prop where
  ex : ∃ (D L : AV) (C : Nat) (T : AV), (p ≤ a ∧ a < p + 4) ∧ (p ≤ C ∧ C < p + 4) ∧ a ≠ C ∧ cells h a = .lst [.int (K.m : Int), D, L, .adr C, T] ∧ cells h C = .lst (K.cs.map cev) ∧ Vw h p a C D (K.ds.map td) ∧ Vw h p a C L (K.ls.map lsv) ∧ Vw h p a C T (K.ps.map prv)
theorem viewT_eq {h h' : AHeap} {x : AV} {xs : List AV} (v : view h x = some xs) (k : ∀ n, x = .adr n → n < h.length → cells h' n = cells h n) : view h' x = some xs := by
  cases x <;> try exact v
  rename_i n
  have e' : view h (.adr n) = some xs := v
  simp only [view] at e'
  show view h' (.adr n) = _
  simp only [view]
  cases c : cells h n with
  | lst ys =>
    rw [c] at e'
    rw [k n rfl (cells_lt c (fun z => by cases z)), c]
    exact e'
  | _ => rw [c] at e'; cases e'
section
variable {h h' : AHeap} {p a c : Nat} {K : Kd}
theorem Lk.lt (x : Lk h p a K) : p < h.length := by
  obtain ⟨D, L, C, T, r1, r2, r3, e1, e2, _⟩ := x.ex
  have := cells_lt e1 (fun z => by cases z)
  omega
theorem Lk.mono (x : Lk h p a K) (k : ∀ n, n < h.length → p ≤ n → n < p + 4 → cells h' n = cells h n) : Lk h' p a K := by
  obtain ⟨D, L, C, T, r1, r2, r3, e1, e2, vD, vL, vT⟩ := x.ex
  have la := cells_lt e1 (fun z => by cases z)
  have lc := cells_lt e2 (fun z => by cases z)
  have f : ∀ {x xs}, Vw h p a C x xs → Vw h' p a C x xs := fun v => ⟨viewT_eq v.v fun n e hl => k n hl (v.r n e).1 (v.r n e).2.1, v.r⟩
  exact ⟨D, L, C, T, r1, r2, r3, (k a la r1.1 r1.2).trans e1, (k C lc r2.1 r2.2).trans e2, f vD, f vL, f vT⟩
theorem Lk.fr (x : Lk h p a K) {q n : Nat} (f : Fr q n h h') (d : p + 4 ≤ q ∨ q + n ≤ p) : Lk h' p a K := x.mono fun m h1 h2 h3 => f.keep m h1 (by omega)
theorem Lk.app (x : Lk h p a K) (l : AHeap) : Lk (h ++ l) p a K := x.mono fun n hn _ _ => Kn.cells_app hn
theorem Lk.num (x : Lk h p a K) : ∃ xs, cells h a = .lst xs ∧ xs[0]? = some (.int (K.m : Int)) ∧ Lk (h.set a (.lst (xs.set 0 (.int ((K.m + 1 : Nat) : Int))))) p a { K with m := K.m + 1 } ∧ xs.length = 5 := by
  obtain ⟨D, L, C, T, r1, r2, r3, e1, e2, vD, vL, vT⟩ := x.ex
  have la := cells_lt e1 (fun z => by cases z)
  have f : ∀ {x xs c}, Vw h p a C x xs → Vw (h.set a c) p a C x xs := fun v => ⟨viewT_eq v.v fun n e hl => cells_put (v.r n e).2.2.1.symm, v.r⟩
  exact ⟨_, e1, rfl, ⟨D, L, C, T, r1, r2, r3, by rw [cells_set la]; rfl, (cells_put r3).trans e2, f vD, f vL, f vT⟩, rfl⟩
theorem Lk.view (x : Lk h p a K) : ∃ (D L : AV) (C : Nat) (T : AV), viewT h (.adr a) = some [.int (K.m : Int), D, L, .adr C, T] ∧ viewT h (.adr C) = some (K.cs.map cev) ∧ view h D = some (K.ds.map td) ∧ view h L = some (K.ls.map lsv) ∧ view h T = some (K.ps.map prv) := by
  obtain ⟨D, L, C, T, r1, r2, r3, e1, e2, vD, vL, vT⟩ := x.ex
  exact ⟨D, L, C, T, view_adr e1, view_adr e2, vD.v, vL.v, vT.v⟩
end
section
variable {h : AHeap} {p a : Nat} {K : Kd} {Q : KA}
theorem k0 (x : Lk h p a K) (q : Q (.int (K.m : Int))) : subK h (.adr a) (.int 0) Q := by
  obtain ⟨D, L, C, T, v, _⟩ := x.view
  exact k_subV (j := 0) v rfl q
theorem k1 (x : Lk h p a K) (q : ∀ D, view h D = some (K.ds.map td) → Q D) : subK h (.adr a) (.int 1) Q := by
  obtain ⟨D, L, C, T, v, vC, vD, vL, vT⟩ := x.view
  exact k_subV (j := 1) v rfl (q D vD)
theorem k2 (x : Lk h p a K) (q : ∀ L, view h L = some (K.ls.map lsv) → Q L) : subK h (.adr a) (.int 2) Q := by
  obtain ⟨D, L, C, T, v, vC, vD, vL, vT⟩ := x.view
  exact k_subV (j := 2) v rfl (q L vL)
theorem k3 (x : Lk h p a K) (q : ∀ C, view h C = some (K.cs.map cev) → Q C) : subK h (.adr a) (.int 3) Q := by
  obtain ⟨D, L, C, T, v, vC, vD, vL, vT⟩ := x.view
  exact k_subV (j := 3) v rfl (q _ vC)
theorem k4 (x : Lk h p a K) (q : ∀ T, view h T = some (K.ps.map prv) → Q T) : subK h (.adr a) (.int 4) Q := by
  obtain ⟨D, L, C, T, v, vC, vD, vL, vT⟩ := x.view
  exact k_subV (j := 4) v rfl (q T vT)
end
section
variable {P : Prg} [Kk.U P]
theorem fm_pd (h : AHeap) (f : Fm) : pdH h (fmv f) = some (.tuple [.int (f.1 : Int), .int f.2]) := by
  simp only [fmv, pdH, pdHs, Option.bind_some, Option.map_some]
def fmp (f : Fm) : PyData := .tuple [.int (f.1 : Int), .int f.2]
theorem fms_pd (h : AHeap) : ∀ l : List Fm, pdHs h (l.map fmv) = some (l.map fmp)
  | [] => rfl
  | f :: l => by
    show (pdH h (fmv f)).bind (fun d => (pdHs h (l.map fmv)).map (d :: ·)) = _
    rw [fm_pd, fms_pd h l]; rfl
theorem fmp_eq (f g : Fm) : PyData.eqv (fmp f) (fmp g) = decide (f = g) := by
  show (((f.1 : Int) == (g.1 : Int)) && ((f.2 == g.2) && true)) = decide (f = g)
  rw [Bool.eq_iff_iff]
  simp only [Bool.and_true, Bool.and_eq_true, beq_iff_eq, decide_eq_true_eq, Prod.ext_iff]
  omega
theorem fmp_sh (f : Fm) : SeqAt.shaped (fmp f) = true := by
  unfold SeqAt.shaped
  rw [Bool.and_eq_true]
  exact ⟨rfl, decide_eq_true (show (fmp f).depth ≤ 64 from by show 1 ≤ 64; decide)⟩
theorem k_ninF {h : AHeap} {f : Fm} {l : List Fm} {Q : KA} (q : Q (.bl (!decide (f ∈ l)))) : inK h true (fmv f) (.lst (l.map fmv)) Q := by
  refine k_inD viewT_lst (fun _ z => by cases z) (fm_pd h f) (fms_pd h l) (fmp_sh f) ?_ ?_
  · rw [List.all_map, List.all_eq_true]
    exact fun g _ => fmp_sh g
  · have e : ((l.map fmp).any fun y => PyData.eqv y (.tuple [.int (f.1 : Int), .int f.2])) = decide (f ∈ l) := by
      rw [Bool.eq_iff_iff, List.any_map, List.any_eq_true, decide_eq_true_iff]
      constructor
      · rintro ⟨g, hg, e⟩
        have e : PyData.eqv (fmp g) (fmp f) = true := e
        rw [fmp_eq] at e
        rw [← of_decide_eq_true e]; exact hg
      · intro hm
        refine ⟨f, hm, ?_⟩
        show PyData.eqv (fmp f) (fmp f) = true
        rw [fmp_eq]; exact decide_eq_true rfl
    rw [e, if_pos rfl]
    exact q
theorem indexes_ok {n : Nat} {h : AHeap} {p a : Nat} {K : Kd} {Q} (x : Lk h p a K) (ok : K.Ok) (q : Q (.lst (K.idx.map fmv)) h) : callN P (n+1) 185 [.adr a, .lst (K.fr.map fmv)] h Q := by
  refine call_of Kk.U.f__law_indexes rfl ?_
  show WpSs (ctxOf P (callN P n)) b_law_indexes _ [.val (.adr a), .val (.lst (K.fr.map fmv)), .no, .no, .no, .no, .no, .no] h
  have hz : sizeLine = 16777216 := rfl
  have l1 := ok.fl; have l2 := ok.cl; have l3 := ok.ll; have l4 := ok.pl
  push_cast [b_law_indexes, viewT_lst]
  refine k3 x fun C hC => ?_
  have hC := vt hC
  push_cast [hC]
  refine ⟨by rw [List.length_map]; omega, ?_⟩
  refine comp_list (g := cev) (f := fun c => fmv c.2.1) hC (fun c _ R r => ?_) ?_
  · push_cast [cev, if_true]
    exact k_tup (j := 1) (xs := [.int (c.1 : Int), fmv c.2.1, fmv c.2.2]) rfl r
  have e1 : K.cs.map (fun c => fmv c.2.1) = (K.cs.map (·.2.1)).map fmv := by rw [List.map_map]; rfl
  push_cast [viewW_lst, e1, fm_app]
  refine ⟨by simp only [List.length_map]; omega, ?_⟩
  refine k2 x fun L hL => ?_
  have hL := vt hL
  push_cast [hL]
  refine for_inv (fun i ρ h' => h' = h ∧ ∃ s3 s7, ρ = [.val (.adr a), .val (.lst (K.fr.map fmv)), .own (.lst ((K.fr ++ K.cs.map (·.2.1) ++ (K.ls.take i).flatMap lsF).map fmv)), s3, .no, .no, .no, s7]) ⟨rfl, .no, .no, by rw [List.take_zero, List.flatMap_nil, List.append_nil]⟩ (fun _ _ _ _ z => by rw [z.1]; exact hL) ?_ ?_
  · rintro i y _ h D' hx ⟨rfl, s3, s7, rfl⟩ kn kc kr kb
    obtain ⟨l, hl, rfl⟩ := items_map hx
    have hlt := (List.getElem?_eq_some_iff.mp hl).1
    have fln := flat_len lsF_len (K.ls.take i)
    rw [List.length_take] at fln
    push_cast [b_law_indexes_1]
    cases l with
    | wr b f v =>
      refine k_tup (j := 0) (d := .str "written") (xs := [.str "written", .int (b : Int), fmv f, fmv v]) rfl ?_
      push_cast [decide_true, if_true]
      refine k_tup (j := 2) (d := fmv f) (xs := [.str "written", .int (b : Int), fmv f, fmv v]) rfl ?_
      refine k_tup (j := 2) (d := fmv f) (xs := [.str "written", .int (b : Int), fmv f, fmv v]) rfl ?_
      refine k_fm0 ?_
      refine k_tup (j := 2) (d := fmv f) (xs := [.str "written", .int (b : Int), fmv f, fmv v]) rfl ?_
      refine k_fm1 ?_
      have e2 : [fmv f, .tup [.int (f.1 : Int), .int (f.2 + 1)]] = (lsF (.wr b f v)).map fmv := rfl
      refine ⟨by show 2 ≤ sizeLine; decide, by show 2 ≤ sizeLine; decide, ?_⟩
      push_cast [e2, viewW_lst, fm_app]
      refine ⟨by simp only [List.length_map, List.length_append, lsF, List.length_cons, List.length_nil]; omega, ?_⟩
      rw [List.append_assoc (K.fr ++ _), ← flat_take hl]
      exact kn _ _ ⟨rfl, _, _, rfl⟩
    | nw f =>
      refine k_tup (j := 0) (d := .str "new") (xs := [.str "new", fmv f]) rfl ?_
      push_cast [wn.2.1, Bool.false_eq_true, if_false]
      have e6 : (K.ls.take (i + 1)).flatMap lsF = (K.ls.take i).flatMap lsF := by rw [flat_take hl]; simp [lsF]
      rw [← e6]
      exact kn _ _ ⟨rfl, _, _, rfl⟩
  · rintro _ h ⟨rfl, s3, s7, rfl⟩
    rw [List.length_map, List.take_length]
    generalize eB : K.fr ++ K.cs.map (·.2.1) ++ K.ls.flatMap lsF = B
    have bl : B.length ≤ 350 := by
      rw [← eB]
      have := flat_len lsF_len K.ls
      simp only [List.length_map, List.length_append]; omega
    push_cast [b_law_indexes_7]
    refine k4 x fun T hT => ?_
    have hT := vt hT
    push_cast [hT]
    refine for_inv (fun i ρ h' => h' = h ∧ ∃ s4, ρ = [.val (.adr a), .val (.lst (K.fr.map fmv)), .own (.lst ((B ++ (K.ps.take i).flatMap prF).map fmv)), s3, s4, .no, .no, s7]) ⟨rfl, .no, by rw [List.take_zero, List.flatMap_nil, List.append_nil]⟩ (fun _ _ _ _ z => by rw [z.1]; exact hT) ?_ ?_
    · rintro i y _ h D' hx ⟨rfl, s4, rfl⟩ kn kc kr kb
      obtain ⟨p, hp, rfl⟩ := items_map hx
      have hlt := (List.getElem?_eq_some_iff.mp hp).1
      have fln := flat_len prF_len (K.ps.take i)
      rw [List.length_take] at fln
      have e3 : ∀ l : List Fm, prF p = l → B ++ (K.ps.take i).flatMap prF ++ l = B ++ (K.ps.take (i + 1)).flatMap prF := fun l hl => by rw [flat_take hp, hl, List.append_assoc]
      push_cast [b_law_indexes_3]
      cases p with
      | eit ws =>
        refine k_tup (j := 0) (d := .str "either") (xs := [.str "either", .tup (ws.map fun w => .tup (w.map td))]) rfl ?_
        push_cast [ks, decide_true, Bool.not_true, Bool.false_eq_true, if_false, b_law_indexes_2]
        refine k_tup (j := 0) (d := .str "either") (xs := [.str "either", .tup (ws.map fun w => .tup (w.map td))]) rfl ?_
        push_cast [ks, Bool.false_eq_true, if_false]
        have e6 := e3 [] rfl
        rw [List.append_nil] at e6
        rw [e6]
        exact kn _ _ ⟨rfl, _, rfl⟩
      | all num lo hi sg f =>
        refine k_tup (j := 0) (d := .str "all") (xs := [.str "all", .int (num : Int), fmv lo, fmv hi, .str (sgS sg), fmv f]) rfl ?_
        push_cast [Kg.ps, Bool.not_false, if_true]
        refine k_tup (j := 2) (d := fmv lo) (xs := [.str "all", .int (num : Int), fmv lo, fmv hi, .str (sgS sg), fmv f]) rfl ?_
        refine ⟨by simp only [List.length_map, List.length_append]; omega, ?_⟩
        push_cast [b_law_indexes_2, fm_one]
        refine k_tup (j := 0) (d := .str "all") (xs := [.str "all", .int (num : Int), fmv lo, fmv hi, .str (sgS sg), fmv f]) rfl ?_
        push_cast [ks, Bool.false_eq_true, if_false]
        rw [e3 [lo] rfl]
        exact kn _ _ ⟨rfl, _, rfl⟩
      | mat num lo hi sg oo pl =>
        refine k_tup (j := 0) (d := .str "match") (xs := [.str "match", .int (num : Int), fmv lo, fmv hi, .str (sgS sg), .int (oo : Int), .int pl]) rfl ?_
        push_cast [Kg.ps, Bool.not_false, if_true]
        refine k_tup (j := 2) (d := fmv lo) (xs := [.str "match", .int (num : Int), fmv lo, fmv hi, .str (sgS sg), .int (oo : Int), .int pl]) rfl ?_
        refine ⟨by simp only [List.length_map, List.length_append]; omega, ?_⟩
        push_cast [b_law_indexes_2, fm_one]
        refine k_tup (j := 0) (d := .str "match") (xs := [.str "match", .int (num : Int), fmv lo, fmv hi, .str (sgS sg), .int (oo : Int), .int pl]) rfl ?_
        push_cast [ks, Bool.false_eq_true, if_false]
        rw [e3 [lo] rfl]
        exact kn _ _ ⟨rfl, _, rfl⟩
      | srt num lo hi =>
        refine k_tup (j := 0) (d := .str "sorted") (xs := [.str "sorted", .int (num : Int), fmv lo, fmv hi]) rfl ?_
        push_cast [Kg.ps, Bool.not_false, if_true]
        refine k_tup (j := 2) (d := fmv lo) (xs := [.str "sorted", .int (num : Int), fmv lo, fmv hi]) rfl ?_
        refine ⟨by simp only [List.length_map, List.length_append]; omega, ?_⟩
        push_cast [b_law_indexes_2, fm_one]
        refine k_tup (j := 0) (d := .str "sorted") (xs := [.str "sorted", .int (num : Int), fmv lo, fmv hi]) rfl ?_
        push_cast [ks, Bool.false_eq_true, if_false]
        rw [e3 [lo] rfl]
        exact kn _ _ ⟨rfl, _, rfl⟩
      | blw num lo hi oo low high =>
        refine k_tup (j := 0) (d := .str "below") (xs := [.str "below", .int (num : Int), fmv lo, fmv hi, .int (oo : Int), fmv low, fmv high]) rfl ?_
        push_cast [Kg.ps, Bool.not_false, if_true]
        refine k_tup (j := 2) (d := fmv lo) (xs := [.str "below", .int (num : Int), fmv lo, fmv hi, .int (oo : Int), fmv low, fmv high]) rfl ?_
        refine ⟨by simp only [List.length_map, List.length_append]; omega, ?_⟩
        push_cast [b_law_indexes_2, fm_one]
        refine k_tup (j := 0) (d := .str "below") (xs := [.str "below", .int (num : Int), fmv lo, fmv hi, .int (oo : Int), fmv low, fmv high]) rfl ?_
        push_cast [decide_true, if_true]
        refine k_tup (j := 5) (d := fmv low) (xs := [.str "below", .int (num : Int), fmv lo, fmv hi, .int (oo : Int), fmv low, fmv high]) rfl ?_
        refine ⟨by simp only [List.length_map, List.length_append, List.length_cons, List.length_nil]; omega, ?_⟩
        push_cast [fm_one]
        rw [List.append_assoc _ [lo] [low]]
        have e6 := e3 ([lo] ++ [low]) rfl
        rw [e6]
        exact kn _ _ ⟨rfl, _, rfl⟩
    · rintro _ h ⟨rfl, s4, rfl⟩
      rw [List.length_map, List.take_length]
      have pln := flat_len prF_len K.ps
      have e4 : (B ++ K.ps.flatMap prF).map fmv ++ [.tup [.int 0, .int 0]] = K.found.map fmv := by
        unfold Kd.found
        rw [eB, List.map_append (l₂ := [(0, 0)])]
        rfl
      have fln := found_len ok
      push_cast [b_law_indexes_6, viewW_lst, e4, viewT_lst]
      refine ⟨Nat.zero_le _, by show 2 ≤ sizeLine; decide, by show 1 ≤ sizeLine; decide, by simp only [List.length_map, List.length_append, List.length_cons, List.length_nil]; omega, ?_⟩
      refine for_inv (fun i ρ h' => h' = h ∧ ∃ s6, ρ = [.val (.adr a), .val (.lst (K.fr.map fmv)), .own (.lst ((B ++ K.ps.flatMap prF).map fmv)), s3, s4, .own (.lst ((once (K.found.take i)).map fmv)), s6, s7]) ⟨rfl, .no, rfl⟩ (fun _ _ _ _ _ => by trivial) ?_ ?_
      · rintro i y _ h D' hx ⟨rfl, s6, rfl⟩ kn kc kr kb
        obtain ⟨f, hf, rfl⟩ := items_map hx
        have ol := once_len (K.found.take i)
        rw [List.length_take] at ol
        push_cast [b_law_indexes_4]
        refine k_ninF ?_
        have et := once_take hf
        by_cases c : f ∈ once (K.found.take i)
        · have e5 : once (K.found.take (i + 1)) = once (K.found.take i) := by rw [et]; unfold addO; rw [if_pos c]
          push_cast [decide_eq_true c, Bool.not_true, Bool.false_eq_true, if_false]
          rw [← e5]
          exact kn _ _ ⟨rfl, _, rfl⟩
        · have e5 : once (K.found.take (i + 1)) = once (K.found.take i) ++ [f] := by rw [et]; unfold addO; rw [if_neg c]
          push_cast [decide_eq_false c, Bool.not_false, if_true, fm_one]
          refine ⟨by rw [List.length_map]; omega, ?_⟩
          rw [← e5]
          exact kn _ _ ⟨rfl, _, rfl⟩
      · rintro _ h ⟨rfl, s6, rfl⟩
        rw [List.length_map, List.take_length]
        push_cast [b_law_indexes_5]
        exact q
end
end Kj

set_option maxRecDepth 100000
set_option maxHeartbeats 4000000
namespace Kq
open PySem L2 VL Kv Kg
local macro_rules
  | `(tactic| push_cast [$xs,*]) => `(tactic| try simp only [$xs,*, WpSs, WpS, WpE, WpEs, WpBs, WpO, WpN, WpI, WpC, WpT, getS, setS, tgK, setsS, wipeS, k_add, k_addT, k_sub, k_mul, k_fdiv, k_mod, k_neg, k_lt, k_le, k_gt, k_ge, k_eqI, k_neI, k_eqS, k_neS, k_eqB, k_neB, k_is, k_isn, k_isB, k_isnB, k_gIn, ctx_gdct, isNon_non, isNon_int, isNon_str, isNon_lst, isNon_tup, isNon_adr, k_lenS, k_lenL, k_lenR, k_lenT, k_int, k_str, k_abs, tru_bl, augK, ctx_call, ctx_glob, k_in, k_nin, k_inS, k_addS, k_intB, isi_non_int, isi_non_bool, isi_non_str, isi_non_list, isi_non_tuple, isi_bl_int, isi_bl_bool, isi_bl_str, isi_bl_list, isi_bl_tuple, isi_int_int, isi_int_bool, isi_int_str, isi_int_list, isi_int_tuple, isi_str_int, isi_str_bool, isi_str_str, isi_str_list, isi_str_tuple, isi_tup_int, isi_tup_bool, isi_tup_str, isi_tup_list, isi_tup_tuple, isi_lst_int, isi_lst_bool, isi_lst_str, isi_lst_list, isi_lst_tuple, isi_ro_int, isi_ro_bool, isi_ro_str, isi_ro_list, isi_ro_tuple, zs_lst, zs_tup])
open Kn (Ob Fr flds oH oH_ob l_m l_d l_l l_c l_t l_f n_new n_len n_cell p_m f_len k_eqF cells_set cells_put cells_lt cells_app viewT_app find_none_take find_none_all mem_take_succ)
section
variable {P : Prg} [U P]
theorem fld_k {n : Nat} {f : Str} (h : P.flds.contains (9, f) = true) : (ctxOf P (callN P n)).fld 9 f = true := h
theorem fm {n : Nat} : (ctxOf P (callN P n)).fld 9 "many" = true := U.d_9_many
theorem fd {n : Nat} : (ctxOf P (callN P n)).fld 9 "differences" = true := U.d_9_differences
theorem fl {n : Nat} : (ctxOf P (callN P n)).fld 9 "lists" = true := U.d_9_lists
theorem fc {n : Nat} : (ctxOf P (callN P n)).fld 9 "cells" = true := U.d_9_cells
theorem ft {n : Nat} : (ctxOf P (callN P n)).fld 9 "taken" = true := U.d_9_taken
theorem ff {n : Nat} : (ctxOf P (callN P n)).fld 9 "fresh" = true := U.d_9_fresh
theorem me_new {n : Nat} : (ctxOf P (callN P n)).meth 9 "new_number" = some 196 := U.m_9_new_number
theorem me_len {n : Nat} : (ctxOf P (callN P n)).meth 9 "length" = some 197 := U.m_9_length
theorem me_cell {n : Nat} : (ctxOf P (callN P n)).meth 9 "cell" = some 198 := U.m_9_cell
theorem ini {n : Nat} : (ctxOf P (callN P n)).init 9 = some 195 := U.i_9
theorem shifted_ok {n : Nat} {f : Fm} {p : Int} {h : AHeap} {Q} (q : Q (fmv (f.1, f.2 + p)) h) : callN P (n+1) 194 [fmv f, .int p] h Q := by
  refine call_of U.f_shifted rfl ?_
  show WpSs (ctxOf P (callN P n)) b_shifted _ [.val (fmv f), .val (.int p)] h
  push_cast [b_shifted]
  refine k_fm0 (k_fm1 ?_)
  exact ⟨by show 2 ≤ sizeLine; decide, q⟩
theorem less_ok {n : Nat} {f g : Fm} {h : AHeap} {Q} (q : Q (td (f.1, g.1, g.2 - f.2 - 1)) h) : callN P (n+1) 191 [fmv f, fmv g] h Q := by
  refine call_of U.f_less rfl ?_
  show WpSs (ctxOf P (callN P n)) b_less _ [.val (fmv f), .val (fmv g)] h
  push_cast [b_less]
  refine k_fm0 (k_fm0 (k_fm1 (k_fm1 ?_)))
  exact ⟨by show 3 ≤ sizeLine; decide, q⟩
theorem at_most_ok {n : Nat} {f g : Fm} {h : AHeap} {Q} (q : Q (td (f.1, g.1, g.2 - f.2)) h) : callN P (n+1) 192 [fmv f, fmv g] h Q := by
  refine call_of U.f_at_most rfl ?_
  show WpSs (ctxOf P (callN P n)) b_at_most _ [.val (fmv f), .val (fmv g)] h
  push_cast [b_at_most]
  refine k_fm0 (k_fm0 (k_fm1 (k_fm1 ?_)))
  exact ⟨by show 3 ≤ sizeLine; decide, q⟩
theorem opposite_ok {n : Nat} {t : Td} {h : AHeap} {Q} (q : Q (td (t.2.1, t.1, -t.2.2 - 1)) h) : callN P (n+1) 193 [td t] h Q := by
  refine call_of U.f_opposite rfl ?_
  show WpSs (ctxOf P (callN P n)) b_opposite _ [.val (td t), .no, .no, .no] h
  push_cast [b_opposite, td]
  exact ⟨by show 3 ≤ sizeLine; decide, q⟩
theorem init_ok {n : Nat} {h : AHeap} {D L C T F : AV} {K : Kd} {Q} (hD : viewT h D = some (K.ds.map td)) (hL : viewT h L = some (K.ls.map lsv)) (hC : viewT h C = some (K.cs.map cev)) (hT : viewT h T = some (K.ps.map prv)) (hF : viewT h F = some (K.fr.map fmv)) (q : Q .non (h ++ oH h.length K)) :
    callN P (n+1) 195 [.adr h.length, .int (K.m : Int), D, L, C, T, F] (h ++ [.obj 9 []]) Q := by
  refine call_of U.f_Known___init__ rfl ?_
  show WpSs (ctxOf P (callN P n)) b_Known___init__ _ [.val (.adr h.length), .val (.int (K.m : Int)), .val D, .val L, .val C, .val T, .val F] _
  push_cast [b_Known___init__, viewT_app hD, viewT_app hL, viewT_app hC, viewT_app hT, viewT_app hF, List.append_assoc, List.cons_append, List.nil_append, List.length_append, List.length_cons, List.length_nil, cells_at0, set_at0, List.getElem?_cons_zero, Option.getD_some, List.set_cons_zero]
  refine ⟨fm, by show 0 < 1000; decide, fd, by show 1 < 1000; decide, fl, by show 2 < 1000; decide, fc, by show 3 < 1000; decide, ft, by show 4 < 1000; decide, ff, by show 5 < 1000; decide, ?_⟩
  exact q
theorem make_ok {n : Nat} {h : AHeap} {D L C T F : AV} {K : Kd} {Q : AV → AHeap → Prop} (hD : viewT h D = some (K.ds.map td)) (hL : viewT h L = some (K.ls.map lsv)) (hC : viewT h C = some (K.cs.map cev)) (hT : viewT h T = some (K.ps.map prv)) (hF : viewT h F = some (K.fr.map fmv)) (q : Q (.adr h.length) (h ++ oH h.length K)) :
    match (ctxOf P (callN P (n+1))).init 9 with
    | some f => callN P (n+1) f (.adr h.length :: [.int (K.m : Int), D, L, C, T, F]) (h ++ [.obj 9 []]) fun r h2 => match r with
      | .non => Q (.adr h.length) h2
      | _ => False
    | none => False := by
  rw [ini]
  exact init_ok hD hL hC hT hF q
theorem obj_set {h : AHeap} {o : Nat} {K : Kd} (x : Ob h o K) : Ob (h.set o (.obj 9 (flds (K.m + 1) o))) o { K with m := K.m + 1 } := by
  have := x.lt
  exact ⟨cells_set (by omega), (cells_put (by omega)).trans x.d, (cells_put (by omega)).trans x.l, (cells_put (by omega)).trans x.c, (cells_put (by omega)).trans x.t, (cells_put (by omega)).trans x.f⟩
theorem new_number_ok {n : Nat} {h : AHeap} {o : Nat} {K : Kd} {Q} (x : Ob h o K) (q : ∀ h', Ob h' o { K with m := K.m + 1 } → Fr o 6 h h' → h'.length = h.length → Q (fmv (K.m + 1, 0)) h') : callN P (n+1) 196 [.adr o] h Q := by
  refine call_of U.f_Known_new_number rfl ?_
  show WpSs (ctxOf P (callN P n)) b_Known_new_number _ [.val (.adr o)] h
  have e1 : (K.m : Int) + 1 = ((K.m + 1 : Nat) : Int) := by omega
  have y := obj_set x
  push_cast [b_Known_new_number, x.hd, l_m, e1, fm, true_and, f_len, p_m, y.hd]
  refine ⟨by decide, by show 2 ≤ sizeLine; decide, q _ y (Fr.set (by omega) (by omega)) (by simp)⟩
theorem length_ok {n m : Nat} {h : AHeap} {o : Nat} {K : Kd} {num : Nat} {Q} (x : Ob h o K) (ho : LIn m K.ls) (hnum : num < K.ls.length) (q : Q (fmv (LF K.ls num)) h) : callN P (n+1) 197 [.adr o, .int (num : Int)] h Q := by
  refine call_of U.f_Known_length rfl ?_
  show WpSs (ctxOf P (callN P n)) b_Known_length _ [.val (.adr o), .val (.int num)] h
  have hL : viewT h (.adr (o + 2)) = some (K.ls.map lsv) := view_adr x.l
  push_cast [b_Known_length]
  refine wh_inv (fun mm ρ h' => h' = h ∧ ∃ cur : Nat, mm = cur ∧ cur < K.ls.length ∧ LF K.ls cur = LF K.ls num ∧ ρ = [.val (.adr o), .val (.int cur)]) num ⟨rfl, num, rfl, hnum, rfl, rfl⟩ ?_
  rintro mm _ h D' ⟨rfl, cur, hm, hcur, hV, rfl⟩ kn kc kr kb
  have hm := hm.symm
  subst hm
  have e := List.getElem?_eq_getElem hcur
  push_cast [x.hd, l_l, fl, true_and]
  refine k_subLs hL hcur ?_
  cases w : K.ls[cur] with
  | wr b i v =>
    rw [w] at e
    have hb1 := (ho cur _ e).1
    refine k_tup (j := 0) (d := .str "written") (xs := [.str "written", .int (b : Int), fmv i, fmv v]) rfl ?_
    push_cast [decide_true, if_true, b_Known_length_1, x.hd, l_l, fl, true_and]
    refine k_subLs hL hcur ?_
    rw [w]
    refine k_tup (j := 1) (d := .int (b : Int)) (xs := [.str "written", .int (b : Int), fmv i, fmv v]) rfl ?_
    exact kn b _ _ hb1 ⟨rfl, b, rfl, by omega, by rw [← hV, L_wr ho e], rfl⟩
  | nw f =>
    rw [w] at e
    refine k_tup (j := 0) (d := .str "new") (xs := [.str "new", fmv f]) rfl ?_
    push_cast [wn.2.1, Bool.false_eq_true, if_false, b_Known_length_2, x.hd, l_l, fl, true_and]
    refine k_subLs hL hcur ?_
    rw [w]
    refine k_tup (j := 1) (d := fmv f) (xs := [.str "new", fmv f]) rfl ?_
    rw [← hV, L_nw e] at q
    exact q
theorem cell_ok {n : Nat} {h : AHeap} {o : Nat} {K : Kd} {num : Nat} {f : Fm} {Q} (x : Ob h o K) (hc : K.cs.length ≤ 1000) (q : ∀ h', Ob h' o (K.have num f) → Fr o 6 h h' → h'.length = h.length → Q (fmv (K.val num f)) h') : callN P (n+2) 198 [.adr o, .int (num : Int), fmv f] h Q := by
  refine call_of U.f_Known_cell rfl ?_
  show WpSs (ctxOf P (callN P (n+1))) b_Known_cell _ [.val (.adr o), .val (.int num), .val (fmv f), .no, .no, .no] h
  have hC : viewT h (.adr (o + 3)) = some (K.cs.map cev) := view_adr x.c
  have hz : sizeLine = 16777216 := rfl
  push_cast [b_Known_cell, x.hd, l_c, fc, true_and, hC]
  refine for_inv (fun i ρ h' => h' = h ∧ (∀ c ∈ K.cs.take i, ¬ (c.1 = num ∧ c.2.1 = f)) ∧ ∃ s3 s4 s5, ρ = [.val (.adr o), .val (.int num), .val (fmv f), s3, s4, s5]) ⟨rfl, (fun _ z => by cases z), _, _, _, rfl⟩ (fun _ _ _ _ z => by rw [z.1]; exact hC) ?_ ?_
  · rintro i y _ h D' hx ⟨rfl, hno, s3, s4, s5, rfl⟩ kn kc kr kb
    obtain ⟨c, hci, rfl⟩ := items_map hx
    have next : ¬ (c.1 = num ∧ c.2.1 = f) → ∀ d ∈ K.cs.take (i + 1), ¬ (d.1 = num ∧ d.2.1 = f) := fun hn d hd => by
      rcases mem_take_succ hci hd with hd | rfl
      · exact hno d hd
      · exact hn
    push_cast [b_Known_cell_1, cev]
    refine ite_b (fun c1 => ?_) (fun c1 => ?_)
    · refine k_eqF ?_
      refine ite_b (fun c2 => ?_) (fun c2 => kn _ _ ⟨rfl, next (fun z => c2 z.2), _, _, _, rfl⟩)
      have e := find_none_take hno hci ⟨by omega, c2⟩
      refine kr _ _ ?_
      have := q h (by rw [(have_find e).1]; exact x) Fr.refl rfl
      rw [(have_find e).2] at this
      exact this
    · push_cast [Bool.false_eq_true, if_false]
      exact kn _ _ ⟨rfl, next (fun z => c1 (by omega)), _, _, _, rfl⟩
  · rintro _ h ⟨rfl, hno, s3, s4, s5, rfl⟩
    rw [List.length_map, List.take_length] at hno
    have e := find_none_all hno
    push_cast [b_Known_cell_2, x.hd, n_new, me_new]
    refine new_number_ok x fun h1 x1 fr1 el => ?_
    have hC1 := x1.c
    have hd1 := x1.hd
    have lt1 := x1.lt
    push_cast [hd1, l_c, fc, true_and, hC1]
    refine ⟨by show 3 ≤ sizeLine; decide, ?_⟩
    have ec : AV.tup [.int (num : Int), fmv f, fmv (K.m + 1, 0)] = cev (num, f, (K.m + 1, 0)) := rfl
    push_cast [hC1, appC, ec, ce_one]
    refine ⟨by rw [List.length_map]; omega, ?_⟩
    have := q (h1.set (o + 3) (.lst ((K.cs ++ [(num, f, (K.m + 1, 0))]).map cev))) ?_ (fr1.trans (Fr.set (by omega) (by omega))) (by simp [el])
    · rw [(have_none e).2] at this
      exact this
    · rw [(have_none e).1]
      exact ⟨(cells_put (by omega)).trans x1.hd, (cells_put (by omega)).trans x1.d, (cells_put (by omega)).trans x1.l, cells_set (by omega), (cells_put (by omega)).trans x1.t, (cells_put (by omega)).trans x1.f⟩

end
end Kq

set_option maxRecDepth 100000
set_option maxHeartbeats 4000000
namespace Kx
open PySem L2 VL Kv Kg
local macro_rules
  | `(tactic| push_cast [$xs,*]) => `(tactic| try simp only [$xs,*, WpSs, WpS, WpE, WpEs, WpBs, WpO, WpN, WpI, WpC, WpT, getS, setS, tgK, setsS, wipeS, k_add, k_addT, k_sub, k_mul, k_fdiv, k_mod, k_neg, k_lt, k_le, k_gt, k_ge, k_eqI, k_neI, k_eqS, k_neS, k_eqB, k_neB, k_is, k_isn, k_isB, k_isnB, k_gIn, ctx_gdct, isNon_non, isNon_int, isNon_str, isNon_lst, isNon_tup, isNon_adr, k_lenS, k_lenL, k_lenR, k_lenT, k_int, k_str, k_abs, tru_bl, augK, ctx_call, ctx_glob, k_in, k_nin, k_inS, k_addS, k_intB, isi_non_int, isi_non_bool, isi_non_str, isi_non_list, isi_non_tuple, isi_bl_int, isi_bl_bool, isi_bl_str, isi_bl_list, isi_bl_tuple, isi_int_int, isi_int_bool, isi_int_str, isi_int_list, isi_int_tuple, isi_str_int, isi_str_bool, isi_str_str, isi_str_list, isi_str_tuple, isi_tup_int, isi_tup_bool, isi_tup_str, isi_tup_list, isi_tup_tuple, isi_lst_int, isi_lst_bool, isi_lst_str, isi_lst_list, isi_lst_tuple, isi_ro_int, isi_ro_bool, isi_ro_str, isi_ro_list, isi_ro_tuple, zs_lst, zs_tup])
section
variable {P : Prg} [Kg.U P] [U P]
theorem small_ok {n : Nat} {d : Int} {h : AHeap} {Q} (q : ∀ v : Int, -2000000000 ≤ v → v ≤ 2000000000 → Q (.int v) h) : callN P (n+1) 172 [.int d] h Q := by
  refine call_of U.f__law_small rfl ?_
  show WpSs (ctxOf P (callN P n)) b_law_small _ [.val (.int d)] h
  have t9 : (10 : Int) ^ ((9 : Int).toNat) = 1000000000 := by decide
  have h1 := Int.emod_nonneg (d / 12) (b := 2) (by omega)
  have h2 := Int.emod_lt_of_pos (d / 12) (b := 2) (by omega)
  push_cast [b_law_small, k_pow, t9]
  refine ⟨by decide, ?_⟩
  refine ite_b (fun _ => ?_) (fun _ => ?_)
  · refine ⟨divA (by decide) (by decide), by decide, mulA_l (by decide) (by decide), ⟨by decide, by decide, by decide⟩, divA (by decide) (by decide), by decide, mulA_l (by omega) (by omega), ?_⟩
    have h3 := Int.emod_nonneg (d / 24) (b := 1000) (by omega)
    have h4 := Int.emod_lt_of_pos (d / 24) (b := 1000) (by omega)
    generalize (d / 24) % 1000 = f at h3 h4
    have : (d / 12) % 2 = 0 ∨ (d / 12) % 2 = 1 := by omega
    rcases this with z | z <;> rw [z] <;> refine q _ ?_ ?_ <;> omega
  push_cast [b_law_small_1]
  refine ⟨divA (by decide) (by decide), by decide, ?_⟩
  have h3 := Int.emod_nonneg (d / 12) (b := 12) (by omega)
  have h4 := Int.emod_lt_of_pos (d / 12) (b := 12) (by omega)
  refine q _ ?_ ?_ <;> omega
def wyv (wy : List Td) : AV := .tup (wy.map td)
theorem wy_one (l : List (List Td)) (wy : List Td) : l.map wyv ++ [wyv wy] = (l ++ [wy]).map wyv := by rw [List.map_append]; rfl
theorem k_tupleV {h : AHeap} {xs : List AV} {Q : KA} (q : Q (.tup xs)) : bltK h .tuple [.lst xs] Q := by
  unfold bltK
  simp only [view_lst]
  exact q
def lsizes : List Int := 3 :: (List.range 20).map fun _ => (1000 : Int)
theorem lsizes_at {j : Nat} (h1 : 1 ≤ j) (h2 : j ≤ 20) : lsizes[j]? = some 1000 := by
  have : ∀ j, j ≤ 20 → 1 ≤ j → lsizes[j]? = some 1000 := by decide
  exact this j h2 h1
theorem loose_ok {n : Nat} {vs ds : List Int} {h : AHeap} {Q} (hv : VB vs) (hl : vs.length ≤ 20) (hd : Drn lsizes ds) (q : ∀ ws : List (List Td), POk vs 0 (.eit ws) → (ws.any fun wy => wy.all (keepB vs)) = true → Q (prv (.eit ws)) h) : callN P (n+2) 179 [.lst (il ds), .lst (il vs)] h Q := by
  refine call_of U.f__law_loose rfl ?_
  show WpSs (ctxOf P (callN P (n+1))) b_law_loose _ [.val (.lst (il ds)), .val (.lst (il vs)), .no, .no, .no, .no, .no, .no, .no] h
  have hz1 : sizeLine = 16777216 := rfl
  obtain ⟨l0, a0, b0⟩ := hd.at (i := 0) (s := 3) rfl
  obtain ⟨l20, a20, b20⟩ := hd.at (i := 20) (s := 1000) rfl
  obtain ⟨d0, hd0⟩ := nat_of a0
  rw [hd0] at b0
  push_cast [b_law_loose]
  refine ⟨Nat.zero_le _, k_subIl (j := 0) l0 ?_⟩
  push_cast [hd0]
  have e1 : (1 : Int) + (d0 : Int) = ((1 + d0 : Nat) : Int) := by omega
  rw [e1, Int.toNat_natCast]
  refine ⟨⟨by omega, by omega⟩, ?_⟩
  refine for_inv (fun k ρ h' => h' = h ∧ ∃ (ws : List (List Td)) (s3 s4 s5 s6 s7 s8 : Slot), ws.length = k ∧ (∀ wy ∈ ws, wy.length ≤ 4 ∧ ∀ t ∈ wy, TIn vs.length t) ∧ (∀ wy, ws[(ds[20] % ((1 + d0 : Nat) : Int)).toNat]? = some wy → wy.all (keepB vs) = true) ∧ ρ = [.val (.lst (il ds)), .val (.lst (il vs)), .own (.lst (ws.map wyv)), s3, s4, s5, s6, s7, s8]) ⟨rfl, [], .no, .no, .no, .no, .no, .no, rfl, (fun _ z => by cases z), (fun _ z => by simp at z), rfl⟩ (fun _ _ _ _ _ => by trivial) ?_ ?_
  · rintro k x _ h D' hx ⟨rfl, ws, s3, s4, s5, s6, s7, s8, rfl, hw, hk, rfl⟩ kn kc kr kb
    obtain ⟨hk1, rfl⟩ := items_range hx
    have hk1 : ws.length < 1 + d0 := hk1
    obtain ⟨l1, a1, b1⟩ := hd.at (i := 1) (s := 1000) rfl
    push_cast [b_law_loose_4]
    refine ⟨Nat.zero_le _, k_subIl (j := 1) l1 ?_⟩
    push_cast [WpSs]
    have dv : CDivA ((ws.length : Int) + 1) := divA (by omega) (by omega)
    refine ⟨dv, by decide, ?_⟩
    obtain ⟨m, hm, hm2⟩ := modI (x := ds[1] / ((ws.length : Int) + 1)) (m := 2) (by omega)
    have hm : (ds[1] / ((ws.length : Int) + 1)) % 2 = (m : Int) := hm
    rw [hm]
    have e2 : (1 : Int) + (m : Int) = ((1 + m : Nat) : Int) := by omega
    rw [e2, Int.toNat_natCast]
    refine ⟨⟨by omega, by omega⟩, ?_⟩
    refine for_inv (fun j ρ h' => h' = h ∧ ∃ (wy : List Td) (s5 s6 s7 s8 : Slot), wy.length = j ∧ (∀ t ∈ wy, TIn vs.length t) ∧ ((ws.length : Int) = ds[20] % ((1 + d0 : Nat) : Int) → wy.all (keepB vs) = true) ∧ ρ = [.val (.lst (il ds)), .val (.lst (il vs)), .own (.lst (ws.map wyv)), .val (.int (ws.length : Int)), .own (.lst (wy.map td)), s5, s6, s7, s8]) ⟨rfl, [], s5, s6, s7, s8, rfl, (fun _ z => by cases z), (fun _ => rfl), rfl⟩ (fun _ _ _ _ _ => by trivial) ?_ ?_
    · rintro j x _ h D2 hx ⟨rfl, wy, s5, s6, s7, s8, rfl, ht, hkeep, rfl⟩ kn2 kc2 kr2 kb2
      obtain ⟨hj1, rfl⟩ := items_range hx
      have hj1 : wy.length < 1 + m := hj1
      have i2 : (2 : Int) + 2 * (ws.length : Int) + (wy.length : Int) = ((2 + 2 * ws.length + wy.length : Nat) : Int) := by omega
      have i8 : (8 : Int) + 2 * (ws.length : Int) + (wy.length : Int) = ((8 + 2 * ws.length + wy.length : Nat) : Int) := by omega
      have i14 : (14 : Int) + 2 * (ws.length : Int) + (wy.length : Int) = ((14 + 2 * ws.length + wy.length : Nat) : Int) := by omega
      have ml : CMulA 2 (ws.length : Int) := mulA_l (by decide) (by decide)
      push_cast [b_law_loose_2]
      refine ⟨ml, ?_⟩
      rw [i2]
      refine k_dr hd (lsizes_at (by omega) (by omega)) fun v2 _ _ => ?_
      push_cast [List.length_map]
      refine ⟨by omega, ml, ?_⟩
      have e3 : (vs.length : Int) + 1 = ((vs.length + 1 : Nat) : Int) := by omega
      obtain ⟨u, hu, hu2⟩ := modI (x := v2) (m := vs.length + 1) (by omega)
      rw [e3, hu, i8]
      refine k_dr hd (lsizes_at (by omega) (by omega)) fun v8 _ _ => ?_
      obtain ⟨v, hv1, hv2⟩ := modI (x := v8) (m := vs.length + 1) (by omega)
      push_cast [List.length_map]
      refine ⟨by omega, ml, ?_⟩
      rw [hv1, i14]
      refine k_dr hd (lsizes_at (by omega) (by omega)) fun v14 _ _ => ?_
      push_cast [WpSs]
      refine ⟨by decide, ?_⟩
      have w1 := Int.emod_nonneg v14 (b := 7) (by omega)
      have w2 := Int.emod_lt_of_pos v14 (b := 7) (by omega)
      generalize v14 % 7 = sl0 at w1 w2
      have bd : ∀ u : Nat, u < vs.length + 1 → -2000000000 ≤ tv vs u ∧ tv vs u ≤ 2000000000 := by
        intro u hu
        unfold tv fv
        show -2000000000 ≤ (if u = 0 then (0 : Int) else _ + 0) ∧ (if u = 0 then (0 : Int) else _ + 0) ≤ 2000000000
        split
        · omega
        · rw [List.getElem?_eq_getElem (by omega : u - 1 < vs.length)]
          have := hv _ (List.getElem_mem (by omega : u - 1 < vs.length))
          show -2000000000 ≤ vs[u - 1] + 0 ∧ vs[u - 1] + 0 ≤ 2000000000
          omega
      have rest : ∀ sl : Int, -3 ≤ sl → sl ≤ 3 → ((ws.length : Int) = ds[20] % ((1 + d0 : Nat) : Int) → 0 ≤ sl) → WpSs (ctxOf P (callN P (n+1))) b_law_loose_1 D2 [.val (.lst (il ds)), .val (.lst (il vs)), .own (.lst (ws.map wyv)), .val (.int (ws.length : Int)), .own (.lst (wy.map td)), .val (.int (wy.length : Int)), .val (.int u), .val (.int v), .val (.int sl)] h := by
        intro sl s1 s2 s3
        have bu := bd u hu2
        have bv := bd v hv2
        push_cast [b_law_loose_1]
        refine ⟨by show 2 ≤ sizeLine; decide, ?_⟩
        refine of_ok (f := (u, 0)) (by show u ≤ vs.length; omega) ?_
        refine ⟨by show 2 ≤ sizeLine; decide, ?_⟩
        refine of_ok (f := (v, 0)) (by show v ≤ vs.length; omega) ?_
        have e : AV.tup [.int (u : Int), .int (v : Int), .int (fv vs (u, 0) - fv vs (v, 0) + sl)] = td (u, v, tv vs u - tv vs v + sl) := rfl
        push_cast [e, td_one]
        refine ⟨by show 3 ≤ sizeLine; decide, by rw [List.length_map]; omega, ?_⟩
        refine kn2 _ _ ⟨rfl, _, _, _, _, _, by simp, ?_, ?_, rfl⟩
        · intro t ht2
          rcases List.mem_append.mp ht2 with ht2 | ht2
          · exact ht t ht2
          · rw [List.mem_singleton.mp ht2]
            refine ⟨by show u ≤ vs.length; omega, by show v ≤ vs.length; omega, ?_⟩
            show -20000000000000 ≤ tv vs u - tv vs v + sl ∧ tv vs u - tv vs v + sl ≤ 20000000000000
            omega
        · intro hc
          rw [List.all_append, hkeep hc]
          have := s3 hc
          have : keepB vs (u, v, tv vs u - tv vs v + sl) = true := decide_eq_true (by show tv vs u - tv vs v ≤ tv vs u - tv vs v + sl; omega)
          simp [this]
      push_cast [b_law_loose_2]
      refine k_subIl (j := 20) l20 ?_
      refine k_subIl (h := h) (j := 0) l0 ?_
      push_cast [hd0]
      rw [e1]
      refine ⟨by omega, ?_⟩
      refine ite_b (fun c => ?_) (fun c => rest _ (by omega) (by omega) (fun z => absurd z c))
      refine rest _ ?_ ?_ ?_
      · split <;> omega
      · split <;> omega
      · intro _; split <;> omega
    · rintro _ h ⟨rfl, wy, s5, s6, s7, s8, hwl, ht, hkeep, rfl⟩
      simp only [List.length_map, List.length_range] at hwl
      push_cast [b_law_loose_3]
      refine k_tupleV ?_
      have e : AV.tup (wy.map td) = wyv wy := rfl
      push_cast [e, wy_one]
      refine ⟨by rw [List.length_map]; omega, ?_⟩
      refine kn _ _ ⟨rfl, _, _, _, _, _, _, _, by simp, ?_, ?_, rfl⟩
      · intro wz hz
        rcases List.mem_append.mp hz with hz | hz
        · exact hw wz hz
        · rw [List.mem_singleton.mp hz]
          exact ⟨by omega, ht⟩
      · intro wz hz
        have c1 := Int.emod_nonneg ds[20] (b := ((1 + d0 : Nat) : Int)) (by omega)
        by_cases c : (ds[20] % ((1 + d0 : Nat) : Int)).toNat < ws.length
        · rw [List.getElem?_append_left c] at hz
          exact hk wz hz
        · rw [List.getElem?_append_right (by omega)] at hz
          have : (ds[20] % ((1 + d0 : Nat) : Int)).toNat - ws.length = 0 := by
            cases e : (ds[20] % ((1 + d0 : Nat) : Int)).toNat - ws.length with
            | zero => rfl
            | succ j => rw [e] at hz; simp at hz
          rw [this] at hz
          simp at hz
          subst hz
          exact hkeep (by omega)
  · rintro _ h ⟨rfl, ws, s3, s4, s5, s6, s7, s8, hk, hw, hkk, rfl⟩
    simp only [List.length_map, List.length_range] at hk
    push_cast [b_law_loose_5]
    refine k_tupleV ?_
    have c1 := Int.emod_nonneg ds[20] (b := ((1 + d0 : Nat) : Int)) (by omega)
    have c2 := Int.emod_lt_of_pos ds[20] (b := ((1 + d0 : Nat) : Int)) (by omega)
    refine ⟨by show 2 ≤ sizeLine; decide, q ws ⟨fun z => ?_, by omega, hw⟩ ?_⟩
    · rw [z] at hk; simp at hk; omega
    · have hlt : (ds[20] % ((1 + d0 : Nat) : Int)).toNat < ws.length := by omega
      exact List.any_eq_true.mpr ⟨_, List.getElem_mem hlt, hkk _ (List.getElem?_eq_getElem hlt)⟩
end
end Kx

set_option maxRecDepth 100000
set_option maxHeartbeats 4000000
namespace Kx
open PySem L2 VL Kv Kg
local macro_rules
  | `(tactic| push_cast [$xs,*]) => `(tactic| try simp only [$xs,*, WpSs, WpS, WpE, WpEs, WpBs, WpO, WpN, WpI, WpC, WpT, getS, setS, tgK, setsS, wipeS, k_add, k_addT, k_sub, k_mul, k_fdiv, k_mod, k_neg, k_lt, k_le, k_gt, k_ge, k_eqI, k_neI, k_eqS, k_neS, k_eqB, k_neB, k_is, k_isn, k_isB, k_isnB, k_gIn, ctx_gdct, isNon_non, isNon_int, isNon_str, isNon_lst, isNon_tup, isNon_adr, k_lenS, k_lenL, k_lenR, k_lenT, k_int, k_str, k_abs, tru_bl, augK, ctx_call, ctx_glob, k_in, k_nin, k_inS, k_addS, k_intB, isi_non_int, isi_non_bool, isi_non_str, isi_non_list, isi_non_tuple, isi_bl_int, isi_bl_bool, isi_bl_str, isi_bl_list, isi_bl_tuple, isi_int_int, isi_int_bool, isi_int_str, isi_int_list, isi_int_tuple, isi_str_int, isi_str_bool, isi_str_str, isi_str_list, isi_str_tuple, isi_tup_int, isi_tup_bool, isi_tup_str, isi_tup_list, isi_tup_tuple, isi_lst_int, isi_lst_bool, isi_lst_str, isi_lst_list, isi_lst_tuple, isi_ro_int, isi_ro_bool, isi_ro_str, isi_ro_list, isi_ro_tuple, zs_lst, zs_tup])
/-- a promise over this range of this list -/
def Fam (vs : List Int) (nl num : Nat) (lo hi : Fm) (p : Pr) : Prop := POk vs nl p ∧ match p with
  | .eit _ => False
  | .all n l h _ _ => n = num ∧ l = lo ∧ h = hi
  | .mat n l h _ _ _ => n = num ∧ l = lo ∧ h = hi
  | .srt n l h => n = num ∧ l = lo ∧ h = hi
  | .blw n l h _ _ _ => n = num ∧ l = lo ∧ h = hi
def shi (f : Fm) : Pr → Pr
  | .eit ws => .eit ws
  | .all n l _ s t => .all n l f s t
  | .mat n l _ s o p => .mat n l f s o p
  | .srt n l _ => .srt n l f
  | .blw n l _ o x y => .blw n l f o x y
theorem rg_nil {vs : List Int} {ls : List Ls} {n : Nat} {lo : Fm} : rgP vs ls n lo lo = [] := by
  unfold rgP
  have : (min (fv vs lo) (fv vs (LF ls n)) - max 0 (fv vs lo)).toNat = 0 := by omega
  simp only [this]
  rfl
theorem shi_ok {w : Wd} {nl num : Nat} {lo hi : Fm} {p : Pr} (h : Fam w.vs nl num lo hi p) : POk w.vs nl (shi lo p) ∧ w.holds (shi lo p) = true := by
  obtain ⟨ok, f⟩ := h
  have cn : ∀ n, w.cells n lo lo = [] := fun n => by unfold Wd.cells; rw [rg_nil]; rfl
  cases p with
  | eit ws => exact f.elim
  | all n l h s t =>
    obtain ⟨rfl, rfl, rfl⟩ := f
    refine ⟨⟨ok.1, ok.2.1, ok.2.1, ok.2.2.2⟩, ?_⟩
    show (w.cells n l l).all _ = true
    rw [cn]; rfl
  | mat n l h s o pp =>
    obtain ⟨rfl, rfl, rfl⟩ := f
    refine ⟨⟨ok.1, ok.2.1, ok.2.1, ok.2.2.2⟩, ?_⟩
    show ((w.cells n l l).zip _).all _ = true
    rw [cn]; rfl
  | srt n l h =>
    obtain ⟨rfl, rfl, rfl⟩ := f
    refine ⟨⟨ok.1, ok.2.1, ok.2.1⟩, ?_⟩
    show pairsLe (w.cells n l l) = true
    rw [cn]; rfl
  | blw n l h o x y =>
    obtain ⟨rfl, rfl, rfl⟩ := f
    refine ⟨⟨ok.1, ok.2.1, ok.2.1, ok.2.2.2⟩, ?_⟩
    show (w.cells n l l).all _ = true
    rw [cn]; rfl
theorem shi_av {vs : List Int} {nl num : Nat} {lo hi : Fm} {p : Pr} (h : Fam vs nl num lo hi p) : ∃ xs : List AV, prv p = .tup xs ∧ xs.length ≤ 7 ∧ AV.tup (cut xs none (some 3) ++ [fmv lo] ++ cut xs (some 4) none) = prv (shi lo p) := by
  obtain ⟨ok, f⟩ := h
  have k3 : ∀ xs : List AV, cut xs none (some 3) = xs.take 3 := fun xs => cut_ns xs 3
  have k4 : ∀ xs : List AV, cut xs (some 4) none = xs.drop 4 := fun xs => cut_sn xs 4
  cases p with
  | eit ws => exact f.elim
  | all n l h s t =>
    obtain ⟨rfl, rfl, rfl⟩ := f
    exact ⟨_, rfl, by simp, by rw [k3, k4]; rfl⟩
  | mat n l h s o pp =>
    obtain ⟨rfl, rfl, rfl⟩ := f
    exact ⟨_, rfl, by simp, by rw [k3, k4]; rfl⟩
  | srt n l h =>
    obtain ⟨rfl, rfl, rfl⟩ := f
    exact ⟨_, rfl, by simp, by rw [k3, k4]; rfl⟩
  | blw n l h o x y =>
    obtain ⟨rfl, rfl, rfl⟩ := f
    exact ⟨_, rfl, by simp, by rw [k3, k4]; rfl⟩
theorem pr_one (l : List Pr) (p : Pr) : l.map prv ++ [prv p] = (l ++ [p]).map prv := by rw [List.map_append]; rfl
section
variable {P : Prg} [Kg.U P] [U P]
theorem promise_5_ok {n : Nat} {h : AHeap} {K num : Nat} {lo hi : Fm} {w : Wd} {Q} {l : List Pr} {s0 s1 s5 s6 s7 s8 s9 s10 s12 s13 s15 s16 s17 s18 s19 s20 s21 s22 s23 : Slot} (s : WdS h K w.ls) (ok : w.Ok) (hne : l ≠ []) (hl : ∀ p ∈ l, Fam w.vs w.ls.length num lo hi p) (q : ∀ p, POk w.vs w.ls.length p → w.holds p = true → Q (prv p) h) :
    WpSs (ctxOf P (callN P (n+3))) b_law_promise_5 { nx := fun _ h => Q .non h, rt := Q } [s0, s1, .val (wdv K w), .val (.adr K), .val (.lst (il w.vs)), s5, s6, s7, s8, s9, s10, .val (fmv lo), s12, s13, .own (.lst (l.map prv)), s15, s16, s17, s18, s19, s20, s21, s22, s23] h := by
  push_cast [b_law_promise_5, viewT_lst]
  refine for_inv (fun i ρ h' => h' = h ∧ ∃ s21, ρ = [s0, s1, .val (wdv K w), .val (.adr K), .val (.lst (il w.vs)), s5, s6, s7, s8, s9, s10, .val (fmv lo), s12, s13, .val (.lst (l.map prv)), s15, s16, s17, s18, s19, s20, s21, s22, s23]) ⟨rfl, _, rfl⟩ (fun _ _ _ _ _ => by trivial) ?_ ?_
  · rintro i x _ h D' hx ⟨rfl, s21, rfl⟩ kn kc kr kb
    obtain ⟨p, hp, rfl⟩ := items_map hx
    have fm := hl p (List.mem_of_getElem? hp)
    push_cast [b_law_promise_3]
    refine true_ok s ok fm.1 ?_
    rw [tru_bl]
    cases c : w.holds p with
    | true =>
      push_cast [if_true]
      exact kr _ _ (q p fm.1 c)
    | false =>
      push_cast [Bool.false_eq_true, if_false]
      exact kn _ _ ⟨rfl, _, rfl⟩
  · rintro _ h ⟨rfl, s21, rfl⟩
    obtain ⟨p, l', rfl⟩ := List.exists_cons_of_ne_nil hne
    have fm := hl p (by simp)
    obtain ⟨xs, e1, e2, e3⟩ := shi_av fm
    obtain ⟨o1, o2⟩ := shi_ok fm
    have hc : ∀ lo hi, (cut xs lo hi).length ≤ 7 := by
      intro a b
      unfold cut
      rw [List.length_take, List.length_drop]
      omega
    have hz : sizeLine = 16777216 := rfl
    push_cast [b_law_promise_4]
    refine k_subV (j := 0) (d := prv p) viewT_lst rfl ?_
    have c1 := hc none (some 3)
    have c2 := hc (some 4) none
    push_cast [e1, k_sliceT]
    refine ⟨by show 1 ≤ sizeLine; decide, by rw [List.length_singleton]; omega, ?_⟩
    refine k_subV (h := h) (j := 0) (d := .tup xs) viewT_lst (by rw [← e1]; rfl) ?_
    push_cast [k_sliceT]
    refine ⟨by rw [List.length_append, List.length_singleton]; omega, ?_⟩
    have := q _ o1 o2
    rw [← e3] at this
    exact this
def psizes : List Int := [5, 40, 40, 40, 40, 40, 9, 9, 9, 9, 6, 10, 40, 3]
def sgl : List Sg := [.lt, .le, .gt, .ge, .eq, .ne]
theorem promise_ok {n : Nat} {ns : List Int} {pl : Int} {h : AHeap} {K : Nat} {w : Wd} {Q} (s : WdS h K w.ls) (ok : w.Ok) (h0 : 0 < w.ls.length) (q : ∀ p, POk w.vs w.ls.length p → w.holds p = true → Q (prv p) h) : callN P (n+4) 180 [.ro (il ns), .int pl, wdv K w] h Q := by
  refine call_of U.f__law_promise rfl ?_
  show WpSs (ctxOf P (callN P (n+3))) b_law_promise _ [.val (.ro (il ns)), .val (.int pl), .val (wdv K w), .no, .no, .no, .no, .no, .no, .no, .no, .no, .no, .no, .no, .no, .no, .no, .no, .no, .no, .no, .no, .no] h
  have hz1 : sizeLine = 16777216 := rfl
  have hv : VB w.vs := ok.v
  have hvl := ok.n
  have hk := ok.k
  push_cast [b_law_promise, wdv]
  refine ⟨by show 14 ≤ sizeLine; decide, ?_⟩
  refine draws_ok (ss := psizes) (sizes_of (by decide)) (by decide) fun ds hd => ?_
  obtain ⟨l0, a0, b0⟩ := hd.at (i := 0) (s := 5) rfl
  refine k_subIl (j := 0) l0 ?_
  push_cast [WpSs]
  refine ite_b (fun c0 => ?_) (fun c0 => ?_)
  · refine ⟨by decide, ⟨by decide, by decide⟩, by decide, ?_⟩
    refine comp_ints (fun _ => 1000) (fun i x R hx r => by push_cast [if_true]; exact r) ?_
    have e2 : [AV.int 3] = il [3] := rfl
    have e3 : ∀ a b : List Int, il a ++ il b = il (a ++ b) := fun a b => (List.map_append ..).symm
    simp only [viewW_lst, e2, e3, List.length_map, List.length_range]
    refine ⟨by show 1 + 20 ≤ _; omega, ?_⟩
    refine draws_ok (ss := lsizes) (sizes_of (by decide)) (by decide) fun ds hd => ?_
    refine loose_ok hv hvl hd fun ws k1 k2 => ?_
    exact q _ ⟨k1.1, k1.2.1, k1.2.2⟩ k2
  push_cast [b_law_promise_9]
  refine k_k2 s fun L hL => ?_
  refine k_lenV hL ?_
  rw [List.length_map]
  refine k_dr (j := 1) hd rfl fun v1 _ _ => ?_
  obtain ⟨num, hn1, hn2⟩ := modI (x := v1) (m := w.ls.length) h0
  push_cast [WpSs]
  refine ⟨by omega, ?_⟩
  rw [hn1]
  refine k_dr (j := 2) hd rfl fun v2 _ _ => ?_
  obtain ⟨o, ho1, ho2⟩ := modI (x := v2) (m := w.ls.length) h0
  push_cast [WpSs]
  refine ⟨by omega, ?_⟩
  rw [ho1]
  obtain ⟨l6, a6, b6⟩ := hd.at (i := 6) (s := 9) rfl
  refine k_subIl (j := 6) l6 ?_
  push_cast [WpSs]
  refine k_dr (j := 3) hd rfl fun v3 _ _ => ?_
  refine form_for_ok hv (by omega) (by omega) fun lo g1 _ => ?_
  push_cast [WpSs]
  refine k_dr (j := 4) hd rfl fun v4 _ _ => ?_
  refine k_dr (j := 7) hd rfl fun v7 a7 b7 => ?_
  push_cast [WpSs]
  refine form_for_ok hv (by omega) (by omega) fun hi g2 _ => ?_
  obtain ⟨l10, a10, b10⟩ := hd.at (i := 10) (s := 6) rfl
  obtain ⟨r, hr⟩ := nat_of a10
  have sgv : [AV.str "<", .str "<=", .str ">", .str ">=", .str "==", .str "!="] = sgl.map fun s => AV.str (sgS s) := rfl
  have cl : cut (sgl.map fun s => AV.str (sgS s)) (some (r : Int)) none = (sgl.drop r).map fun s => AV.str (sgS s) := by rw [cut_sn, List.map_drop]
  have cl2 : cut (sgl.map fun s => AV.str (sgS s)) none (some (r : Int)) = (sgl.take r).map fun s => AV.str (sgS s) := by rw [cut_ns, List.map_take]
  push_cast [WpSs]
  refine ⟨by show 6 ≤ sizeLine; decide, ?_⟩
  rw [sgv]
  refine k_subIl (j := 10) l10 ?_
  push_cast [hr, view_lst, cl]
  refine k_subIl (h := h) (j := 10) l10 ?_
  push_cast [hr, view_lst, cl2, viewW_lst, ← List.map_append]
  have rl : (sgl.drop r ++ sgl.take r).length ≤ 12 := by
    rw [List.length_append, List.length_drop, List.length_take]
    have : sgl.length = 6 := rfl
    omega
  refine ⟨?_, ?_⟩
  · rw [List.length_map, List.length_map, ← List.length_append]; omega
  have rne : sgl.drop r ++ sgl.take r ≠ [] := by
    intro z
    have : (sgl.drop r ++ sgl.take r).length = 0 := by rw [z]; rfl
    rw [List.length_append, List.length_drop, List.length_take] at this
    have : sgl.length = 6 := rfl
    omega
  generalize sgl.drop r ++ sgl.take r = rot at rl rne ⊢
  refine ⟨Nat.zero_le _, k_subIl (j := 0) l0 ?_⟩
  push_cast [WpSs]
  refine ite_b (fun c1 => ?_) (fun c1 => ?_)
  · -- all
    push_cast [viewT_lst]
    refine ⟨by rw [List.length_map]; omega, ?_⟩
    refine comp_inv (fun i acc h' => h' = h ∧ ∃ l : List Pr, acc = l.map prv ∧ l.length = i ∧ ∀ p ∈ l, Fam w.vs w.ls.length num lo hi p) ⟨rfl, [], rfl, rfl, fun _ z => by cases z⟩ (fun _ _ _ _ _ => trivial) ?_ ?_
    · rintro i x _ h R hx ⟨rfl, l, rfl, rfl, hf⟩ k1 k2
      obtain ⟨sg, hsg, rfl⟩ := items_map hx
      push_cast [if_true]
      refine k_dr (j := 5) hd rfl fun v5 _ _ => ?_
      refine k_dr (j := 11) hd rfl fun v11 a11 b11 => ?_
      push_cast [WpSs]
      refine form_for_ok hv (by omega) (by omega) fun f g3 _ => ?_
      refine ⟨by show 6 ≤ sizeLine; decide, ?_⟩
      have e : AV.tup [.str "all", .int (num : Int), fmv lo, fmv hi, .str (sgS sg), fmv f] = prv (.all num lo hi sg f) := rfl
      rw [e]
      refine k1 _ _ ⟨rfl, l ++ [.all num lo hi sg f], pr_one _ _, by simp, fun p hp => ?_⟩
      rcases List.mem_append.mp hp with hp | hp
      · exact hf p hp
      · rw [List.mem_singleton.mp hp]
        exact ⟨⟨hn2, g1, g2, g3⟩, rfl, rfl, rfl⟩
    · rintro _ h ⟨rfl, l, rfl, hl, hf⟩
      rw [List.length_map] at hl
      have lne : l ≠ [] := fun z => by rw [z] at hl; exact rne (List.length_eq_zero_iff.mp hl.symm)
      push_cast [b_law_promise_8]
      refine k_subIl (j := 0) l0 ?_
      push_cast [WpSs]
      rw [if_neg (by rw [c1]; decide)]
      push_cast [b_law_promise_7]
      refine k_subIl (j := 0) l0 ?_
      push_cast [WpSs]
      rw [if_neg (by rw [c1]; decide)]
      push_cast [b_law_promise_6]
      refine k_subIl (j := 0) l0 ?_
      push_cast [WpSs]
      rw [if_neg (by rw [c1]; decide)]
      exact promise_5_ok (num := num) (lo := lo) (hi := hi) s ok lne hf q
  push_cast [b_law_promise_8]
  refine k_subIl (j := 0) l0 ?_
  push_cast [WpSs]
  refine ite_b (fun c2 => ?_) (fun c2 => ?_)
  · -- match
    push_cast [viewT_lst]
    refine ⟨by rw [List.length_map]; omega, ?_⟩
    refine comp_inv (fun i acc h' => h' = h ∧ ∃ l : List Pr, acc = l.map prv ∧ l.length = i ∧ ∀ p ∈ l, Fam w.vs w.ls.length num lo hi p) ⟨rfl, [], rfl, rfl, fun _ z => by cases z⟩ (fun _ _ _ _ _ => trivial) ?_ ?_
    · rintro i x _ h R hx ⟨rfl, l, rfl, rfl, hf⟩ k1 k2
      obtain ⟨sg, hsg, rfl⟩ := items_map hx
      push_cast [if_true]
      refine k_dr (j := 11) hd rfl fun v11 a11 b11 => ?_
      push_cast [WpSs]
      refine ⟨by show 7 ≤ sizeLine; decide, ?_⟩
      have e : AV.tup [.str "match", .int (num : Int), fmv lo, fmv hi, .str (sgS sg), .int (o : Int), .int (v11 - 4)] = prv (.mat num lo hi sg o (v11 - 4)) := rfl
      rw [e]
      refine k1 _ _ ⟨rfl, l ++ [.mat num lo hi sg o (v11 - 4)], pr_one _ _, by simp, fun p hp => ?_⟩
      rcases List.mem_append.mp hp with hp | hp
      · exact hf p hp
      · rw [List.mem_singleton.mp hp]
        exact ⟨⟨hn2, g1, g2, ho2, by omega, by omega⟩, rfl, rfl, rfl⟩
    · rintro _ h ⟨rfl, l, rfl, hl, hf⟩
      rw [List.length_map] at hl
      have lne : l ≠ [] := fun z => by rw [z] at hl; exact rne (List.length_eq_zero_iff.mp hl.symm)
      push_cast [b_law_promise_7]
      refine k_subIl (j := 0) l0 ?_
      push_cast [WpSs]
      rw [if_neg (by rw [c2]; decide)]
      push_cast [b_law_promise_6]
      refine k_subIl (j := 0) l0 ?_
      push_cast [WpSs]
      rw [if_neg (by rw [c2]; decide)]
      exact promise_5_ok (num := num) (lo := lo) (hi := hi) s ok lne hf q
  push_cast [b_law_promise_7]
  refine k_subIl (j := 0) l0 ?_
  push_cast [WpSs]
  refine ite_b (fun c3 => ?_) (fun c3 => ?_)
  · -- sorted
    refine ⟨by show 4 ≤ sizeLine; decide, by show 1 ≤ sizeLine; decide, ?_⟩
    push_cast [b_law_promise_6]
    refine k_subIl (j := 0) l0 ?_
    push_cast [WpSs]
    rw [if_neg (by rw [c3]; decide)]
    exact promise_5_ok (num := num) (lo := lo) (hi := hi) (l := [.srt num lo hi]) s ok (by simp) (fun p hp => by rw [List.mem_singleton.mp hp]; exact ⟨⟨hn2, g1, g2⟩, rfl, rfl, rfl⟩) q
  push_cast [b_law_promise_6]
  refine k_subIl (j := 0) l0 ?_
  push_cast [WpSs]
  rw [if_pos (by have : ds[0] = 4 := by omega
                 rw [this]; rfl)]
  refine k_dr (j := 5) hd rfl fun v5 _ _ => ?_
  obtain ⟨l8, a8, b8⟩ := hd.at (i := 8) (s := 9) rfl
  refine k_subIl (j := 8) l8 ?_
  push_cast [WpSs]
  refine form_for_ok hv (by omega) (by omega) fun fi g3 _ => ?_
  refine k_dr (j := 12) hd rfl fun v12 _ _ => ?_
  refine k_subIl (j := 8) l8 ?_
  push_cast [WpSs]
  refine k_dr (j := 9) hd rfl fun v9 a9 b9 => ?_
  push_cast [WpSs]
  refine form_for_ok hv (by omega) (by omega) fun la g4 _ => ?_
  refine k_k2 s fun L2 hL2 => ?_
  have Lo := L_ok ok.l (o + 1) o (by omega) ho2
  refine length_ok hL2 ok.l.lin (by omega) ho2 ?_
  refine of_ok Lo.1.1 ?_
  push_cast [k_neg, viewT_lst]
  refine ⟨by show 7 ≤ sizeLine; decide, by show 1 ≤ sizeLine; decide, by show 2 ≤ sizeLine; decide, by show 2 ≤ sizeLine; decide, by show 2 ≤ sizeLine; decide, by show 2 ≤ sizeLine; decide, by show 4 ≤ sizeLine; decide, ?_⟩
  generalize fv w.vs (LF w.ls o) = le at Lo
  refine for_inv (fun i ρ h' => h' = h ∧ ∃ (l : List Pr) (s18 s19 s20 : Slot), l.length = 1 + i ∧ (∀ p ∈ l, Fam w.vs w.ls.length num lo hi p) ∧ ρ = [.val (.ro (il ns)), .val (.int pl), .val (wdv K w), .val (.adr K), .val (.lst (il w.vs)), .val (.lst (w.rs.map rlv)), .val (.lst (il ds)), .val (.int (w.ls.length : Int)), .val (.int (num : Int)), .val (.int (o : Int)), .val (.int (ds[6] - 2)), .val (fmv lo), .val (fmv hi), .val (.lst (rot.map fun s => AV.str (sgS s))), .own (.lst (l.map prv)), .val (fmv fi), .val (fmv la), .val (.int le), s18, s19, s20, .no, .no, .no]) ⟨rfl, [.blw num lo hi o fi la], _, _, _, rfl, (fun p hp => by rw [List.mem_singleton.mp hp]; exact ⟨⟨hn2, g1, g2, ho2, g3, g4⟩, rfl, rfl, rfl⟩), rfl⟩ (fun _ _ _ _ _ => by trivial) ?_ ?_
  · rintro i x _ h D' hx ⟨rfl, l, s18, s19, s20, hl, hf, rfl⟩ kn kc kr kb
    obtain ⟨u, v, rfl, hu, hv'⟩ : ∃ u v : Int, x = .tup [.int u, .int v] ∧ (-1000 ≤ u ∧ u ≤ 1000) ∧ (-1000 ≤ v ∧ v ≤ 1000) := by
      have : i < 4 := (List.getElem?_eq_some_iff.mp hx).1
      have : i = 0 ∨ i = 1 ∨ i = 2 ∨ i = 3 := by omega
      rcases this with rfl | rfl | rfl | rfl <;> (cases hx; exact ⟨_, _, rfl, by omega, by omega⟩)
    have i4 : i < 4 := (List.getElem?_eq_some_iff.mp hx).1
    push_cast [b_law_promise_1]
    refine k_dr (j := 5) hd rfl fun v5 _ _ => ?_
    refine form_for_ok hv hu.1 hu.2 fun f1 k1 _ => ?_
    refine k_dr (j := 12) hd rfl fun v12 _ _ => ?_
    refine form_for_ok hv hv'.1 hv'.2 fun f2 k2 _ => ?_
    refine ⟨by show 2 ≤ sizeLine; decide, by show 5 ≤ sizeLine; decide, by show 5 + 2 ≤ sizeLine; decide, by rw [List.length_map]; omega, ?_⟩
    have e : AV.tup ([.str "below", .int (num : Int), fmv lo, fmv hi, .int (o : Int)] ++ [fmv f1, fmv f2]) = prv (.blw num lo hi o f1 f2) := rfl
    rw [e, pr_one]
    refine kn _ _ ⟨rfl, _, _, _, _, by simp; omega, fun p hp => ?_, rfl⟩
    rcases List.mem_append.mp hp with hp | hp
    · exact hf p hp
    · rw [List.mem_singleton.mp hp]
      exact ⟨⟨hn2, g1, g2, ho2, k1, k2⟩, rfl, rfl, rfl⟩
  · rintro _ h ⟨rfl, l, s18, s19, s20, hl, hf, rfl⟩
    have hl : l.length = 1 + 4 := hl
    obtain ⟨l13, a13, b13⟩ := hd.at (i := 13) (s := 3) rfl
    obtain ⟨r13, hr13⟩ := nat_of a13
    have cl : cut (l.map prv) (some (r13 : Int)) none = (l.drop r13).map prv := by rw [cut_sn, List.map_drop]
    have cl2 : cut (l.map prv) none (some (r13 : Int)) = (l.take r13).map prv := by rw [cut_ns, List.map_take]
    push_cast [b_law_promise_2]
    refine k_subIl (h := h) (j := 13) l13 ?_
    push_cast [hr13, view_lst, cl]
    refine k_subIl (h := h) (j := 13) l13 ?_
    push_cast [hr13, view_lst, cl2, viewW_lst, ← List.map_append]
    refine ⟨by rw [List.length_map, List.length_map, List.length_drop, List.length_take]; omega, ?_⟩
    refine promise_5_ok (num := num) (lo := lo) (hi := hi) s ok ?_ ?_ q
    · intro z
      have : (l.drop r13 ++ l.take r13).length = 0 := by rw [z]; rfl
      rw [List.length_append, List.length_drop, List.length_take] at this
      omega
    · intro p hp
      rcases List.mem_append.mp hp with hp | hp
      · exact hf p (List.mem_of_mem_drop hp)
      · exact hf p (List.mem_of_mem_take hp)
end
end Kx

set_option maxRecDepth 100000
set_option maxHeartbeats 4000000
namespace Kx
open PySem L2 VL Kv Kg
local macro_rules
  | `(tactic| push_cast [$xs,*]) => `(tactic| try simp only [$xs,*, WpSs, WpS, WpE, WpEs, WpBs, WpO, WpN, WpI, WpC, WpT, getS, setS, tgK, setsS, wipeS, k_add, k_addT, k_sub, k_mul, k_fdiv, k_mod, k_neg, k_lt, k_le, k_gt, k_ge, k_eqI, k_neI, k_eqS, k_neS, k_eqB, k_neB, k_is, k_isn, k_isB, k_isnB, k_gIn, ctx_gdct, isNon_non, isNon_int, isNon_str, isNon_lst, isNon_tup, isNon_adr, k_lenS, k_lenL, k_lenR, k_lenT, k_int, k_str, k_abs, tru_bl, augK, ctx_call, ctx_glob, k_in, k_nin, k_inS, k_addS, k_intB, isi_non_int, isi_non_bool, isi_non_str, isi_non_list, isi_non_tuple, isi_bl_int, isi_bl_bool, isi_bl_str, isi_bl_list, isi_bl_tuple, isi_int_int, isi_int_bool, isi_int_str, isi_int_list, isi_int_tuple, isi_str_int, isi_str_bool, isi_str_str, isi_str_list, isi_str_tuple, isi_tup_int, isi_tup_bool, isi_tup_str, isi_tup_list, isi_tup_tuple, isi_lst_int, isi_lst_bool, isi_lst_str, isi_lst_list, isi_lst_tuple, isi_ro_int, isi_ro_bool, isi_ro_str, isi_ro_list, isi_ro_tuple, zs_lst, zs_tup])
/-- the law's known, new at the heap's end -/
def wH (h : AHeap) (m : Nat) (ls : List Ls) (ts : List Td) (cs : List Ce) (ps : List Pr) : AHeap := h ++ [.lst (ts.map td), .lst (cs.map cev), .lst (ps.map prv), .lst [.int (m : Int), .adr h.length, .lst (ls.map lsv), .adr (h.length + 1), .adr (h.length + 2)]]
section
variable {h : AHeap} {m : Nat} {ls : List Ls} {ts : List Td} {cs : List Ce} {ps : List Pr}
theorem wH_0 : cells (wH h m ls ts cs ps) h.length = .lst (ts.map td) := cells_at0
theorem wH_1 : cells (wH h m ls ts cs ps) (h.length + 1) = .lst (cs.map cev) := cells_at 1
theorem wH_2 : cells (wH h m ls ts cs ps) (h.length + 2) = .lst (ps.map prv) := cells_at 2
theorem wH_3 : cells (wH h m ls ts cs ps) (h.length + 3) = .lst [.int (m : Int), .adr h.length, .lst (ls.map lsv), .adr (h.length + 1), .adr (h.length + 2)] := cells_at 3
theorem wH_s0 {t : List Td} : (wH h m ls ts cs ps).set h.length (.lst (t.map td)) = wH h m ls t cs ps := set_at0 _
theorem wH_s1 {t : List Ce} : (wH h m ls ts cs ps).set (h.length + 1) (.lst (t.map cev)) = wH h m ls ts t ps := set_at 1 _
theorem wH_s2 {t : List Pr} : (wH h m ls ts cs ps).set (h.length + 2) (.lst (t.map prv)) = wH h m ls ts cs t := set_at 2 _
theorem wH_wd : WdS (wH h m ls ts cs ps) (h.length + 3) ls := ⟨_, _, _, _, _, wH_3, rfl⟩
end
/-- what was drawn -/
structure Wo (w : Wd) (ts : List Td) (cs : List Ce) (ps : List Pr) : Prop where
  ok : w.Ok
  t : ∀ t ∈ ts, DOk w.vs t
  tl : ts.length ≤ 30
  c : ∀ c ∈ cs, c.1 < w.ls.length ∧ FOk w.vs c.2.1 ∧ FOk w.vs c.2.2 ∧ fv w.vs c.2.2 = w.t c.1 (fv w.vs c.2.1)
  cl : cs.length ≤ 10
  p : ∀ p ∈ ps, POk w.vs w.ls.length p ∧ w.holds p = true
  pl : ps.length ≤ 10
theorem k_m3 {h : AHeap} {m : Nat} {ls : List Ls} {ts : List Td} {cs : List Ce} {ps : List Pr} {Q : KA} (q : Q (.adr (h.length + 1))) : subK (wH h m ls ts cs ps) (.adr (h.length + 3)) (.int 3) Q := k_subV (j := 3) (view_adr wH_3) rfl q
theorem k_m4 {h : AHeap} {m : Nat} {ls : List Ls} {ts : List Td} {cs : List Ce} {ps : List Pr} {Q : KA} (q : Q (.adr (h.length + 2))) : subK (wH h m ls ts cs ps) (.adr (h.length + 3)) (.int 4) Q := k_subV (j := 4) (view_adr wH_3) rfl q
theorem pd_fm (h : AHeap) (f : Fm) : pdH h (fmv f) = some (.tuple [.int (f.1 : Int), .int f.2]) := by
  simp only [fmv, pdH, pdHs, Option.bind_some, Option.map_some]
/-- a cell's list and index compared with others -/
theorem k_eqC {h : AHeap} {a b : Nat} {f g : Fm} {Q : KA} (q : ∀ k, Q (.bl k)) : cmpK h .Eq (.tup [.int (a : Int), fmv f]) (.tup [.int (b : Int), fmv g]) Q := by
  show eqGen h false (.tup [.int (a : Int), fmv f]) (.tup [.int (b : Int), fmv g]) Q
  have e : ∀ (a : Nat) (f : Fm), pdH h (.tup [.int (a : Int), fmv f]) = some (.tuple [.int (a : Int), .tuple [.int (f.1 : Int), .int f.2]]) := fun a f => by
    simp only [pdH, pdHs, pd_fm, Option.bind_some, Option.map_some]
  unfold eqGen
  rw [e, e]
  exact ⟨rfl, rfl, q _⟩
theorem drn_c {m : Nat} {s : Int} {ds : List Int} (hd : Drn ((List.range m).map fun _ => s) ds) {j : Nat} (hj : j < m) : ((List.range m).map fun _ => s)[j]? = some s := by
  rw [List.getElem?_map, List.getElem?_range hj]; rfl
section
variable {P : Prg} [Kg.U P] [U P]
theorem smalls_ok {n : Nat} {ds : List Int} {h : AHeap} {Q : List AV → AHeap → Prop} (q : ∀ vs : List Int, vs.length = ds.length → VB vs → Q (il vs) h) {B : AV → AHeap → (Option AV → AHeap → Prop) → Prop}
    (hB : ∀ (d : Int) R, callN P (n+1) 172 [.int d] h (fun v h1 => R (some v) h1) → B (.int d) h R) {chk : AHeap → Prop} (hc : chk h) : compL B chk (il ds) [] h Q := by
  refine comp_inv (fun i acc h' => h' = h ∧ ∃ vs : List Int, acc = il vs ∧ vs.length = i ∧ VB vs) ⟨rfl, [], rfl, rfl, fun _ z => by cases z⟩ (fun _ _ _ _ z => by rw [z.1]; exact hc) ?_ ?_
  · rintro i x _ h R hx ⟨rfl, vs, rfl, rfl, hv⟩ k1 k2
    obtain ⟨d, hd, rfl⟩ := items_map hx
    refine hB d R (small_ok fun v v1 v2 => ?_)
    refine k1 _ _ ⟨rfl, vs ++ [v], int_one _ _, by simp, fun x hx => ?_⟩
    rcases List.mem_append.mp hx with hx | hx
    · exact hv x hx
    · rw [List.mem_singleton.mp hx]; exact ⟨v1, v2⟩
  · rintro _ h ⟨rfl, vs, rfl, hl, hv⟩
    exact q vs (by simpa using hl) hv
theorem forms_ok {n : Nat} {vs ds : List Int} {h : AHeap} {Q : List AV → AHeap → Prop} (hv : VB vs) {g : Int → Int} (hg : ∀ d, -1000 ≤ g d ∧ g d ≤ 1000) (q : ∀ fs : List Fm, fs.length = ds.length → (∀ f ∈ fs, FOk vs f) → Q (fs.map fmv) h) {B : AV → AHeap → (Option AV → AHeap → Prop) → Prop}
    (hB : ∀ (d : Int) R, callN P (n+1) 173 [.int d, .lst (il vs), .int (g d)] h (fun v h1 => R (some v) h1) → B (.int d) h R) {chk : AHeap → Prop} (hc : chk h) : compL B chk (il ds) [] h Q := by
  refine comp_inv (fun i acc h' => h' = h ∧ ∃ fs : List Fm, acc = fs.map fmv ∧ fs.length = i ∧ ∀ f ∈ fs, FOk vs f) ⟨rfl, [], rfl, rfl, fun _ z => by cases z⟩ (fun _ _ _ _ z => by rw [z.1]; exact hc) ?_ ?_
  · rintro i x _ h R hx ⟨rfl, fs, rfl, rfl, hf⟩ k1 k2
    obtain ⟨d, hd, rfl⟩ := items_map hx
    refine hB d R (form_for_ok hv (hg d).1 (hg d).2 fun f f1 _ => ?_)
    refine k1 _ _ ⟨rfl, fs ++ [f], by rw [List.map_append]; rfl, by simp, fun x hx => ?_⟩
    rcases List.mem_append.mp hx with hx | hx
    · exact hf x hx
    · rw [List.mem_singleton.mp hx]; exact f1
  · rintro _ h ⟨rfl, fs, rfl, hl, hf⟩
    exact q fs (by simpa using hl) hf
theorem world_ok {n most taken : Nat} {ns : List Int} {h : AHeap} {Q} (hm : most ≤ 10) (ht : taken ≤ 9) (q : ∀ (w : Wd) ts cs ps (fr : List Fm), Wo w ts cs ps → 1 ≤ w.vs.length → w.vs.length ≤ 4 → 1 ≤ w.ls.length → w.ls.length ≤ 3 → cs.length ≤ most → ps.length ≤ taken → fr.length ≤ 2 → (∀ f ∈ fr, FOk w.vs f) → Q (.tup [wdv (h.length + 3) w, .lst (fr.map fmv)]) (wH h w.vs.length w.ls ts cs ps)) :
    callN P (n+5) 226 [.ro (il ns), .int (most : Int), .int (taken : Int)] h Q := by
  refine call_of U.f__law_world rfl ?_
  show WpSs (ctxOf P (callN P (n+4))) b_law_world _ [.val (.ro (il ns)), .val (.int most), .val (.int taken), .no, .no, .no, .no, .no, .no, .no, .no, .no, .no, .no, .no, .no, .no, .no, .no, .no, .no] h
  have hz1 : sizeLine = 16777216 := rfl
  push_cast [b_law_world]
  refine ⟨by show 6 ≤ sizeLine; decide, ?_⟩
  refine draws_ok (ss := [4, 3, (most : Int) + 1, 5, (taken : Int) + 1, 3]) (sizes_of (by intro s hs; simp at hs; omega)) (by simp) fun sh hs => ?_
  obtain ⟨l0, a0, b0⟩ := hs.at (i := 0) (s := 4) rfl
  obtain ⟨l1, a1, b1⟩ := hs.at (i := 1) (s := 3) rfl
  obtain ⟨l2, a2, b2⟩ := hs.at (i := 2) (s := (most : Int) + 1) rfl
  obtain ⟨l3, a3, b3⟩ := hs.at (i := 3) (s := 5) rfl
  obtain ⟨l4, a4, b4⟩ := hs.at (i := 4) (s := (taken : Int) + 1) rfl
  obtain ⟨l5, a5, b5⟩ := hs.at (i := 5) (s := 3) rfl
  have t9 : (10 : Int) ^ ((9 : Int).toNat) = 1000000000 := by decide
  refine k_subIl (j := 0) l0 ?_
  push_cast [k_pow, t9]
  obtain ⟨s0, e0⟩ := nat_of a0
  obtain ⟨s1, e1⟩ := nat_of a1
  obtain ⟨s2, e2⟩ := nat_of a2
  obtain ⟨s3, e3⟩ := nat_of a3
  obtain ⟨s4, e4⟩ := nat_of a4
  obtain ⟨s5, e5⟩ := nat_of a5
  have f0 : (1 : Int) + (s0 : Int) = ((1 + s0 : Nat) : Int) := by omega
  have f1 : (1 : Int) + (s1 : Int) = ((1 + s1 : Nat) : Int) := by omega
  rw [e0, f0, Int.toNat_natCast]
  refine ⟨⟨by omega, by omega⟩, by simp; omega, ?_⟩
  refine comp_ints (fun _ => 1000000000) (fun i x R hx r => by push_cast [if_true, k_pow, t9]; exact ⟨⟨by decide, by decide, by decide⟩, r⟩) ?_
  rw [List.length_map, List.length_range]
  refine draws_ok (ss := (List.range (1 + s0)).map fun _ => 1000000000) (sizes_of (fun s hs => by obtain ⟨_, _, rfl⟩ := List.mem_map.mp hs; omega)) (by simp; omega) fun vd hvd => ?_
  have vl : vd.length = 1 + s0 := by rw [hvd.1, List.length_map, List.length_range]
  push_cast [viewT_lst]
  refine ⟨by rw [List.length_map]; omega, ?_⟩
  refine smalls_ok (P := P) (n := n + 3) (fun vs vsl hv => ?_) (fun d R r => by push_cast [if_true]; exact r) trivial
  rw [vl] at vsl
  refine k_subIl (j := 1) l1 ?_
  push_cast [e1, f1]
  refine lists_ok (n := n + 1) hv (by omega) (by omega) fun ls rs ts lsl hl hr tsl htb => ?_
  have ok : Wd.Ok ⟨vs, ls, rs⟩ := ⟨hl, hr, hv, by show vs.length ≤ 20; omega, by show ls.length ≤ 20; omega⟩
  push_cast [List.length_map, List.append_assoc, List.cons_append, List.nil_append, List.length_append, List.length_cons, List.length_nil]
  refine ⟨Nat.zero_le _, Nat.zero_le _, by show 5 ≤ sizeLine; decide, by show 3 ≤ sizeLine; decide, ?_⟩
  have eH : h ++ [.lst (ts.map td), .lst [], .lst [], .lst [.int (vs.length : Int), .adr h.length, .lst (ls.map lsv), .adr (h.length + 1), .adr (h.length + 2)]] = wH h vs.length ls ts [] [] := rfl
  have eW : AV.tup [.adr (h.length + 3), .lst (il vs), .lst (rs.map rlv)] = wdv (h.length + 3) ⟨vs, ls, rs⟩ := rfl
  rw [eH, eW]
  have f4 : (4 : Int) * (most : Int) = ((4 * most : Nat) : Int) := by omega
  refine ⟨mulA_l (by decide) (by decide), ?_⟩
  rw [f4, Int.toNat_natCast]
  refine ⟨⟨by omega, by omega⟩, by simp; omega, ?_⟩
  refine comp_ints (fun _ => 40) (fun i x R hx r => by push_cast [if_true]; exact r) ?_
  rw [List.length_map, List.length_range]
  refine draws_ok (ss := (List.range (4 * most)).map fun _ => 40) (sizes_of (fun s hs => by obtain ⟨_, _, rfl⟩ := List.mem_map.mp hs; omega)) (by simp; omega) fun cd hcd => ?_
  refine k_subIl (j := 2) l2 ?_
  push_cast [e2]
  refine ⟨⟨by omega, by omega⟩, ?_⟩
  rw [Int.toNat_natCast]
  refine for_inv (fun k ρ h' => ∃ (cs : List Ce) (s11 s12 s13 s14 s20 : Slot), h' = wH h vs.length ls ts cs [] ∧ cs.length ≤ k ∧ (∀ c ∈ cs, c.1 < ls.length ∧ FOk vs c.2.1 ∧ FOk vs c.2.2 ∧ fv vs c.2.2 = Wd.t ⟨vs, ls, rs⟩ c.1 (fv vs c.2.1)) ∧ ρ = [.val (.ro (il ns)), .val (.int most), .val (.int taken), .val (.lst (il sh)), .val (.lst (il vs)), .val (.lst (ls.map lsv)), .val (.lst (rs.map rlv)), .val (.adr h.length), .val (.adr (h.length + 3)), .val (wdv (h.length + 3) ⟨vs, ls, rs⟩), .val (.lst (il cd)), s11, s12, s13, s14, .no, .no, .no, .no, .no, s20]) ⟨[], .no, .no, .no, .no, .no, rfl, Nat.le_refl _, (fun _ z => by cases z), rfl⟩ (fun _ _ _ _ _ => by trivial) ?_ ?_
  · rintro k x _ _ D' hx ⟨cs, s11, s12, s13, s14, s20, rfl, hcl, hc, rfl⟩ kn kc kr kb
    obtain ⟨hk, rfl⟩ := items_range hx
    have b0 : (4 : Int) * (k : Int) = ((4 * k : Nat) : Int) := by omega
    have b1 : (4 : Int) * (k : Int) + 1 = ((4 * k + 1 : Nat) : Int) := by omega
    have b2 : (4 : Int) * (k : Int) + 2 = ((4 * k + 2 : Nat) : Int) := by omega
    have b3 : (4 : Int) * (k : Int) + 3 = ((4 * k + 3 : Nat) : Int) := by omega
    push_cast [b_law_world_1, b1, b2, b3]
    refine ⟨mulA_l (by decide) (by decide), ?_⟩
    rw [b0]
    refine k_dr hcd (drn_c hcd (by omega)) fun v0 _ _ => ?_
    push_cast [List.length_map]
    obtain ⟨num, hn1, hn2⟩ := modI (x := v0) (m := ls.length) (by omega)
    refine ⟨by omega, mulA_l (by decide) (by decide), ?_⟩
    rw [hn1]
    refine k_dr hcd (drn_c hcd (by omega)) fun v1 _ _ => ?_
    refine ⟨mulA_l (by decide) (by decide), ?_⟩
    refine k_dr hcd (drn_c hcd (by omega)) fun v2 _ _ => ?_
    push_cast [WpSs]
    refine ⟨by decide, ?_⟩
    refine form_for_ok hv (by omega) (by omega) fun f g1 g2 => ?_
    refine ⟨mulA_l (by decide) (by decide), ?_⟩
    refine k_dr hcd (drn_c hcd (by omega)) fun v3 _ _ => ?_
    refine of_ok g1.1 ?_
    refine there_ok (n := n + 2) (w := ⟨vs, ls, rs⟩) wH_wd ok hn2 ?_
    have tb := T_bd (k := fv vs f) hl hr (by omega) (by omega) (num + 1) num (by omega) hn2
    refine form_for_ok hv tb.1 tb.2 fun g g3 g4 => ?_
    refine k_m3 ?_
    have hv1 : viewT (wH h vs.length ls ts cs []) (.adr (h.length + 1)) = some (cs.map cev) := view_adr wH_1
    push_cast [hv1]
    refine ⟨by rw [List.length_map]; omega, ?_⟩
    have app : ∀ s20, D'.nx [.val (.ro (il ns)), .val (.int most), .val (.int taken), .val (.lst (il sh)), .val (.lst (il vs)), .val (.lst (ls.map lsv)), .val (.lst (rs.map rlv)), .val (.adr h.length), .val (.adr (h.length + 3)), .val (wdv (h.length + 3) ⟨vs, ls, rs⟩), .val (.lst (il cd)), .val (.int k), .val (.int num), .val (fmv f), .val (fmv g), .no, .no, .no, .no, .no, s20] (wH h vs.length ls ts (cs ++ [(num, f, g)]) []) := by
      intro s20
      refine kn _ _ ⟨_, _, _, _, _, _, rfl, by simp; omega, fun c hc2 => ?_, rfl⟩
      rcases List.mem_append.mp hc2 with hc2 | hc2
      · exact hc c hc2
      · rw [List.mem_singleton.mp hc2]
        exact ⟨hn2, g1, g3, g4⟩
    refine comp_inv (fun i acc h' => h' = wH h vs.length ls ts cs []) rfl (fun _ _ _ _ z => by rw [z]; exact hv1) ?_ ?_
    · rintro i x acc _ R hx rfl k1 k2
      obtain ⟨c, hc2, rfl⟩ := items_map hx
      have ec : cut [AV.int (c.1 : Int), fmv c.2.1, fmv c.2.2] none (some 2) = [AV.int (c.1 : Int), fmv c.2.1] := cut_ns _ 2
      push_cast [cev, k_sliceT, ec]
      refine ⟨by show 2 ≤ sizeLine; decide, ?_⟩
      refine k_eqC fun b => ?_
      cases b with
      | true => push_cast [if_true]; exact k1 _ _ rfl
      | false => push_cast [Bool.false_eq_true, if_false]; exact k2 _ rfl
    · rintro acc _ rfl
      push_cast [WpSs]
      refine ite_b (fun c0 => ?_) (fun c0 => kn _ _ ⟨_, _, _, _, _, _, rfl, by omega, hc, rfl⟩)
      refine k_m3 ?_
      have e : AV.tup [.int (num : Int), fmv f, fmv g] = cev (num, f, g) := rfl
      push_cast [wH_1, e]
      refine ⟨by show 3 ≤ sizeLine; decide, ?_⟩
      push_cast [wH_1, appC, ce_one, wH_s1]
      refine ⟨by rw [List.length_map]; omega, ?_⟩
      exact app _
  · rintro _ _ ⟨cs, s11, s12, s13, s14, s20, rfl, hcl, hc, rfl⟩
    rw [List.length_map, List.length_range] at hcl
    push_cast [b_law_world_6]
    refine k_subIl (h := wH h vs.length ls ts cs []) (j := 3) l3 ?_
    have f3 : (3 : Int) * (s3 : Int) = ((3 * s3 : Nat) : Int) := by omega
    push_cast [e3]
    refine ⟨mulA_l (by decide) (by decide), ?_⟩
    rw [f3, Int.toNat_natCast]
    refine ⟨⟨by omega, by omega⟩, by simp; omega, ?_⟩
    refine comp_ints (fun _ => 40) (fun i x R hx r => by push_cast [if_true]; exact r) ?_
    rw [List.length_map, List.length_range]
    refine draws_ok (ss := (List.range (3 * s3)).map fun _ => 40) (sizes_of (fun s hs => by obtain ⟨_, _, rfl⟩ := List.mem_map.mp hs; omega)) (by simp; omega) fun md hmd => ?_
    refine k_subIl (h := wH h vs.length ls ts cs []) (j := 3) l3 ?_
    push_cast [e3]
    refine ⟨⟨by omega, by omega⟩, ?_⟩
    rw [Int.toNat_natCast]
    refine for_inv (fun k ρ h' => ∃ (ts : List Td) (s11 s12 s13 s14 s16 s17 : Slot), h' = wH h vs.length ls ts cs [] ∧ ts.length ≤ 1 + s1 + k ∧ (∀ t ∈ ts, DOk vs t) ∧ ρ = [.val (.ro (il ns)), .val (.int most), .val (.int taken), .val (.lst (il sh)), .val (.lst (il vs)), .val (.lst (ls.map lsv)), .val (.lst (rs.map rlv)), .val (.adr h.length), .val (.adr (h.length + 3)), .val (wdv (h.length + 3) ⟨vs, ls, rs⟩), .val (.lst (il cd)), s11, s12, s13, s14, .val (.lst (il md)), s16, s17, .no, .no, s20]) ⟨ts, s11, s12, s13, s14, .no, .no, rfl, by omega, htb, rfl⟩ (fun _ _ _ _ _ => by trivial) ?_ ?_
    · rintro k x _ _ D' hx ⟨ts, s11, s12, s13, s14, s16, s17, rfl, htl, htb, rfl⟩ kn kc kr kb
      obtain ⟨hk, rfl⟩ := items_range hx
      have b0 : (3 : Int) * (k : Int) = ((3 * k : Nat) : Int) := by omega
      have b1 : (3 : Int) * (k : Int) + 1 = ((3 * k + 1 : Nat) : Int) := by omega
      have b2 : (3 : Int) * (k : Int) + 2 = ((3 * k + 2 : Nat) : Int) := by omega
      have e3 : (vs.length : Int) + 1 = ((vs.length + 1 : Nat) : Int) := by omega
      push_cast [b_law_world_2, b1, b2]
      refine ⟨mulA_l (by decide) (by decide), ?_⟩
      rw [b0]
      refine k_dr hmd (drn_c hmd (by omega)) fun v0 _ _ => ?_
      push_cast [List.length_map]
      obtain ⟨u, hu1, hu2⟩ := modI (x := v0) (m := vs.length + 1) (by omega)
      refine ⟨by omega, mulA_l (by decide) (by decide), ?_⟩
      rw [e3, hu1]
      refine k_dr hmd (drn_c hmd (by omega)) fun v1 _ _ => ?_
      push_cast [List.length_map]
      obtain ⟨v, hv1, hv2⟩ := modI (x := v1) (m := vs.length + 1) (by omega)
      refine ⟨by omega, ?_⟩
      rw [hv1]
      push_cast [wH_0]
      refine ⟨by show 2 ≤ sizeLine; decide, ?_⟩
      refine of_ok (f := (u, 0)) (by show u ≤ vs.length; omega) ?_
      refine ⟨by show 2 ≤ sizeLine; decide, ?_⟩
      refine of_ok (f := (v, 0)) (by show v ≤ vs.length; omega) ?_
      refine ⟨mulA_l (by decide) (by decide), ?_⟩
      refine k_dr hmd (drn_c hmd (by omega)) fun v2 _ _ => ?_
      push_cast [WpSs]
      have w1 := Int.emod_nonneg v2 (b := 4) (by omega)
      have w2 := Int.emod_lt_of_pos v2 (b := 4) (by omega)
      refine ⟨by decide, by show 3 ≤ sizeLine; decide, ?_⟩
      generalize v2 % 4 = sl at w1 w2
      have e : AV.tup [.int (u : Int), .int (v : Int), .int (fv vs (u, 0) - fv vs (v, 0) + sl)] = td (u, v, tv vs u - tv vs v + sl) := rfl
      push_cast [e, wH_0, appC, td_one, wH_s0]
      refine ⟨by rw [List.length_map]; omega, ?_⟩
      refine kn _ _ ⟨_, _, _, _, _, _, _, rfl, by simp; omega, fun t ht2 => ?_, rfl⟩
      rcases List.mem_append.mp ht2 with ht2 | ht2
      · exact htb t ht2
      · rw [List.mem_singleton.mp ht2]
        have bd : ∀ u : Nat, u < vs.length + 1 → -2000000000 ≤ tv vs u ∧ tv vs u ≤ 2000000000 := by
          intro u hu
          unfold tv fv
          show -2000000000 ≤ (if u = 0 then (0 : Int) else _ + 0) ∧ (if u = 0 then (0 : Int) else _ + 0) ≤ 2000000000
          split
          · omega
          · rw [List.getElem?_eq_getElem (by omega : u - 1 < vs.length)]
            have := hv _ (List.getElem_mem (by omega : u - 1 < vs.length))
            show -2000000000 ≤ vs[u - 1] + 0 ∧ vs[u - 1] + 0 ≤ 2000000000
            omega
        have bu := bd u hu2
        have bv := bd v hv2
        refine ⟨⟨by show u ≤ vs.length; omega, by show v ≤ vs.length; omega, ?_⟩, ?_⟩
        · show -20000000000000 ≤ tv vs u - tv vs v + sl ∧ tv vs u - tv vs v + sl ≤ 20000000000000
          omega
        · show tv vs u - tv vs v ≤ tv vs u - tv vs v + sl
          omega
    · rintro _ _ ⟨ts, s11, s12, s13, s14, s16, s17, rfl, htl, htb, rfl⟩
      rw [List.length_map, List.length_range] at htl
      push_cast [b_law_world_5]
      refine k_subIl (h := wH h vs.length ls ts cs []) (j := 4) l4 ?_
      push_cast [e4]
      refine ⟨⟨by omega, by omega⟩, ?_⟩
      rw [Int.toNat_natCast]
      refine for_inv (fun k ρ h' => ∃ (ps : List Pr) (s11 : Slot), h' = wH h vs.length ls ts cs ps ∧ ps.length = k ∧ (∀ p ∈ ps, POk vs ls.length p ∧ Wd.holds ⟨vs, ls, rs⟩ p = true) ∧ ρ = [.val (.ro (il ns)), .val (.int most), .val (.int taken), .val (.lst (il sh)), .val (.lst (il vs)), .val (.lst (ls.map lsv)), .val (.lst (rs.map rlv)), .val (.adr h.length), .val (.adr (h.length + 3)), .val (wdv (h.length + 3) ⟨vs, ls, rs⟩), .val (.lst (il cd)), s11, s12, s13, s14, .val (.lst (il md)), s16, s17, .no, .no, s20]) ⟨[], s11, rfl, rfl, (fun _ z => by cases z), rfl⟩ (fun _ _ _ _ _ => by trivial) ?_ ?_
      · rintro k x _ _ D' hx ⟨ps, s11, rfl, rfl, hp, rfl⟩ kn kc kr kb
        obtain ⟨hk, rfl⟩ := items_range hx
        push_cast [b_law_world_3]
        refine k_m4 ?_
        push_cast [wH_2]
        refine promise_ok (n := n) (w := ⟨vs, ls, rs⟩) wH_wd ok (by show 0 < ls.length; omega) fun p p1 p2 => ?_
        push_cast [wH_2, appC, pr_one, wH_s2]
        refine ⟨by rw [List.length_map]; omega, ?_⟩
        refine kn _ _ ⟨_, _, rfl, by simp, fun p' hp' => ?_, rfl⟩
        rcases List.mem_append.mp hp' with hp' | hp'
        · exact hp p' hp'
        · rw [List.mem_singleton.mp hp']; exact ⟨p1, p2⟩
      · rintro _ _ ⟨ps, s11, rfl, hpl, hp, rfl⟩
        rw [List.length_map, List.length_range] at hpl
        push_cast [b_law_world_4]
        refine ⟨by show 2 ≤ sizeLine; decide, ?_⟩
        refine draws_ok (ss := [45, 45]) (sizes_of (by decide)) (by decide) fun fd hfd => ?_
        refine k_subIl (h := wH h vs.length ls ts cs ps) (j := 5) l5 ?_
        have cl : cut (il fd) none (some (s5 : Int)) = il (fd.take s5) := by rw [cut_ns, il, il, List.map_take]
        have fl : fd.length = 2 := hfd.1
        push_cast [e5, view_lst, cl, viewT_lst]
        refine ⟨by rw [List.length_map, List.length_take]; omega, ?_⟩
        refine forms_ok (P := P) (n := n + 3) (g := fun d => d / 5 % 9 - 1) hv (fun d => ?_) (fun fs fsl ff => ?_) (fun d R r => ?_) trivial
        · have := Int.emod_nonneg (d / 5) (b := 9) (by omega)
          have := Int.emod_lt_of_pos (d / 5) (b := 9) (by omega)
          omega
        · rw [List.length_take] at fsl
          refine ⟨by show 2 ≤ sizeLine; decide, ?_⟩
          refine q ⟨vs, ls, rs⟩ ts cs ps fs ⟨ok, htb, by omega, hc, by omega, hp, by omega⟩ ?_ ?_ ?_ ?_ (by omega) (by omega) (by omega) ff
          · show 1 ≤ vs.length; omega
          · show vs.length ≤ 4; omega
          · show 1 ≤ ls.length; omega
          · show ls.length ≤ 3; omega
        · push_cast [if_true]
          exact ⟨divA (by decide) (by decide), by decide, r⟩
end
end Kx

set_option maxRecDepth 100000
set_option maxHeartbeats 4000000
/-! splits and their ways, plain -/
namespace Ws
open PySem L2 VL Kv Ks
abbrev Way := List Td
def wyv (w : Way) : AV := .tup (w.map td)
def wyp (w : Way) : PyData := .tuple (w.map tdp)
def lss (f g : Fm) : Td := (f.1, g.1, g.2 - f.2 - 1)
def atm (f g : Fm) : Td := (f.1, g.1, g.2 - f.2)
def opp (t : Td) : Td := (t.2.1, t.1, -t.2.2 - 1)
def eqw (f g : Fm) : Way := [atm f g, atm g f]
def sgW (s : Sg) (l r : Fm) : List Way := match s with
  | .lt => [[lss l r]] | .le => [[atm l r]] | .gt => [[lss r l]] | .ge => [[atm r l]] | .eq => [eqw l r] | .ne => [[lss l r], [lss r l]]
def pre (ts : List Td) (i : Nat) : List Way := (List.range i).map fun j => (ts.take j).map opp ++ (ts[j]?).toList
def parted (ts : List Td) (last : List Way) : List Way := pre ts ts.length ++ last.map fun w => ts.map opp ++ w
theorem pre_succ {ts : List Td} {i : Nat} {t : Td} (h : ts[i]? = some t) : pre ts (i + 1) = pre ts i ++ [(ts.take i).map opp ++ [t]] := by
  unfold pre
  rw [List.range_succ, List.map_append, List.map_cons, List.map_nil, h]
  rfl
theorem opp_succ {ts : List Td} {i : Nat} {t : Td} (h : ts[i]? = some t) : (ts.take (i + 1)).map opp = (ts.take i).map opp ++ [opp t] := by
  rw [List.take_succ, h, List.map_append]; rfl
/-! ### splits -/
inductive Knd where
  | pair | write | eit | all | mat | srt | blw
deriving DecidableEq
def kS : Knd → Str
  | .pair => "pair" | .write => "write" | .eit => "either" | .all => "all" | .mat => "match" | .srt => "sorted" | .blw => "below"
def kN : Knd → Nat
  | .pair => 2 | .write => 1 | .eit => 1 | .all => 2 | .mat => 2 | .srt => 3 | .blw => 3
def kinds : List (Str × Int) := [("pair", 3), ("write", 2), ("either", 2), ("all", 3), ("match", 3), ("sorted", 4), ("below", 4)]
def prK : Pr → Knd
  | .eit _ => .eit | .all .. => .all | .mat .. => .mat | .srt .. => .srt | .blw .. => .blw
/-- a split as it is handed in -/
def spv (k : Str) (ns : List Int) : AV := .tup (.str k :: ns.map AV.int)
def rowB (ns bs : List Int) : Bool := (ns.zip bs).all fun p => decide (0 ≤ p.1 ∧ p.1 < p.2)
inductive Sp where
  | pair (m n : Nat) | write (m : Nat) | pr (q : Nat) (is : List Nat)
def kindOf (k : Str) : Option Knd := if k = "pair" then some .pair else if k = "write" then some .write else if k = "either" then some .eit else if k = "all" then some .all else if k = "match" then some .mat else if k = "sorted" then some .srt else if k = "below" then some .blw else none
theorem kindOf_some {k : Str} {d : Knd} (h : kindOf k = some d) : k = kS d := by
  unfold kindOf at h
  repeat' split at h
  all_goals first | (injection h with h; subst h; assumption) | cases h
theorem kindOf_kS (d : Knd) : kindOf (kS d) = some d := by cases d <;> decide +kernel
theorem kinds_look (k : Str) : kinds.lookup k = (kindOf k).map fun d => ((kN d + 1 : Nat) : Int) := by
  unfold kindOf
  simp only [kinds, List.lookup_cons, List.lookup_nil]
  by_cases h1 : k = "pair"
  · subst h1; decide +kernel
  by_cases h2 : k = "write"
  · subst h2; decide +kernel
  by_cases h3 : k = "either"
  · subst h3; decide +kernel
  by_cases h4 : k = "all"
  · subst h4; decide +kernel
  by_cases h5 : k = "match"
  · subst h5; decide +kernel
  by_cases h6 : k = "sorted"
  · subst h6; decide +kernel
  by_cases h7 : k = "below"
  · subst h7; decide +kernel
  simp only [h1, h2, h3, h4, h5, h6, h7, if_false, beq_eq_false_iff_ne.mpr h1, beq_eq_false_iff_ne.mpr h2, beq_eq_false_iff_ne.mpr h3, beq_eq_false_iff_ne.mpr h4, beq_eq_false_iff_ne.mpr h5, beq_eq_false_iff_ne.mpr h6, beq_eq_false_iff_ne.mpr h7]
  rfl
def isWr : Ls → Bool
  | .wr .. => true
  | .nw _ => false
/-- the split, if it is one -/
def fit (K : Kd) (many : Nat) (d : Knd) (ns : List Int) : Option Sp := match d, ns with
  | .pair, [m, n] => if 0 ≤ m ∧ m < n ∧ 0 ≤ n ∧ n < (K.cs.length : Int) then
      (match K.cs[m.toNat]?, K.cs[n.toNat]? with
      | some c, some e => if c.1 = e.1 then some (.pair m.toNat n.toNat) else none
      | _, _ => none) else none
  | .write, [m] => if 0 ≤ m ∧ m < (K.cs.length : Int) then
      (match K.cs[m.toNat]? with
      | some c => (match K.ls[c.1]? with
        | some l => if isWr l then some (.write m.toNat) else none
        | none => none)
      | none => none) else none
  | .pair, _ => none
  | .write, _ => none
  | d, q :: is => if (q :: is).length = kN d ∧ rowB (q :: is) [(K.ps.length : Int), (many : Int), (many : Int)] = true then
      (match K.ps[q.toNat]? with
      | some p => if prK p = d then some (.pr q.toNat (is.map Int.toNat)) else none
      | none => none) else none
  | _, [] => none
def cyc (K : Kd) (m : Nat) : Ce := (K.cs[m]?).getD (0, (0, 0), (0, 0))
def ix (idx : List Fm) (i : Nat) : Fm := (idx[i]?).getD (0, 0)
/-- its ways, and the known with the cells that it speaks of -/
def ways (K : Kd) (idx : List Fm) : Sp → List Way × Kd
  | .pair m n =>
    let c := cyc K m
    let e := cyc K n
    ([[lss c.2.1 e.2.1], [lss e.2.1 c.2.1], eqw c.2.1 e.2.1 ++ eqw c.2.2 e.2.2], K)
  | .write m =>
    let c := cyc K m
    match K.ls[c.1]? with
    | some (.wr b i v) =>
      let old := K.val b c.2.1
      ([lss c.2.1 i :: eqw c.2.2 old, lss i c.2.1 :: eqw c.2.2 old, eqw c.2.1 i ++ eqw c.2.2 v], K.have b c.2.1)
    | _ => ([], K)
  | .pr q is => match K.ps[q]?, is with
    | some (.eit ws), _ => (ws, K)
    | some (.all n lo hi s f), [i] =>
      let x := ix idx i
      (parted [lss x lo, atm hi x, lss x (0, 0), atm (LF K.ls n) x] (sgW s (K.val n x) f), K.have n x)
    | some (.mat n lo hi s o p), [i] =>
      let x := ix idx i
      let K1 := K.have n x
      let r := K1.val o x
      (parted [lss x lo, atm hi x, lss x (0, 0), atm (LF K.ls n) x, atm (LF K.ls o) x] (sgW s (K.val n x) (r.1, r.2 + p)), K1.have o x)
    | some (.srt n lo hi), [i, j] =>
      let x := ix idx i
      let y := ix idx j
      let K1 := K.have n x
      (parted [lss x lo, lss y x, atm hi y, lss x (0, 0), atm (LF K.ls n) y] [[atm (K.val n x) (K1.val n y)]], K1.have n y)
    | some (.blw n lo hi o low high), [i, j] =>
      let x := ix idx i
      let y := ix idx j
      let K1 := K.have n x
      (parted [lss x lo, atm hi x, lss x (0, 0), atm (LF K.ls n) x, lss y low, atm high y, lss y (0, 0), atm (LF K.ls o) y] [[atm (K.val n x) (K1.val o y)]], K1.have o y)
    | _, _ => ([], K)
end Ws

set_option maxRecDepth 100000
set_option maxHeartbeats 4000000
namespace Ws
open PySem L2 VL Kv Ks
/-- it grew by at most k -/
structure Gr (k : Nat) (K K' : Kd) : Prop where
  l : K'.ls = K.ls
  f : K'.fr = K.fr
  p : K'.ps = K.ps
  d : K'.ds = K.ds
  m : K.m ≤ K'.m ∧ K'.m ≤ K.m + k
  c : K'.cs.length ≤ K.cs.length + k
  x : ∃ l, K'.cs = K.cs ++ l
theorem Gr.refl {K : Kd} : Gr 0 K K := ⟨rfl, rfl, rfl, rfl, ⟨Nat.le_refl _, Nat.le_refl _⟩, Nat.le_refl _, ⟨[], by simp⟩⟩
theorem Gr.trans {i j : Nat} {K K' K'' : Kd} (x : Gr i K K') (y : Gr j K' K'') : Gr (i + j) K K'' := by
  obtain ⟨a, ha⟩ := x.x
  obtain ⟨b, hb⟩ := y.x
  exact ⟨y.l.trans x.l, y.f.trans x.f, y.p.trans x.p, y.d.trans x.d, ⟨Nat.le_trans x.m.1 y.m.1, by have := x.m.2; have := y.m.2; omega⟩, by have := x.c; have := y.c; omega, ⟨a ++ b, by rw [hb, ha, List.append_assoc]⟩⟩
theorem Gr.mono {i j : Nat} {K K' : Kd} (x : Gr i K K') (h : i ≤ j) : Gr j K K' := ⟨x.l, x.f, x.p, x.d, ⟨x.m.1, by have := x.m.2; omega⟩, by have := x.c; omega, x.x⟩
theorem gr_have {K : Kd} {num : Nat} {f : Fm} : Gr 1 K (K.have num f) := by
  cases e : K.find num f with
  | some v => rw [(have_find e).1]; exact Gr.refl.mono (by omega)
  | none => rw [(have_none e).1]; exact ⟨rfl, rfl, rfl, rfl, ⟨Nat.le_succ _, Nat.le_refl _⟩, by simp, ⟨_, rfl⟩⟩
theorem find_ext {K K' : Kd} {num : Nat} {f v : Fm} (x : ∃ l, K'.cs = K.cs ++ l) (h : K.find num f = some v) : K'.find num f = some v := by
  obtain ⟨l, hl⟩ := x
  unfold Kd.find at h ⊢
  rw [hl, List.find?_append]
  obtain ⟨c, hc, e⟩ := Option.map_eq_some_iff.mp h
  rw [hc]
  exact congrArg some e
theorem find_have {K : Kd} {num : Nat} {f : Fm} : (K.have num f).find num f = some (K.val num f) := by
  cases e : K.find num f with
  | some v => rw [(have_find e).1, (have_find e).2]; exact e
  | none =>
    rw [(have_none e).1, (have_none e).2]
    unfold Kd.find at e ⊢
    have e2 : K.cs.find? (fun c => decide (c.1 = num ∧ c.2.1 = f)) = none := by
      cases q : K.cs.find? (fun c => decide (c.1 = num ∧ c.2.1 = f)) with
      | none => rfl
      | some c => rw [q] at e; cases e
    rw [List.find?_append, e2]
    simp
/-- behind the asking nothing is new -/
theorem again {K K' : Kd} {num : Nat} {f : Fm} (x : ∃ l, K'.cs = (K.have num f).cs ++ l) : K'.val num f = K.val num f ∧ K'.have num f = K' := by
  have := find_ext x (find_have (K := K) (num := num) (f := f))
  exact ⟨(have_find this).2, (have_find this).1⟩
inductive Ft (K : Kd) (many : Nat) : Knd → List Int → Sp → Prop
  | pair {a b : Nat} : a < b → b < K.cs.length → (cyc K a).1 = (cyc K b).1 → Ft K many .pair [(a : Int), (b : Int)] (.pair a b)
  | write {a b : Nat} {i v : Fm} : a < K.cs.length → K.ls[(cyc K a).1]? = some (.wr b i v) → Ft K many .write [(a : Int)] (.write a)
  | eit {q : Nat} {ws : List (List Td)} : K.ps[q]? = some (.eit ws) → Ft K many .eit [(q : Int)] (.pr q [])
  | all {q i n : Nat} {lo hi f : Fm} {s : Sg} : K.ps[q]? = some (.all n lo hi s f) → i < many → Ft K many .all [(q : Int), (i : Int)] (.pr q [i])
  | mat {q i n o : Nat} {lo hi : Fm} {s : Sg} {p : Int} : K.ps[q]? = some (.mat n lo hi s o p) → i < many → Ft K many .mat [(q : Int), (i : Int)] (.pr q [i])
  | srt {q i j n : Nat} {lo hi : Fm} : K.ps[q]? = some (.srt n lo hi) → i < many → j < many → Ft K many .srt [(q : Int), (i : Int), (j : Int)] (.pr q [i, j])
  | blw {q i j n o : Nat} {lo hi low high : Fm} : K.ps[q]? = some (.blw n lo hi o low high) → i < many → j < many → Ft K many .blw [(q : Int), (i : Int), (j : Int)] (.pr q [i, j])
theorem to_nat {i : Int} {n : Nat} (h : 0 ≤ i ∧ i < (n : Int)) : ∃ j : Nat, i = j ∧ j < n := by
  obtain ⟨j, hj⟩ := Int.eq_ofNat_of_zero_le h.1
  exact ⟨j, hj, by omega⟩
theorem fit_pr {K : Kd} {many : Nat} {d : Knd} {q : Int} {is : List Int} {sp : Sp} (hd : d ≠ .pair ∧ d ≠ .write) (h : fit K many d (q :: is) = some sp) : rowB (q :: is) [(K.ps.length : Int), (many : Int), (many : Int)] = true ∧ ∃ p, K.ps[q.toNat]? = some p ∧ prK p = d ∧ sp = .pr q.toNat (is.map Int.toNat) := by
  have : (if (q :: is).length = kN d ∧ rowB (q :: is) [(K.ps.length : Int), (many : Int), (many : Int)] = true then
      (match K.ps[q.toNat]? with
      | some p => if prK p = d then some (Sp.pr q.toNat (is.map Int.toNat)) else none
      | none => none) else none) = some sp := by
    rw [← h]
    cases d <;> first | exact absurd rfl hd.1 | exact absurd rfl hd.2 | rfl
  split at this
  · rename_i c
    split at this
    · rename_i p e
      split at this
      · rename_i c2
        injection this with this
        exact ⟨c.2, p, e, c2, this.symm⟩
      · cases this
    · cases this
  · cases this
theorem fit_ft {K : Kd} (ok : K.Ok) {many : Nat} {d : Knd} {ns : List Int} {sp : Sp} (hl : ns.length = kN d) (h : fit K many d ns = some sp) : Ft K many d ns sp := by
  cases d with
  | pair =>
    match ns, hl with
    | [a, b], _ =>
      simp only [fit] at h
      split at h
      · rename_i c
        obtain ⟨i, rfl, hi⟩ := to_nat (i := a) (n := K.cs.length) ⟨c.1, by omega⟩
        obtain ⟨j, rfl, hj⟩ := to_nat (i := b) (n := K.cs.length) ⟨by omega, c.2.2.2⟩
        have ei := List.getElem?_eq_getElem hi
        have ej := List.getElem?_eq_getElem hj
        rw [Int.toNat_natCast, Int.toNat_natCast, ei, ej] at h
        simp only at h
        split at h
        · rename_i c2
          injection h with h
          subst h
          exact .pair (by omega) hj (by unfold cyc; rw [ei, ej]; exact c2)
        · cases h
      · cases h
  | write =>
    match ns, hl with
    | [a], _ =>
      simp only [fit] at h
      split at h
      · rename_i c
        obtain ⟨i, rfl, hi⟩ := to_nat c
        have ei := List.getElem?_eq_getElem hi
        have hb := (ok.c _ (List.getElem_mem hi)).1
        have el := List.getElem?_eq_getElem hb
        rw [Int.toNat_natCast, ei] at h
        simp only [el] at h
        split at h
        · rename_i c2
          injection h with h
          subst h
          cases w : K.ls[K.cs[i].1] with
          | wr b f v => exact .write (b := b) (i := f) (v := v) hi (by unfold cyc; rw [ei]; exact el.trans (by rw [w]))
          | nw f => rw [w] at c2; cases c2
        · cases h
      · cases h
  | eit =>
    match ns, hl with
    | [q], _ =>
      obtain ⟨r, p, e1, e2, rfl⟩ := fit_pr (d := .eit) (by decide) h
      simp only [rowB, List.zip_cons_cons, List.zip_nil_left, List.all_cons, List.all_nil, Bool.and_true, decide_eq_true_eq] at r
      obtain ⟨i, rfl, hi⟩ := to_nat r
      cases p <;> cases e2
      exact .eit e1
  | all =>
    match ns, hl with
    | [q, a], _ =>
      obtain ⟨r, p, e1, e2, rfl⟩ := fit_pr (d := .all) (by decide) h
      simp only [rowB, List.zip_cons_cons, List.zip_nil_left, List.all_cons, List.all_nil, Bool.and_true, Bool.and_eq_true, decide_eq_true_eq] at r
      obtain ⟨i, rfl, hi⟩ := to_nat r.1
      obtain ⟨j, rfl, hj⟩ := to_nat r.2
      cases p <;> cases e2
      exact .all e1 hj
  | mat =>
    match ns, hl with
    | [q, a], _ =>
      obtain ⟨r, p, e1, e2, rfl⟩ := fit_pr (d := .mat) (by decide) h
      simp only [rowB, List.zip_cons_cons, List.zip_nil_left, List.all_cons, List.all_nil, Bool.and_true, Bool.and_eq_true, decide_eq_true_eq] at r
      obtain ⟨i, rfl, hi⟩ := to_nat r.1
      obtain ⟨j, rfl, hj⟩ := to_nat r.2
      cases p <;> cases e2
      exact .mat e1 hj
  | srt =>
    match ns, hl with
    | [q, a, b], _ =>
      obtain ⟨r, p, e1, e2, rfl⟩ := fit_pr (d := .srt) (by decide) h
      simp only [rowB, List.zip_cons_cons, List.zip_nil_left, List.all_cons, List.all_nil, Bool.and_true, Bool.and_eq_true, decide_eq_true_eq] at r
      obtain ⟨i, rfl, hi⟩ := to_nat r.1
      obtain ⟨j, rfl, hj⟩ := to_nat r.2.1
      obtain ⟨k, rfl, hk⟩ := to_nat r.2.2
      cases p <;> cases e2
      exact .srt e1 hj hk
  | blw =>
    match ns, hl with
    | [q, a, b], _ =>
      obtain ⟨r, p, e1, e2, rfl⟩ := fit_pr (d := .blw) (by decide) h
      simp only [rowB, List.zip_cons_cons, List.zip_nil_left, List.all_cons, List.all_nil, Bool.and_true, Bool.and_eq_true, decide_eq_true_eq] at r
      obtain ⟨i, rfl, hi⟩ := to_nat r.1
      obtain ⟨j, rfl, hj⟩ := to_nat r.2.1
      obtain ⟨k, rfl, hk⟩ := to_nat r.2.2
      cases p <;> cases e2
      exact .blw e1 hj hk
def spl (K : Kd) (many : Nat) (k : Str) (ns : List Int) : Option Sp := (kindOf k).bind fun d => if ns.length = kN d then fit K many d ns else none
theorem spl_ft {K : Kd} (ok : K.Ok) {many : Nat} {k : Str} {ns : List Int} {sp : Sp} (h : spl K many k ns = some sp) : ∃ d, k = kS d ∧ Ft K many d ns sp := by
  unfold spl at h
  obtain ⟨d, e1, e2⟩ := Option.bind_eq_some_iff.mp h
  split at e2
  · rename_i c
    exact ⟨d, kindOf_some e1, fit_ft ok c e2⟩
  · cases e2
/-! ### asked again -/
theorem cyc_ext {K K' : Kd} (x : ∃ l, K'.cs = K.cs ++ l) {m : Nat} (h : m < K.cs.length) : cyc K' m = cyc K m := by
  obtain ⟨l, hl⟩ := x
  unfold cyc
  rw [hl, List.getElem?_append_left h]
theorem Ft.ext {K K' : Kd} {many k : Nat} {d : Knd} {ns : List Int} {sp : Sp} (f : Ft K many d ns sp) (g : Gr k K K') : Ft K' many d ns sp := by
  have le : K.cs.length ≤ K'.cs.length := by
    obtain ⟨l, hl⟩ := g.x
    rw [hl, List.length_append]; omega
  cases f with
  | pair h1 h2 h3 => exact .pair h1 (by omega) (by rw [cyc_ext g.x (by omega), cyc_ext g.x (by omega)]; exact h3)
  | write h1 h2 => exact .write (by omega) (by rw [cyc_ext g.x h1, g.l]; exact h2)
  | eit h => exact .eit (by rw [g.p]; exact h)
  | all h h1 => exact .all (by rw [g.p]; exact h) h1
  | mat h h1 => exact .mat (by rw [g.p]; exact h) h1
  | srt h h1 h2 => exact .srt (by rw [g.p]; exact h) h1 h2
  | blw h h1 h2 => exact .blw (by rw [g.p]; exact h) h1 h2
theorem fit_of {K : Kd} {many : Nat} {d : Knd} {ns : List Int} {sp : Sp} (f : Ft K many d ns sp) : ns.length = kN d ∧ fit K many d ns = some sp := by
  have row : ∀ {q : Nat} {p : Pr}, K.ps[q]? = some p → decide (0 ≤ (q : Int) ∧ (q : Int) < (K.ps.length : Int)) = true := fun e => by
    have := (List.getElem?_eq_some_iff.mp e).1
    exact decide_eq_true ⟨by omega, by omega⟩
  have rw' : ∀ {i : Nat}, i < many → decide (0 ≤ (i : Int) ∧ (i : Int) < (many : Int)) = true := fun e => decide_eq_true ⟨by omega, by omega⟩
  cases f with
  | @pair a b h1 h2 h3 =>
    have ea := List.getElem?_eq_getElem (show a < K.cs.length by omega)
    have eb := List.getElem?_eq_getElem h2
    unfold cyc at h3
    rw [ea, eb] at h3
    refine ⟨rfl, ?_⟩
    simp only [fit]
    rw [if_pos ⟨by omega, by omega, by omega, by omega⟩, Int.toNat_natCast, Int.toNat_natCast, ea, eb]
    exact if_pos h3
  | @write a b i v h1 h2 =>
    have ea := List.getElem?_eq_getElem h1
    unfold cyc at h2
    rw [ea] at h2
    refine ⟨rfl, ?_⟩
    simp only [fit]
    rw [if_pos ⟨by omega, by omega⟩, Int.toNat_natCast, ea]
    simp only [Option.getD_some] at h2
    simp only [h2]
    rfl
  | eit h =>
    refine ⟨rfl, ?_⟩
    simp only [fit, rowB, List.zip_cons_cons, List.zip_nil_left, List.all_cons, List.all_nil, Bool.and_true, row h, Int.toNat_natCast, h]
    rfl
  | all h h1 =>
    refine ⟨rfl, ?_⟩
    simp only [fit, rowB, List.zip_cons_cons, List.zip_nil_left, List.all_cons, List.all_nil, Bool.and_true, row h, rw' h1, Int.toNat_natCast, h]
    rfl
  | mat h h1 =>
    refine ⟨rfl, ?_⟩
    simp only [fit, rowB, List.zip_cons_cons, List.zip_nil_left, List.all_cons, List.all_nil, Bool.and_true, row h, rw' h1, Int.toNat_natCast, h]
    rfl
  | srt h h1 h2 =>
    refine ⟨rfl, ?_⟩
    simp only [fit, rowB, List.zip_cons_cons, List.zip_nil_left, List.all_cons, List.all_nil, Bool.and_true, row h, rw' h1, rw' h2, Int.toNat_natCast, h]
    rfl
  | blw h h1 h2 =>
    refine ⟨rfl, ?_⟩
    simp only [fit, rowB, List.zip_cons_cons, List.zip_nil_left, List.all_cons, List.all_nil, Bool.and_true, row h, rw' h1, rw' h2, Int.toNat_natCast, h]
    rfl
theorem spl_of {K : Kd} {many : Nat} {d : Knd} {ns : List Int} {sp : Sp} (f : Ft K many d ns sp) : spl K many (kS d) ns = some sp := by
  obtain ⟨h1, h2⟩ := fit_of f
  unfold spl
  rw [kindOf_kS, Option.bind_some, if_pos h1, h2]
theorem ways_gr {K : Kd} {many : Nat} {idx : List Fm} {d : Knd} {ns : List Int} {sp : Sp} (f : Ft K many d ns sp) : Gr 2 K (ways K idx sp).2 := by
  cases f with
  | pair h1 h2 h3 => exact Gr.refl.mono (by omega)
  | write h1 h2 => simp only [ways, h2]; exact gr_have.mono (by omega)
  | eit h => simp only [ways, h]; exact Gr.refl.mono (by omega)
  | all h h1 => simp only [ways, h]; exact gr_have.mono (by omega)
  | mat h h1 => simp only [ways, h]; exact gr_have.trans gr_have
  | srt h h1 h2 => simp only [ways, h]; exact gr_have.trans gr_have
  | blw h h1 h2 => simp only [ways, h]; exact gr_have.trans gr_have
theorem ways_again {K : Kd} {many : Nat} {idx : List Fm} {d : Knd} {ns : List Int} {sp : Sp} (f : Ft K many d ns sp) : ways (ways K idx sp).2 idx sp = ways K idx sp := by
  have two : ∀ {n1 n2 : Nat} {f1 f2 : Fm}, ((K.have n1 f1).have n2 f2).val n1 f1 = K.val n1 f1 ∧ ((K.have n1 f1).have n2 f2).have n1 f1 = (K.have n1 f1).have n2 f2 ∧ ((K.have n1 f1).have n2 f2).val n2 f2 = (K.have n1 f1).val n2 f2 ∧ ((K.have n1 f1).have n2 f2).have n2 f2 = (K.have n1 f1).have n2 f2 := by
    intro n1 n2 f1 f2
    have a := again (K := K) (num := n1) (f := f1) (K' := (K.have n1 f1).have n2 f2) gr_have.x
    have b := again (K := K.have n1 f1) (num := n2) (f := f2) (K' := (K.have n1 f1).have n2 f2) ⟨[], by simp⟩
    exact ⟨a.1, a.2, b.1, b.2⟩
  have one : ∀ {n1 : Nat} {f1 : Fm}, (K.have n1 f1).val n1 f1 = K.val n1 f1 ∧ (K.have n1 f1).have n1 f1 = K.have n1 f1 := again ⟨[], by simp⟩
  cases f with
  | pair h1 h2 h3 => rfl
  | @write a b i v h1 h2 =>
    have e := cyc_ext (K' := K.have b (cyc K a).2.1) gr_have.x h1
    simp only [ways, h2, e, gr_have.l, one]
  | eit h => simp only [ways, h]
  | all h h1 => simp only [ways, h, gr_have.p, gr_have.l, one]
  | mat h h1 => simp only [ways, h, gr_have.p, gr_have.l, two]
  | srt h h1 h2 => simp only [ways, h, gr_have.p, gr_have.l, two]
  | blw h h1 h2 => simp only [ways, h, gr_have.p, gr_have.l, two]
end Ws

set_option maxRecDepth 100000
set_option maxHeartbeats 4000000
namespace Ws
open PySem L2 VL Kv Ks
def TX (m : Nat) (t : Td) : Prop := t.1 ≤ m ∧ t.2.1 ≤ m ∧ (-1000000000000000 ≤ t.2.2 ∧ t.2.2 ≤ 1000000000000000)
def TS (m : Nat) (t : Td) : Prop := t.1 ≤ m ∧ t.2.1 ≤ m ∧ (-500000000000000 ≤ t.2.2 ∧ t.2.2 ≤ 500000000000000)
def FG (m : Nat) (f : Fm) : Prop := f.1 ≤ m ∧ (-100000000000000 ≤ f.2 ∧ f.2 ≤ 100000000000000)
theorem FG.of {m : Nat} {f : Fm} (h : FIn m f) : FG m f := ⟨h.1, by have := h.2; omega, by have := h.2; omega⟩
theorem FG.mono {m n : Nat} {f : Fm} (h : FG m f) (e : m ≤ n) : FG n f := ⟨Nat.le_trans h.1 e, h.2⟩
theorem TS.x {m : Nat} {t : Td} (h : TS m t) : TX m t := ⟨h.1, h.2.1, by have := h.2.2; omega, by have := h.2.2; omega⟩
theorem TS.opp {m : Nat} {t : Td} (h : TS m t) : TX m (opp t) := ⟨h.2.1, h.1, by have := h.2.2; show _ ≤ -t.2.2 - 1; omega, by have := h.2.2; show -t.2.2 - 1 ≤ _; omega⟩
theorem lss_s {m : Nat} {f g : Fm} (a : FG m f) (b : FG m g) : TS m (lss f g) := ⟨a.1, b.1, by have := a.2; have := b.2; show _ ≤ g.2 - f.2 - 1; omega, by have := a.2; have := b.2; show g.2 - f.2 - 1 ≤ _; omega⟩
theorem atm_s {m : Nat} {f g : Fm} (a : FG m f) (b : FG m g) : TS m (atm f g) := ⟨a.1, b.1, by have := a.2; have := b.2; show _ ≤ g.2 - f.2; omega, by have := a.2; have := b.2; show g.2 - f.2 ≤ _; omega⟩
theorem gnd_g {m : Nat} : FG m (0, 0) := ⟨Nat.zero_le _, by show (-100000000000000 : Int) ≤ 0; omega, by show (0 : Int) ≤ 100000000000000; omega⟩
/-- a way of bounded differences -/
def WB (m k : Nat) (w : Way) : Prop := w.length ≤ k ∧ ∀ t ∈ w, TX m t
theorem WB.nil {m k : Nat} : WB m k [] := ⟨Nat.zero_le _, nofun⟩
theorem WB.cons {m k : Nat} {t : Td} {w : Way} (a : TX m t) (b : WB m k w) : WB m (k + 1) (t :: w) := ⟨by rw [List.length_cons]; have := b.1; omega, fun x hx => by
  rcases List.mem_cons.mp hx with rfl | hx
  · exact a
  · exact b.2 x hx⟩
theorem WB.app {m j k : Nat} {v w : Way} (a : WB m j v) (b : WB m k w) : WB m (j + k) (v ++ w) := ⟨by rw [List.length_append]; have := a.1; have := b.1; omega, fun x hx => by
  rcases List.mem_append.mp hx with hx | hx
  · exact a.2 x hx
  · exact b.2 x hx⟩
theorem WB.mono {m j k : Nat} {v : Way} (a : WB m j v) (h : j ≤ k) : WB m k v := ⟨Nat.le_trans a.1 h, a.2⟩
theorem eqw_b {m : Nat} {f g : Fm} (a : FG m f) (b : FG m g) : WB m 2 (eqw f g) := .cons (atm_s a b).x (.cons (atm_s b a).x .nil)
theorem sg_b {m : Nat} {s : Sg} {f g : Fm} (a : FG m f) (b : FG m g) : (sgW s f g).length ≤ 2 ∧ ∀ w ∈ sgW s f g, WB m 2 w := by
  have one : ∀ {t : Td}, TX m t → WB m 2 [t] := fun h => (WB.cons h .nil).mono (k := 2) (j := 1) (by omega)
  cases s <;> refine ⟨by simp [sgW], fun w hw => ?_⟩ <;> simp only [sgW, List.mem_cons, List.not_mem_nil, or_false] at hw
  · subst hw; exact one (lss_s a b).x
  · subst hw; exact one (atm_s a b).x
  · subst hw; exact one (lss_s b a).x
  · subst hw; exact one (atm_s b a).x
  · subst hw; exact eqw_b a b
  · rcases hw with rfl | rfl
    · exact one (lss_s a b).x
    · exact one (lss_s b a).x
theorem parted_b {m : Nat} {ts : List Td} {ws : List Way} (ht : ts.length ≤ 8) (hs : ∀ t ∈ ts, TS m t) (hw : ws.length ≤ 2) (hb : ∀ w ∈ ws, WB m 2 w) : (parted ts ws).length ≤ 20 ∧ ∀ w ∈ parted ts ws, WB m 20 w := by
  have o : ∀ i, WB m 8 ((ts.take i).map opp) := fun i => ⟨by rw [List.length_map, List.length_take]; omega, fun x hx => by
    obtain ⟨t, h1, rfl⟩ := List.mem_map.mp hx
    exact (hs t (List.mem_of_mem_take h1)).opp⟩
  refine ⟨?_, fun w hw2 => ?_⟩
  · unfold parted pre
    rw [List.length_append, List.length_map, List.length_range, List.length_map]; omega
  · unfold parted pre at hw2
    rcases List.mem_append.mp hw2 with h | h
    · obtain ⟨j, h1, rfl⟩ := List.mem_map.mp h
      refine ((o j).app (k := 1) ⟨by cases ts[j]? <;> simp, fun x hx => ?_⟩).mono (by omega)
      obtain e := Option.mem_toList.mp hx
      exact (hs x (List.mem_of_getElem? e)).x
    · obtain ⟨v, h1, rfl⟩ := List.mem_map.mp h
      have := o ts.length
      rw [List.take_length] at this
      exact (this.app (hb v h1)).mono (by omega)
theorem ix_in {m : Nat} {idx : List Fm} (h : ∀ f ∈ idx, FIn m f) {i : Nat} (hi : i < idx.length) : FIn m (ix idx i) := by
  unfold ix
  rw [List.getElem?_eq_getElem hi]
  exact h _ (List.getElem_mem hi)
theorem cyc_in {K : Kd} (ok : K.Ok) {i : Nat} (hi : i < K.cs.length) : CIn K.m K.ls.length (cyc K i) := by
  unfold cyc
  rw [List.getElem?_eq_getElem hi]
  exact ok.c _ (List.getElem_mem hi)
theorem lf_in {K : Kd} (ok : K.Ok) {n : Nat} (hn : n < K.ls.length) : FIn K.m (LF K.ls n) := L_in ok.l (n + 1) n (by omega) hn
theorem ways_ok {K : Kd} {idx : List Fm} {d : Knd} {ns : List Int} {sp : Sp} (ok : K.Ok) (hm : K.m + 2 ≤ 1000) (hc : K.cs.length + 2 ≤ 100) (hx : ∀ f ∈ idx, FIn K.m f) (f : Ft K idx.length d ns sp) :
    (ways K idx sp).2.Ok ∧ (ways K idx sp).1.length ≤ 20 ∧ ∀ w ∈ (ways K idx sp).1, WB (ways K idx sp).2.m 20 w := by
  have two : ∀ {n1 n2 : Nat} {f1 f2 : Fm}, n1 < K.ls.length → n2 < K.ls.length → FIn K.m f1 → FIn K.m f2 → ((K.have n1 f1).have n2 f2).Ok ∧ K.m ≤ ((K.have n1 f1).have n2 f2).m ∧ FIn ((K.have n1 f1).have n2 f2).m (K.val n1 f1) ∧ FIn ((K.have n1 f1).have n2 f2).m ((K.have n1 f1).val n2 f2) := by
    intro n1 n2 f1 f2 h1 h2 h3 h4
    have g := gr_have (K := K) (num := n1) (f := f1)
    have g2 := gr_have (K := K.have n1 f1) (num := n2) (f := f2)
    have o1 := ok_have ok h1 h3 (by omega) (by omega)
    have v1 := val_in ok (num := n1) (f := f1)
    have gm := g.m; have gc := g.c
    have o2 := ok_have o1 (num := n2) (f := f2) (by rw [g.l]; exact h2) (h4.mono gm.1) (by omega) (by omega)
    have v2 := val_in o1 (num := n2) (f := f2)
    exact ⟨o2, Nat.le_trans v1.2 v2.2, v1.1.mono v2.2, v2.1⟩
  have pin : ∀ {q : Nat} {p : Pr}, K.ps[q]? = some p → PIn K.m K.ls.length p := fun e => ok.p _ (List.mem_of_getElem? e)
  cases f with
  | @pair a b h1 h2 h3 =>
    obtain ⟨_, a1, a2⟩ := cyc_in ok (show a < K.cs.length by omega)
    obtain ⟨_, b1, b2⟩ := cyc_in ok h2
    have a1 := FG.of a1; have a2 := FG.of a2; have b1 := FG.of b1; have b2 := FG.of b2
    refine ⟨ok, by simp [ways], fun w hw => ?_⟩
    simp only [ways, List.mem_cons, List.not_mem_nil, or_false] at hw
    rcases hw with rfl | rfl | rfl
    · exact (WB.cons (lss_s a1 b1).x .nil).mono (j := 1) (by omega)
    · exact (WB.cons (lss_s b1 a1).x .nil).mono (j := 1) (by omega)
    · exact ((eqw_b a1 b1).app (eqw_b a2 b2)).mono (by omega)
  | @write a b i v h1 h2 =>
    obtain ⟨a0, a1, a2⟩ := cyc_in ok h1
    have hl : b < (cyc K a).1 ∧ FIn K.m i ∧ FIn K.m v := ok.l _ _ h2
    have o := ok_have ok (num := b) (f := (cyc K a).2.1) (by omega) a1 (by omega) (by omega)
    have v1 := val_in ok (num := b) (f := (cyc K a).2.1)
    simp only [ways, h2]
    have a1 := (FG.of a1).mono v1.2; have a2 := (FG.of a2).mono v1.2; have i1 := (FG.of hl.2.1).mono v1.2; have i2 := (FG.of hl.2.2).mono v1.2
    have e := eqw_b a2 (FG.of v1.1)
    refine ⟨o, by simp, fun w hw => ?_⟩
    simp only [List.mem_cons, List.not_mem_nil, or_false] at hw
    rcases hw with rfl | rfl | rfl
    · exact (WB.cons (lss_s a1 i1).x e).mono (by omega)
    · exact (WB.cons (lss_s i1 a1).x e).mono (by omega)
    · exact ((eqw_b a1 i1).app (eqw_b a2 i2)).mono (by omega)
  | eit h =>
    obtain ⟨_, p2, p3⟩ := pin h
    simp only [ways, h]
    refine ⟨ok, by omega, fun w hw => ⟨by have := (p3 w hw).1; omega, fun t ht => ?_⟩⟩
    have := (p3 w hw).2 t ht
    exact ⟨this.1, this.2.1, by have := this.2.2; omega, by have := this.2.2; omega⟩
  | @all q i n lo hi f s h h1 =>
    obtain ⟨p1, p2, p3, p4⟩ := pin h
    simp only [ways, h]
    have y := ix_in hx h1
    have o := ok_have ok p1 y (by omega) (by omega)
    have v1 := val_in ok (num := n) (f := ix idx i)
    have y' := (FG.of y).mono v1.2; have l' := (FG.of p2).mono v1.2; have h' := (FG.of p3).mono v1.2; have f' := (FG.of p4).mono v1.2; have n' := (FG.of (lf_in ok p1)).mono v1.2
    have sg := sg_b (s := s) (FG.of v1.1) f'
    refine ⟨o, parted_b (by simp) (fun t ht => ?_) sg.1 sg.2⟩
    simp only [List.mem_cons, List.not_mem_nil, or_false] at ht
    rcases ht with rfl | rfl | rfl | rfl
    · exact lss_s y' l'
    · exact atm_s h' y'
    · exact lss_s y' gnd_g
    · exact atm_s n' y'
  | @mat q i n o lo hi s p h h1 =>
    obtain ⟨p1, p2, p3, p4, p5⟩ := pin h
    simp only [ways, h]
    have y := ix_in hx h1
    obtain ⟨ok2, m2, w1, w2⟩ := two p1 p4 y y
    have y' := (FG.of y).mono m2; have l' := (FG.of p2).mono m2; have h' := (FG.of p3).mono m2; have n' := (FG.of (lf_in ok p1)).mono m2; have o' := (FG.of (lf_in ok p4)).mono m2
    have r' : FG ((K.have n (ix idx i)).have o (ix idx i)).m (((K.have n (ix idx i)).val o (ix idx i)).1, ((K.have n (ix idx i)).val o (ix idx i)).2 + p) := ⟨w2.1, by have := w2.2; show _ ≤ _ + p; omega, by have := w2.2; show _ + p ≤ _; omega⟩
    have sg := sg_b (s := s) (FG.of w1) r'
    refine ⟨ok2, parted_b (by simp) (fun t ht => ?_) sg.1 sg.2⟩
    simp only [List.mem_cons, List.not_mem_nil, or_false] at ht
    rcases ht with rfl | rfl | rfl | rfl | rfl
    · exact lss_s y' l'
    · exact atm_s h' y'
    · exact lss_s y' gnd_g
    · exact atm_s n' y'
    · exact atm_s o' y'
  | @srt q i j n lo hi h h1 h2 =>
    obtain ⟨p1, p2, p3⟩ := pin h
    simp only [ways, h]
    have y := ix_in hx h1; have z := ix_in hx h2
    obtain ⟨ok2, m2, w1, w2⟩ := two p1 p1 y z
    have y' := (FG.of y).mono m2; have z' := (FG.of z).mono m2; have l' := (FG.of p2).mono m2; have h' := (FG.of p3).mono m2; have n' := (FG.of (lf_in ok p1)).mono m2
    refine ⟨ok2, parted_b (by simp) (fun t ht => ?_) (by simp) (fun w hw => ?_)⟩
    · simp only [List.mem_cons, List.not_mem_nil, or_false] at ht
      rcases ht with rfl | rfl | rfl | rfl | rfl
      · exact lss_s y' l'
      · exact lss_s z' y'
      · exact atm_s h' z'
      · exact lss_s y' gnd_g
      · exact atm_s n' z'
    · rw [List.mem_singleton.mp hw]
      exact (WB.cons (atm_s (FG.of w1) (FG.of w2)).x .nil).mono (j := 1) (by omega)
  | @blw q i j n o lo hi low high h h1 h2 =>
    obtain ⟨p1, p2, p3, p4, p5, p6⟩ := pin h
    simp only [ways, h]
    have y := ix_in hx h1; have z := ix_in hx h2
    obtain ⟨ok2, m2, w1, w2⟩ := two p1 p4 y z
    have y' := (FG.of y).mono m2; have z' := (FG.of z).mono m2; have l' := (FG.of p2).mono m2; have h' := (FG.of p3).mono m2; have n' := (FG.of (lf_in ok p1)).mono m2; have o' := (FG.of (lf_in ok p4)).mono m2; have a' := (FG.of p5).mono m2; have b' := (FG.of p6).mono m2
    refine ⟨ok2, parted_b (by simp) (fun t ht => ?_) (by simp) (fun w hw => ?_)⟩
    · simp only [List.mem_cons, List.not_mem_nil, or_false] at ht
      rcases ht with rfl | rfl | rfl | rfl | rfl | rfl | rfl | rfl
      · exact lss_s y' l'
      · exact atm_s h' y'
      · exact lss_s y' gnd_g
      · exact atm_s n' y'
      · exact lss_s z' a'
      · exact atm_s b' z'
      · exact lss_s z' gnd_g
      · exact atm_s o' z'
    · rw [List.mem_singleton.mp hw]
      exact (WB.cons (atm_s (FG.of w1) (FG.of w2)).x .nil).mono (j := 1) (by omega)
theorem sh_tx {m : Nat} {t : Td} (hm : m ≤ 100000) (h : TX m t) : Sh (tdp t) 195 1 := by
  have := h.1; have := h.2.1; have := h.2.2
  exact ((ShA.cons (sh_nat (n := t.1) (by omega)) (ShA.cons (sh_nat (n := t.2.1) (by omega)) (ShA.cons (Sh.int (i := t.2.2) (by omega) (by omega)) (ShA.nil (d := 0))))).tup).mono (by omega) (by omega)
/-- ways as they are shown -/
theorem sh_ways {m : Nat} {ws : List Way} (hm : m ≤ 100000) (hl : ws.length ≤ 20) (hw : ∀ w ∈ ws, WB m 20 w) : Sh (.list (ws.map wyp)) 80000 3 := by
  have one : ∀ w ∈ ws, Sh (wyp w) 3920 2 := fun w h => by
    have := (ShA.mapM (f := tdp) (w := 195) (d := 1) fun t ht => sh_tx hm ((hw w h).2 t ht)).tup
    refine this.mono ?_ (by omega)
    have := Nat.mul_le_mul_right 196 (hw w h).1
    omega
  exact (sh_list (k := 20) one hl).mono (by omega) (by omega)
theorem pds_ways (ws : List Way) : pds (ws.map wyv) = some (ws.map wyp) := pds_map (fun w => by simp only [wyv, wyp, pd, pds_map pd_td, Option.map_some]) ws
end Ws

set_option maxRecDepth 100000
set_option maxHeartbeats 4000000
/-! the ways of a split cover the state: exactly one is kept -/
namespace Ws
open PySem L2 VL Kv
def kept (vs : List Int) (w : Way) : Bool := w.all (keepB vs)
def cnt (vs : List Int) (ws : List Way) : Nat := (ws.filter (kept vs)).length
theorem tv_0 (vs : List Int) : tv vs 0 = 0 := rfl
theorem fv_tv (vs : List Int) (f : Fm) : fv vs f = tv vs f.1 + f.2 := by
  unfold tv fv
  by_cases h : f.1 = 0
  · simp only [h, if_true]; omega
  · simp only [h, if_false]; omega
theorem keep_lss (vs : List Int) (f g : Fm) : keepB vs (lss f g) = decide (fv vs f < fv vs g) := by
  rw [fv_tv vs f, fv_tv vs g, Bool.eq_iff_iff]
  unfold keepB lss
  simp only [decide_eq_true_eq]
  omega
theorem keep_atm (vs : List Int) (f g : Fm) : keepB vs (atm f g) = decide (fv vs f ≤ fv vs g) := by
  rw [fv_tv vs f, fv_tv vs g, Bool.eq_iff_iff]
  unfold keepB atm
  simp only [decide_eq_true_eq]
  omega
theorem keep_opp (vs : List Int) (t : Td) : keepB vs (opp t) = !keepB vs t := by
  rw [Bool.eq_iff_iff]
  unfold keepB opp
  simp only [decide_eq_true_eq, Bool.not_eq_true', decide_eq_false_iff_not]
  omega
theorem cnt_nil (vs : List Int) : cnt vs [] = 0 := rfl
theorem cnt_cons (vs : List Int) (w : Way) (ws : List Way) : cnt vs (w :: ws) = (if kept vs w then 1 else 0) + cnt vs ws := by
  unfold cnt
  rw [List.filter_cons]
  split
  · rw [List.length_cons]; omega
  · omega
theorem parted_cons (t : Td) (ts : List Td) (last : List Way) : parted (t :: ts) last = [t] :: (parted ts last).map fun w => opp t :: w := by
  unfold parted pre
  rw [List.length_cons, List.range_succ_eq_map, List.map_cons, List.map_map, List.map_append, List.map_map, List.map_map]
  rfl
theorem cnt_opp (vs : List Int) (t : Td) (ws : List Way) : cnt vs (ws.map fun w => opp t :: w) = if keepB vs t then 0 else cnt vs ws := by
  unfold cnt
  induction ws with
  | nil => simp
  | cons w ws ih =>
    rw [List.map_cons, List.filter_cons, List.filter_cons]
    have e : kept vs (opp t :: w) = (!keepB vs t && kept vs w) := by
      unfold kept
      rw [List.all_cons, keep_opp]
    rw [e]
    cases c : keepB vs t with
    | true =>
      rw [c] at ih
      simpa using ih
    | false =>
      rw [c] at ih
      simp only [Bool.not_false, Bool.true_and, Bool.false_eq_true, if_false] at ih ⊢
      split
      · rw [List.length_cons, List.length_cons, ih]
      · exact ih
theorem cnt_parted (vs : List Int) (last : List Way) : ∀ ts : List Td, cnt vs (parted ts last) = if ts.any (keepB vs) then 1 else cnt vs last
  | [] => by
    have e : parted [] last = last := by
      unfold parted pre
      simp
    rw [e]; rfl
  | t :: ts => by
    rw [parted_cons, cnt_cons, cnt_opp, cnt_parted vs last ts, List.any_cons]
    have e : kept vs [t] = keepB vs t := by unfold kept; simp
    rw [e]
    cases keepB vs t with
    | true => simp
    | false =>
      simp only [Bool.false_eq_true, if_false, Nat.zero_add]
      rfl
theorem cnt_sg (vs : List Int) (s : Sg) (l r : Fm) : cnt vs (sgW s l r) = if cmpB s (fv vs l) (fv vs r) then 1 else 0 := by
  have one : ∀ t : Td, kept vs [t] = keepB vs t := fun t => by unfold kept; simp
  cases s <;> simp only [sgW, cnt_cons, cnt_nil, one, keep_lss, keep_atm, cmpB]
  · rfl
  · rfl
  · rfl
  · rfl
  · have e : kept vs (eqw l r) = decide (fv vs l = fv vs r) := by
      unfold kept eqw
      simp only [List.all_cons, List.all_nil, Bool.and_true, keep_atm]
      rw [Bool.eq_iff_iff]
      simp only [Bool.and_eq_true, decide_eq_true_eq]
      omega
    rw [e]; rfl
  · by_cases h1 : fv vs l < fv vs r
    · have h2 : ¬ fv vs r < fv vs l := by omega
      have h3 : ¬ fv vs l = fv vs r := by omega
      simp [h1, h2, h3]
    · by_cases h2 : fv vs r < fv vs l
      · have h3 : ¬ fv vs l = fv vs r := by omega
        simp [h1, h2, h3]
      · have h3 : fv vs l = fv vs r := by omega
        simp [h3]
theorem kept_eqw (vs : List Int) (l r : Fm) : kept vs (eqw l r) = decide (fv vs l = fv vs r) := by
  unfold kept eqw
  simp only [List.all_cons, List.all_nil, Bool.and_true, keep_atm]
  rw [Bool.eq_iff_iff]
  simp only [Bool.and_eq_true, decide_eq_true_eq]
  omega
theorem kept_cons (vs : List Int) (t : Td) (w : Way) : kept vs (t :: w) = (keepB vs t && kept vs w) := by unfold kept; rw [List.all_cons]
theorem kept_app (vs : List Int) (v w : Way) : kept vs (v ++ w) = (kept vs v && kept vs w) := by unfold kept; rw [List.all_append]
/-! ### a known that fits the state -/
theorem fv_ext {vs ex : List Int} {f : Fm} (h : f.1 ≤ vs.length) : fv (vs ++ ex) f = fv vs f := by
  unfold fv
  by_cases c : f.1 = 0
  · simp only [c, if_true]
  · simp only [c, if_false]
    rw [List.getElem?_append_left (by omega)]
structure Good (w : Wd) (K : Kd) (vs : List Int) : Prop where
  x : ∃ ex, vs = w.vs ++ ex
  len : vs.length = K.m
  l : K.ls = w.ls
  c : ∀ c ∈ K.cs, c.1 < w.ls.length ∧ c.2.1.1 ≤ w.vs.length ∧ c.2.2.1 ≤ K.m ∧ fv vs c.2.2 = w.t c.1 (fv w.vs c.2.1)
  p : ∀ p ∈ K.ps, Kg.POk w.vs w.ls.length p ∧ w.holds p = true
def nv (w : Wd) (l : List Ce) : List Int := l.map fun c => w.t c.1 (fv w.vs c.2.1)
/-- cells that came, in order -/
structure New (w : Wd) (K K' : Kd) (vs : List Int) (l : List Ce) : Prop where
  cs : K'.cs = K.cs ++ l
  sh : ∀ (i : Nat) c, l[i]? = some c → c.2.2 = (K.m + i + 1, 0) ∧ c.1 < w.ls.length ∧ c.2.1.1 ≤ w.vs.length
  g : Good w K' (vs ++ nv w l)
theorem nv_len (w : Wd) (l : List Ce) : (nv w l).length = l.length := by unfold nv; rw [List.length_map]
theorem New.m {w : Wd} {K K' : Kd} {vs : List Int} {l : List Ce} (g : Good w K vs) (n : New w K K' vs l) : K'.m = K.m + l.length := by
  have := n.g.len; have := g.len
  rw [List.length_append, nv_len] at *
  omega
theorem find_mem {K : Kd} {num : Nat} {f v : Fm} (h : K.find num f = some v) : ∃ c ∈ K.cs, c.1 = num ∧ c.2.1 = f ∧ c.2.2 = v := by
  unfold Kd.find at h
  obtain ⟨c, h1, h2⟩ := Option.map_eq_some_iff.mp h
  have := List.find?_some h1
  simp only [decide_eq_true_eq] at this
  exact ⟨c, List.mem_of_find?_eq_some h1, this.1, this.2, h2⟩
theorem Good.grow {w : Wd} {K : Kd} {vs : List Int} (g : Good w K vs) {num : Nat} {f : Fm} (hn : num < w.ls.length) (hf : f.1 ≤ w.vs.length) : ∃ l, l.length ≤ 1 ∧ New w K (K.have num f) vs l ∧ fv (vs ++ nv w l) (K.val num f) = w.t num (fv w.vs f) ∧ (K.val num f).1 ≤ (vs ++ nv w l).length := by
  cases e : K.find num f with
  | some v =>
    obtain ⟨c, h1, h2, h3, h4⟩ := find_mem e
    rw [(have_find e).1, (have_find e).2]
    obtain ⟨a, b, c', d⟩ := g.c c h1
    have nn : nv w [] = [] := rfl
    refine ⟨[], by simp, ⟨by simp, fun i c h => by simp at h, by rw [nn, List.append_nil]; exact g⟩, ?_, ?_⟩
    · rw [nn, List.append_nil, ← h4, ← h2, ← h3]; exact d
    · rw [nn, List.append_nil, ← h4, g.len]; exact c'
  | none =>
    rw [(have_none e).1, (have_none e).2]
    obtain ⟨ex, hx⟩ := g.x
    have ev : fv (vs ++ [w.t num (fv w.vs f)]) (K.m + 1, 0) = w.t num (fv w.vs f) := by
      unfold fv
      simp only [Nat.succ_ne_zero, if_false, Nat.add_sub_cancel]
      rw [List.getElem?_append_right (by rw [g.len]; omega), g.len, Nat.sub_self]
      simp
    have en : nv w [(num, f, (K.m + 1, 0))] = [w.t num (fv w.vs f)] := rfl
    refine ⟨[(num, f, (K.m + 1, 0))], by simp, ⟨rfl, fun i c h => ?_, ⟨⟨ex ++ [w.t num (fv w.vs f)], by rw [en, hx, List.append_assoc]⟩, by rw [en, List.length_append, List.length_singleton, g.len], g.l, fun c hc => ?_, g.p⟩⟩, by rw [en]; exact ev, by rw [en, List.length_append, List.length_singleton, g.len]; exact Nat.le_refl _⟩
    · cases i with
      | zero =>
        injection h with h
        subst h
        exact ⟨rfl, hn, hf⟩
      | succ i => simp at h
    · rcases List.mem_append.mp hc with hc | hc
      · obtain ⟨a, b, c', d⟩ := g.c c hc
        refine ⟨a, b, Nat.le_succ_of_le c', ?_⟩
        rw [en, fv_ext (by rw [g.len]; exact c')]
        exact d
      · rw [List.mem_singleton.mp hc]
        exact ⟨hn, hf, Nat.le_refl _, by rw [en]; exact ev⟩
theorem New.two {w : Wd} {K K1 K2 : Kd} {vs : List Int} {l1 l2 : List Ce} (g : Good w K vs) (a : New w K K1 vs l1) (b : New w K1 K2 (vs ++ nv w l1) l2) : New w K K2 vs (l1 ++ l2) := by
  have m1 := New.m g a
  have en : nv w (l1 ++ l2) = nv w l1 ++ nv w l2 := by unfold nv; rw [List.map_append]
  refine ⟨by rw [b.cs, a.cs, List.append_assoc], fun i c h => ?_, by rw [en, ← List.append_assoc]; exact b.g⟩
  by_cases hi : i < l1.length
  · rw [List.getElem?_append_left hi] at h
    exact a.sh i c h
  · rw [List.getElem?_append_right (by omega)] at h
    obtain ⟨e1, e2, e3⟩ := b.sh _ c h
    refine ⟨?_, e2, e3⟩
    rw [e1, m1]
    congr 1
    omega
theorem mem_rg {vs : List Int} {ls : List Ls} {n : Nat} {lo hi : Fm} {k : Int} (h1 : fv vs lo ≤ k) (h2 : k < fv vs hi) (h3 : 0 ≤ k) (h4 : k < fv vs (LF ls n)) : (rgP vs ls n lo hi)[(k - max 0 (fv vs lo)).toNat]? = some k := by
  unfold rgP
  simp only
  rw [List.getElem?_map, List.getElem?_range (by omega)]
  show some (max 0 (fv vs lo) + (((k - max 0 (fv vs lo)).toNat : Nat) : Int)) = some k
  congr 1
  omega
theorem mem_cells {w : Wd} {n : Nat} {lo hi : Fm} {k : Int} (h1 : fv w.vs lo ≤ k) (h2 : k < fv w.vs hi) (h3 : 0 ≤ k) (h4 : k < fv w.vs (LF w.ls n)) : (w.cells n lo hi)[(k - max 0 (fv w.vs lo)).toNat]? = some (w.t n k) := by
  unfold Wd.cells
  rw [List.getElem?_map, mem_rg h1 h2 h3 h4]; rfl
theorem pairs_mono : ∀ (l : List Int), pairsLe l = true → ∀ (i j : Nat) (a b : Int), i ≤ j → l[i]? = some a → l[j]? = some b → a ≤ b
  | [], _, i, j, a, b, _, h, _ => by simp at h
  | [x], _, i, j, a, b, hij, h1, h2 => by
    cases i with
    | zero =>
      cases j with
      | zero => rw [h1] at h2; injection h2 with h2; omega
      | succ j => simp at h2
    | succ i => simp at h1
  | x :: y :: r, h, i, j, a, b, hij, h1, h2 => by
    simp only [pairsLe, Bool.and_eq_true, decide_eq_true_eq] at h
    have ih := pairs_mono (y :: r) h.2
    cases i with
    | zero =>
      injection h1 with h1
      subst h1
      cases j with
      | zero => injection h2 with h2; omega
      | succ j =>
        have := ih 0 j y b (Nat.zero_le _) rfl h2
        omega
    | succ i =>
      cases j with
      | zero => omega
      | succ j => exact ih i j a b (by omega) h1 h2
end Ws

set_option maxRecDepth 100000
set_option maxHeartbeats 4000000
namespace Ws
open PySem L2 VL Kv
theorem New.refl {w : Wd} {K : Kd} {vs : List Int} (g : Good w K vs) : New w K K vs [] := ⟨by simp, fun i c h => by simp at h, by
  have nn : nv w [] = [] := rfl
  rw [nn, List.append_nil]; exact g⟩
theorem cyc_good {w : Wd} {K : Kd} {vs : List Int} (g : Good w K vs) {a : Nat} (h : a < K.cs.length) : (cyc K a).1 < w.ls.length ∧ (cyc K a).2.1.1 ≤ w.vs.length ∧ (cyc K a).2.2.1 ≤ K.m ∧ fv vs (cyc K a).2.2 = w.t (cyc K a).1 (fv w.vs (cyc K a).2.1) := by
  unfold cyc
  rw [List.getElem?_eq_getElem h]
  exact g.c _ (List.getElem_mem h)
theorem ix_old {w : Wd} {idx : List Fm} (hx : ∀ f ∈ idx, f.1 ≤ w.vs.length) {i : Nat} (h : i < idx.length) : (ix idx i).1 ≤ w.vs.length := by
  unfold ix
  rw [List.getElem?_eq_getElem h]
  exact hx _ (List.getElem_mem h)
theorem cnt3 (vs : List Int) (a b c : Way) : cnt vs [a, b, c] = (if kept vs a then 1 else 0) + ((if kept vs b then 1 else 0) + (if kept vs c then 1 else 0)) := by
  rw [cnt_cons, cnt_cons, cnt_cons, cnt_nil, Nat.add_zero]
theorem kept1 (vs : List Int) (t : Td) : kept vs [t] = keepB vs t := by unfold kept; simp
theorem cover {w : Wd} {K : Kd} {vs : List Int} {idx : List Fm} {d : Knd} {ns : List Int} {sp : Sp} (wo : w.Ok) (g : Good w K vs) (hx : ∀ f ∈ idx, f.1 ≤ w.vs.length) (f : Ft K idx.length d ns sp) :
    ∃ l, l.length ≤ 2 ∧ New w K (ways K idx sp).2 vs l ∧ 1 ≤ cnt (vs ++ nv w l) (ways K idx sp).1 ∧ (d ≠ .eit → cnt (vs ++ nv w l) (ways K idx sp).1 = 1) := by
  obtain ⟨ex, hex⟩ := g.x
  have old : ∀ {l : List Int} {f : Fm}, f.1 ≤ w.vs.length → fv (vs ++ l) f = fv w.vs f := fun {l f} h => by rw [hex, List.append_assoc]; exact fv_ext h
  have z0 : ∀ v : List Int, fv v (0, 0) = 0 := fun _ => rfl
  have pin : ∀ {q : Nat} {p : Pr}, K.ps[q]? = some p → Kg.POk w.vs w.ls.length p ∧ w.holds p = true := fun e => g.p _ (List.mem_of_getElem? e)
  have lf : ∀ {n : Nat}, n < w.ls.length → (LF w.ls n).1 ≤ w.vs.length := fun {n} h => (L_ok wo.l (n + 1) n (by omega) h).1.1
  have one : ∀ {K' : Kd} {l : List Ce} {wy : List Way}, l.length ≤ 2 → New w K K' vs l → cnt (vs ++ nv w l) wy = 1 → ∃ l, l.length ≤ 2 ∧ New w K K' vs l ∧ 1 ≤ cnt (vs ++ nv w l) wy ∧ (d ≠ .eit → cnt (vs ++ nv w l) wy = 1) := fun h1 h2 h3 => ⟨_, h1, h2, by omega, fun _ => h3⟩
  have parts : ∀ {v : List Int} {ts : List Td} {last : List Way}, (ts.any (keepB v) = false → cnt v last = 1) → cnt v (parted ts last) = 1 := fun {v ts last} h => by
    rw [cnt_parted]
    cases c : ts.any (keepB v) with
    | true => simp
    | false => simp only [Bool.false_eq_true, if_false]; exact h c
  have two : ∀ {n1 n2 : Nat} {f1 f2 : Fm}, n1 < w.ls.length → n2 < w.ls.length → f1.1 ≤ w.vs.length → f2.1 ≤ w.vs.length → ∃ l, l.length ≤ 2 ∧ New w K ((K.have n1 f1).have n2 f2) vs l ∧ fv (vs ++ nv w l) (K.val n1 f1) = w.t n1 (fv w.vs f1) ∧ fv (vs ++ nv w l) ((K.have n1 f1).val n2 f2) = w.t n2 (fv w.vs f2) := by
    intro n1 n2 f1 f2 h1 h2 h3 h4
    obtain ⟨l1, a1, a2, a3, a4⟩ := g.grow h1 h3
    obtain ⟨l2, b1, b2, b3, b4⟩ := a2.g.grow h2 h4
    have en : nv w (l1 ++ l2) = nv w l1 ++ nv w l2 := by unfold nv; rw [List.map_append]
    refine ⟨l1 ++ l2, by rw [List.length_append]; omega, New.two g a2 b2, ?_, ?_⟩
    · rw [en, ← List.append_assoc, fv_ext a4]; exact a3
    · rw [en, ← List.append_assoc]; exact b3
  cases f with
  | @pair a b h1 h2 h3 =>
    obtain ⟨a1, a2, a3, a4⟩ := cyc_good g (show a < K.cs.length by omega)
    obtain ⟨b1, b2, b3, b4⟩ := cyc_good g h2
    have nn : nv w [] = [] := rfl
    refine one (l := []) (by simp) (New.refl g) ?_
    have oa := old (l := []) a2; have ob := old (l := []) b2
    rw [nn]
    rw [List.append_nil] at oa ob ⊢
    show cnt vs [[lss (cyc K a).2.1 (cyc K b).2.1], [lss (cyc K b).2.1 (cyc K a).2.1], eqw (cyc K a).2.1 (cyc K b).2.1 ++ eqw (cyc K a).2.2 (cyc K b).2.2] = 1
    rw [cnt3, kept1, kept1, kept_app, kept_eqw, kept_eqw, keep_lss, keep_lss, oa, ob, a4, b4, h3]
    by_cases c1 : fv w.vs (cyc K a).2.1 < fv w.vs (cyc K b).2.1
    · have c2 : ¬ fv w.vs (cyc K b).2.1 < fv w.vs (cyc K a).2.1 := by omega
      have c3 : ¬ fv w.vs (cyc K a).2.1 = fv w.vs (cyc K b).2.1 := by omega
      simp [c1, c2, c3]
    · by_cases c2 : fv w.vs (cyc K b).2.1 < fv w.vs (cyc K a).2.1
      · have c3 : ¬ fv w.vs (cyc K a).2.1 = fv w.vs (cyc K b).2.1 := by omega
        simp [c1, c2, c3]
      · have c3 : fv w.vs (cyc K a).2.1 = fv w.vs (cyc K b).2.1 := by omega
        simp [c3]
  | @write a b i v h1 h2 =>
    obtain ⟨a1, a2, a3, a4⟩ := cyc_good g h1
    have h2' := h2
    rw [g.l] at h2'
    obtain ⟨e1, e2, e3⟩ : b < (cyc K a).1 ∧ FOk w.vs i ∧ FOk w.vs v := wo.l _ _ h2'
    obtain ⟨l, l1, l2, l3, l4⟩ := g.grow (num := b) (f := (cyc K a).2.1) (by omega) a2
    simp only [ways, h2]
    refine one (by omega) l2 ?_
    have oa := old (l := nv w l) a2; have oi := old (l := nv w l) e2.1; have ov := old (l := nv w l) e3.1
    have a4 : fv (vs ++ nv w l) (cyc K a).2.2 = w.t (cyc K a).1 (fv w.vs (cyc K a).2.1) := by rw [fv_ext (by rw [g.len]; exact a3)]; exact a4
    rw [cnt3, kept_cons, kept_cons, kept_app, kept_eqw, kept_eqw, kept_eqw, keep_lss, keep_lss, oa, oi, ov, a4, l3]
    by_cases c : fv w.vs (cyc K a).2.1 = fv w.vs i
    · have t1 : w.t (cyc K a).1 (fv w.vs (cyc K a).2.1) = fv w.vs v := T_hit h2' c
      have c1 : ¬ fv w.vs (cyc K a).2.1 < fv w.vs i := by omega
      have c2 : ¬ fv w.vs i < fv w.vs (cyc K a).2.1 := by omega
      simp [c1, c2, t1, c]
      rw [← c]; exact t1
    · have t1 : w.t (cyc K a).1 (fv w.vs (cyc K a).2.1) = w.t b (fv w.vs (cyc K a).2.1) := T_miss wo.l h2' c
      rw [t1]
      by_cases c1 : fv w.vs (cyc K a).2.1 < fv w.vs i
      · have c2 : ¬ fv w.vs i < fv w.vs (cyc K a).2.1 := by omega
        simp [c1, c2, c]
      · have c2 : fv w.vs i < fv w.vs (cyc K a).2.1 := by omega
        simp [c1, c2, c]
  | @eit q ws h =>
    obtain ⟨⟨_, _, p3⟩, p2⟩ := pin h
    have nn : nv w [] = [] := rfl
    refine ⟨[], by simp, by simp only [ways, h]; exact New.refl g, ?_, fun h => absurd rfl h⟩
    simp only [ways, h, nn, List.append_nil]
    obtain ⟨wy, w1, w2⟩ := List.any_eq_true.mp p2
    have e : kept vs wy = true := by
      unfold kept
      rw [List.all_eq_true] at w2 ⊢
      intro t ht
      have := (p3 wy w1).2 t ht
      have k := w2 t ht
      unfold keepB tv at k ⊢
      have o1 := old (l := []) (f := (t.1, 0)) this.1
      have o2 := old (l := []) (f := (t.2.1, 0)) this.2.1
      rw [List.append_nil] at o1 o2
      rw [o1, o2]; exact k
    have : wy ∈ ws.filter (kept vs) := List.mem_filter.mpr ⟨w1, e⟩
    exact List.length_pos_of_mem this
  | @all q i n lo hi f s h h1 =>
    obtain ⟨⟨p1, p2, p3, p4⟩, ph⟩ := pin h
    have y := ix_old hx h1
    obtain ⟨l, l1, l2, l3, l4⟩ := g.grow p1 y
    simp only [ways, h]
    refine one (by omega) l2 (parts fun nn => ?_)
    simp only [List.any_cons, List.any_nil, Bool.or_false, Bool.or_eq_false_iff, keep_lss, keep_atm, decide_eq_false_iff_not, old y, old p2.1, old p3.1, g.l, old (lf p1), z0] at nn
    obtain ⟨n1, n2, n3, n4⟩ := nn
    have mem := mem_cells (w := w) (n := n) (lo := lo) (hi := hi) (k := fv w.vs (ix idx i)) (by omega) (by omega) (by omega) (by omega)
    have := List.all_eq_true.mp ph _ (List.mem_of_getElem? mem)
    rw [cnt_sg, l3, old p4.1, this]; rfl
  | @mat q i n o lo hi s p h h1 =>
    obtain ⟨⟨p1, p2, p3, p4, p5⟩, ph⟩ := pin h
    have y := ix_old hx h1
    obtain ⟨l, l1, l2, l3, l4⟩ := two p1 p4 y y
    simp only [ways, h]
    refine one l1 l2 (parts fun nn => ?_)
    simp only [List.any_cons, List.any_nil, Bool.or_false, Bool.or_eq_false_iff, keep_lss, keep_atm, decide_eq_false_iff_not, old y, old p2.1, old p3.1, g.l, old (lf p1), old (lf p4), z0] at nn
    obtain ⟨n1, n2, n3, n4, n5⟩ := nn
    have m1 := mem_cells (w := w) (n := n) (lo := lo) (hi := hi) (k := fv w.vs (ix idx i)) (by omega) (by omega) (by omega) (by omega)
    have m2 := mem_cells (w := w) (n := o) (lo := lo) (hi := hi) (k := fv w.vs (ix idx i)) (by omega) (by omega) (by omega) (by omega)
    have mz : ((w.cells n lo hi).zip (w.cells o lo hi))[(fv w.vs (ix idx i) - max 0 (fv w.vs lo)).toNat]? = some (w.t n (fv w.vs (ix idx i)), w.t o (fv w.vs (ix idx i))) := List.getElem?_zip_eq_some.mpr ⟨m1, m2⟩
    have := List.all_eq_true.mp ph _ (List.mem_of_getElem? mz)
    have r : fv (vs ++ nv w l) (((K.have n (ix idx i)).val o (ix idx i)).1, ((K.have n (ix idx i)).val o (ix idx i)).2 + p) = w.t o (fv w.vs (ix idx i)) + p := by
      rw [← l4]
      generalize (K.have n (ix idx i)).val o (ix idx i) = r
      rw [fv_tv, fv_tv _ r]
      show tv _ r.1 + (r.2 + p) = tv _ r.1 + r.2 + p
      omega
    rw [cnt_sg, l3, r, this]; rfl
  | @srt q i j n lo hi h h1 h2 =>
    obtain ⟨⟨p1, p2, p3⟩, ph⟩ := pin h
    have y := ix_old hx h1; have z := ix_old hx h2
    obtain ⟨l, l1, l2, l3, l4⟩ := two p1 p1 y z
    simp only [ways, h]
    refine one l1 l2 (parts fun nn => ?_)
    simp only [List.any_cons, List.any_nil, Bool.or_false, Bool.or_eq_false_iff, keep_lss, keep_atm, decide_eq_false_iff_not, old y, old z, old p2.1, old p3.1, g.l, old (lf p1), z0] at nn
    obtain ⟨n1, n2, n3, n4, n5⟩ := nn
    have m1 := mem_cells (w := w) (n := n) (lo := lo) (hi := hi) (k := fv w.vs (ix idx i)) (by omega) (by omega) (by omega) (by omega)
    have m2 := mem_cells (w := w) (n := n) (lo := lo) (hi := hi) (k := fv w.vs (ix idx j)) (by omega) (by omega) (by omega) (by omega)
    have := pairs_mono _ ph _ _ _ _ (by omega) m1 m2
    rw [cnt_cons, cnt_nil, kept1, keep_atm, l3, l4, decide_eq_true this]; rfl
  | @blw q i j n o lo hi low high h h1 h2 =>
    obtain ⟨⟨p1, p2, p3, p4, p5, p6⟩, ph⟩ := pin h
    have y := ix_old hx h1; have z := ix_old hx h2
    obtain ⟨l, l1, l2, l3, l4⟩ := two p1 p4 y z
    simp only [ways, h]
    refine one l1 l2 (parts fun nn => ?_)
    simp only [List.any_cons, List.any_nil, Bool.or_false, Bool.or_eq_false_iff, keep_lss, keep_atm, decide_eq_false_iff_not, old y, old z, old p2.1, old p3.1, old p5.1, old p6.1, g.l, old (lf p1), old (lf p4), z0] at nn
    obtain ⟨n1, n2, n3, n4, n5, n6, n7, n8⟩ := nn
    have m1 := mem_cells (w := w) (n := n) (lo := lo) (hi := hi) (k := fv w.vs (ix idx i)) (by omega) (by omega) (by omega) (by omega)
    have m2 := mem_cells (w := w) (n := o) (lo := low) (hi := high) (k := fv w.vs (ix idx j)) (by omega) (by omega) (by omega) (by omega)
    have := List.all_eq_true.mp (List.all_eq_true.mp ph _ (List.mem_of_getElem? m1)) _ (List.mem_of_getElem? m2)
    rw [cnt_cons, cnt_nil, kept1, keep_atm, l3, l4, this]; rfl
end Ws

set_option maxRecDepth 100000
set_option maxHeartbeats 4000000
namespace Sp
open PySem L2 VL Kv Kg Ws
local macro_rules
  | `(tactic| push_cast [$xs,*]) => `(tactic| try simp only [$xs,*, WpSs, WpS, WpE, WpEs, WpBs, WpO, WpN, WpI, WpC, WpT, getS, setS, tgK, setsS, wipeS, k_add, k_addT, k_sub, k_mul, k_fdiv, k_mod, k_neg, k_lt, k_le, k_gt, k_ge, k_eqI, k_neI, k_eqS, k_neS, k_eqB, k_neB, k_is, k_isn, k_isB, k_isnB, k_gIn, ctx_gdct, isNon_non, isNon_int, isNon_str, isNon_lst, isNon_tup, isNon_adr, k_lenS, k_lenL, k_lenR, k_lenT, k_int, k_str, k_abs, tru_bl, augK, ctx_call, ctx_glob, k_in, k_nin, k_inS, k_addS, k_intB, isi_non_int, isi_non_bool, isi_non_str, isi_non_list, isi_non_tuple, isi_bl_int, isi_bl_bool, isi_bl_str, isi_bl_list, isi_bl_tuple, isi_int_int, isi_int_bool, isi_int_str, isi_int_list, isi_int_tuple, isi_str_int, isi_str_bool, isi_str_str, isi_str_list, isi_str_tuple, isi_tup_int, isi_tup_bool, isi_tup_str, isi_tup_list, isi_tup_tuple, isi_lst_int, isi_lst_bool, isi_lst_str, isi_lst_list, isi_lst_tuple, isi_ro_int, isi_ro_bool, isi_ro_str, isi_ro_list, isi_ro_tuple, zs_lst, zs_tup])
open Kn (Ob Fr flds oH oH_ob l_m l_d l_l l_c l_t l_f n_new n_len n_cell p_m f_len k_eqF cells_set cells_put cells_lt cells_app viewT_app find_none_take find_none_all)
theorem wy_one (ws : List Way) (w : Way) : ws.map wyv ++ [wyv w] = (ws ++ [w]).map wyv := by rw [List.map_append]; rfl
theorem sg_ne : decide (sgS .le = "<") = false ∧ decide (sgS .gt = "<") = false ∧ decide (sgS .ge = "<") = false ∧ decide (sgS .eq = "<") = false ∧ decide (sgS .ne = "<") = false ∧ decide (sgS .gt = "<=") = false ∧ decide (sgS .ge = "<=") = false ∧ decide (sgS .eq = "<=") = false ∧ decide (sgS .ne = "<=") = false ∧ decide (sgS .ge = ">") = false ∧ decide (sgS .eq = ">") = false ∧ decide (sgS .ne = ">") = false ∧ decide (sgS .eq = ">=") = false ∧ decide (sgS .ne = ">=") = false ∧ decide (sgS .ne = "==") = false := by decide +kernel
theorem sg_eq : decide (sgS .lt = "<") = true ∧ decide (sgS .le = "<=") = true ∧ decide (sgS .gt = ">") = true ∧ decide (sgS .ge = ">=") = true ∧ decide (sgS .eq = "==") = true := by decide +kernel
section
variable {P : Prg} [Kq.U P] [U P]
theorem gnd : P.glob.lookup 9 = some (fmv (0, 0)) := Kq.U.g_GROUND
theorem equal_ok {n : Nat} {f g : Fm} {h : AHeap} {Q} (q : Q (wyv (eqw f g)) h) : callN P (n+2) 201 [fmv f, fmv g] h Q := by
  refine call_of U.f_equal rfl ?_
  show WpSs (ctxOf P (callN P (n+1))) b_equal _ [.val (fmv f), .val (fmv g)] h
  push_cast [b_equal]
  refine Kq.at_most_ok (Kq.at_most_ok ?_)
  exact ⟨by show 2 ≤ sizeLine; decide, q⟩
theorem sign_ways_ok {n : Nat} {s : Sg} {l r : Fm} {h : AHeap} {Q} (q : Q (.lst ((sgW s l r).map wyv)) h) : callN P (n+3) 200 [.str (sgS s), fmv l, fmv r] h Q := by
  refine call_of U.f_sign_ways rfl ?_
  show WpSs (ctxOf P (callN P (n+2))) b_sign_ways _ [.val (.str (sgS s)), .val (fmv l), .val (fmv r)] h
  cases s with
  | lt =>
    push_cast [b_sign_ways, sg_eq, if_true]
    exact Kq.less_ok ⟨by show 1 ≤ sizeLine; decide, by show 1 ≤ sizeLine; decide, q⟩
  | le =>
    push_cast [b_sign_ways, sg_ne, sg_eq, Bool.false_eq_true, if_false, if_true, b_sign_ways_5]
    exact Kq.at_most_ok ⟨by show 1 ≤ sizeLine; decide, by show 1 ≤ sizeLine; decide, q⟩
  | gt =>
    push_cast [b_sign_ways, sg_ne, sg_eq, Bool.false_eq_true, if_false, if_true, b_sign_ways_5, b_sign_ways_4]
    exact Kq.less_ok ⟨by show 1 ≤ sizeLine; decide, by show 1 ≤ sizeLine; decide, q⟩
  | ge =>
    push_cast [b_sign_ways, sg_ne, sg_eq, Bool.false_eq_true, if_false, if_true, b_sign_ways_5, b_sign_ways_4, b_sign_ways_3]
    exact Kq.at_most_ok ⟨by show 1 ≤ sizeLine; decide, by show 1 ≤ sizeLine; decide, q⟩
  | eq =>
    push_cast [b_sign_ways, sg_ne, sg_eq, Bool.false_eq_true, if_false, if_true, b_sign_ways_5, b_sign_ways_4, b_sign_ways_3, b_sign_ways_2]
    exact equal_ok ⟨by show 1 ≤ sizeLine; decide, q⟩
  | ne =>
    push_cast [b_sign_ways, sg_ne, Bool.false_eq_true, if_false, if_true, b_sign_ways_5, b_sign_ways_4, b_sign_ways_3, b_sign_ways_2, b_sign_ways_1]
    exact Kq.less_ok ⟨by show 1 ≤ sizeLine; decide, Kq.less_ok ⟨by show 1 ≤ sizeLine; decide, by show 2 ≤ sizeLine; decide, q⟩⟩
theorem outside_ok {n : Nat} {f l : Fm} {h : AHeap} {Q} (q : Q (.lst [td (lss f (0, 0)), td (atm l f)]) h) : callN P (n+2) 203 [fmv f, fmv l] h Q := by
  refine call_of U.f_outside rfl ?_
  show WpSs (ctxOf P (callN P (n+1))) b_outside _ [.val (fmv f), .val (fmv l)] h
  have gd := gnd (P := P)
  push_cast [b_outside, gd]
  refine Kq.less_ok (P := P) ?_
  refine Kq.at_most_ok ?_
  exact ⟨by show 2 ≤ sizeLine; decide, q⟩
theorem parted_ok {n : Nat} {ts : List Td} {ws : List Way} {h : AHeap} {Q} (ht : ts.length ≤ 1000) (hw : ws.length ≤ 1000) (hy : ∀ w ∈ ws, w.length ≤ 1000) (q : Q (.adr h.length) (h ++ [.lst ((parted ts ws).map wyv)])) : callN P (n+2) 202 [.lst (ts.map td), .lst (ws.map wyv)] h Q := by
  refine call_of U.f_parted rfl ?_
  show WpSs (ctxOf P (callN P (n+1))) b_parted _ [.val (.lst (ts.map td)), .val (.lst (ws.map wyv)), .no, .no, .no, .no] h
  have hz : sizeLine = 16777216 := rfl
  push_cast [b_parted, viewT_lst]
  refine ⟨by show 0 ≤ sizeLine; decide, by show 0 ≤ sizeLine; decide, ?_⟩
  refine for_inv (fun i ρ h' => h' = h ∧ ∃ s4, ρ = [.val (.lst (ts.map td)), .val (.lst (ws.map wyv)), .own (.lst ((pre ts i).map wyv)), .val (.tup (((ts.take i).map opp).map td)), s4, .no]) ⟨rfl, _, rfl⟩ (fun _ _ _ _ _ => by trivial) ?_ ?_
  · rintro i z _ h D' hx ⟨rfl, s4, rfl⟩ kn kc kr kb
    obtain ⟨t, ht2, rfl⟩ := items_map hx
    have lt := (List.getElem?_eq_some_iff.mp ht2).1
    have el : (((ts.take i).map opp).map td).length ≤ 1000 := by rw [List.length_map, List.length_map, List.length_take]; omega
    have ep : ((pre ts i).map wyv).length ≤ 1000 := by unfold pre; rw [List.length_map, List.length_map, List.length_range]; omega
    have e1 : ((ts.take i).map opp).map td ++ [td t] = ((ts.take i).map opp ++ [t]).map td := by rw [List.map_append]; rfl
    have e2 : (pre ts i).map wyv ++ [.tup (((ts.take i).map opp ++ [t]).map td)] = (pre ts (i + 1)).map wyv := by rw [pre_succ ht2, ← wy_one]; rfl
    have e3 : ((ts.take i).map opp).map td ++ [td (t.2.1, t.1, -t.2.2 - 1)] = ((ts.take (i + 1)).map opp).map td := by rw [opp_succ ht2, List.map_append]; rfl
    push_cast [b_parted_1]
    push_cast [e1, e2]
    refine ⟨by show 1 ≤ sizeLine; decide, by rw [List.length_singleton]; omega, by omega, ?_⟩
    refine Kq.opposite_ok ⟨by show 1 ≤ sizeLine; decide, ?_⟩
    rw [e3]
    exact ⟨by rw [List.length_singleton]; omega, kn _ _ ⟨rfl, _, rfl⟩⟩
  · rintro _ h ⟨rfl, s4, rfl⟩
    rw [List.length_map, List.take_length]
    push_cast [b_parted_2, viewT_lst]
    refine ⟨by rw [List.length_map]; omega, ?_⟩
    refine comp_list (f := fun w => wyv (ts.map opp ++ w)) (chk := fun _ => True) trivial (fun w hw R r => ?_) ?_
    · have := hy w hw
      have ew : wyv (ts.map opp ++ w) = .tup ((ts.map opp).map td ++ w.map td) := by unfold wyv; rw [List.map_append]
      push_cast [wyv, if_true]
      rw [← List.map_append]
      exact ⟨by rw [List.length_map, List.length_map, List.length_map]; omega, r⟩
    · have ep : (pre ts ts.length).map wyv ++ ws.map (fun w => wyv (ts.map opp ++ w)) = (parted ts ws).map wyv := by unfold parted; rw [List.map_append, List.map_map]; rfl
      push_cast [viewW_lst, ep]
      have lp : (pre ts ts.length).length ≤ 1000 := by unfold pre; rw [List.length_map, List.length_range]; exact ht
      refine ⟨by rw [List.length_map, List.length_map]; omega, q⟩
end
end Sp

set_option maxRecDepth 100000
set_option maxHeartbeats 4000000
namespace Sp
open PySem L2 VL Kv Kg Ws
local macro_rules
  | `(tactic| push_cast [$xs,*]) => `(tactic| try simp only [$xs,*, WpSs, WpS, WpE, WpEs, WpBs, WpO, WpN, WpI, WpC, WpT, getS, setS, tgK, setsS, wipeS, k_add, k_addT, k_sub, k_mul, k_fdiv, k_mod, k_neg, k_lt, k_le, k_gt, k_ge, k_eqI, k_neI, k_eqS, k_neS, k_eqB, k_neB, k_is, k_isn, k_isB, k_isnB, k_gIn, ctx_gdct, isNon_non, isNon_int, isNon_str, isNon_lst, isNon_tup, isNon_adr, k_lenS, k_lenL, k_lenR, k_lenT, k_int, k_str, k_abs, tru_bl, augK, ctx_call, ctx_glob, k_in, k_nin, k_inS, k_addS, k_intB, isi_non_int, isi_non_bool, isi_non_str, isi_non_list, isi_non_tuple, isi_bl_int, isi_bl_bool, isi_bl_str, isi_bl_list, isi_bl_tuple, isi_int_int, isi_int_bool, isi_int_str, isi_int_list, isi_int_tuple, isi_str_int, isi_str_bool, isi_str_str, isi_str_list, isi_str_tuple, isi_tup_int, isi_tup_bool, isi_tup_str, isi_tup_list, isi_tup_tuple, isi_lst_int, isi_lst_bool, isi_lst_str, isi_lst_list, isi_lst_tuple, isi_ro_int, isi_ro_bool, isi_ro_str, isi_ro_list, isi_ro_tuple, zs_lst, zs_tup])
open Kn (Ob Fr flds oH oH_ob l_m l_d l_l l_c l_t l_f n_new n_len n_cell p_m f_len k_eqF cells_set cells_put cells_lt cells_app viewT_app find_none_take find_none_all)
theorem zip_ints (ns bs : List Int) : ((ns.map AV.int).zip (bs.map AV.int)).map (fun p => AV.tup [p.1, p.2]) = (ns.zip bs).map fun p => AV.tup [.int p.1, .int p.2] := by
  rw [List.zip_map, List.map_map]; rfl
theorem kn_ne {a b : Knd} (h : a ≠ b) : decide (kS a = kS b) = false := by
  rw [decide_eq_false_iff_not]
  intro e
  have := congrArg kindOf e
  rw [kindOf_kS, kindOf_kS] at this
  injection this with this
  exact h this
theorem hd_pr (p : Pr) : ∃ xs, prv p = .tup (.str (kS (prK p)) :: xs) := by cases p <;> exact ⟨_, rfl⟩
section
variable {P : Prg} [Kq.U P] [U P]
theorem is_row_ok {n : Nat} {x : AV} {ns bs : List Int} {h : AHeap} {Q} (ex : zs x = some (ns.map AV.int)) (hb : bs.length ≤ 100) (q : Q (.bl (rowB ns bs)) h) : callN P (n+1) 210 [x, .lst (bs.map AV.int)] h Q := by
  refine call_of U.f_is_row rfl ?_
  show WpSs (ctxOf P (callN P n)) b_is_row _ [.val x, .val (.lst (bs.map AV.int)), .no, .no] h
  have hz : sizeLine = 16777216 := rfl
  push_cast [b_is_row, ex, zip_ints]
  refine ⟨by rw [List.length_map, List.length_zip]; omega, ?_⟩
  refine comp_list (f := fun p : Int × Int => .bl (decide (0 ≤ p.1 ∧ p.1 < p.2))) (chk := fun _ => True) trivial (fun p hp R r => ?_) ?_
  · push_cast [if_true]
    by_cases c : 0 ≤ p.1
    · push_cast [decide_eq_true c, if_true]
      simp only [c, true_and] at r
      exact r
    · push_cast [decide_eq_false c, Bool.false_eq_true, if_false]
      simp only [c, false_and, decide_false] at r
      exact r
  · have e : (ns.zip bs).map (fun p => AV.bl (decide (0 ≤ p.1 ∧ p.1 < p.2))) = ((ns.zip bs).map fun p => decide (0 ≤ p.1 ∧ p.1 < p.2)).map AV.bl := by rw [List.map_map]; rfl
    rw [e]
    refine k_all ?_
    rw [all_map]
    exact q
theorem gk : P.gdct.lookup 10 = some kinds := U.g_KINDS
theorem kd_p : decide (kS .pair = "pair") = true ∧ decide (kS .write = "pair") = false ∧ decide (kS .write = "write") = true := by decide +kernel
theorem kd_o {d : Knd} (h : d ≠ .pair ∧ d ≠ .write) : decide (kS d = "pair") = false ∧ decide (kS d = "write") = false := by cases d <;> first | exact absurd rfl h.1 | exact absurd rfl h.2 | decide +kernel
theorem fit_o {K : Kd} {many : Nat} {d : Knd} {q : Int} {is : List Int} (h : d ≠ .pair ∧ d ≠ .write) (hl : (q :: is).length = kN d) : fit K many d (q :: is) = if rowB (q :: is) [(K.ps.length : Int), (many : Int), (many : Int)] = true then
      (match K.ps[q.toNat]? with
      | some p => if prK p = d then some (.pr q.toNat (is.map Int.toNat)) else none
      | none => none) else none := by
  cases d <;> first | exact absurd rfl h.1 | exact absurd rfl h.2 | (unfold fit; (simp only [hl, true_and] <;> rfl))
theorem row_head {q b : Int} {is bs : List Int} (h : rowB (q :: is) (b :: bs) = true) : 0 ≤ q ∧ q < b := by
  unfold rowB at h
  simp only [List.zip_cons_cons, List.all_cons, Bool.and_eq_true, decide_eq_true_eq] at h
  exact h.1
theorem to_nat {i : Int} {n : Nat} (h : 0 ≤ i ∧ i < (n : Int)) : ∃ j : Nat, i = j ∧ j < n := by
  obtain ⟨j, hj⟩ := Int.eq_ofNat_of_zero_le h.1
  exact ⟨j, hj, by omega⟩
theorem fits_1_ok {n : Nat} {h : AHeap} {o : Nat} {K : Kd} {idx : List Fm} {d : Knd} {i : Int} {is : List Int} {s3 s4 s5 s6 : Slot} {Q} (x : Ob h o K) (hd : d ≠ .pair ∧ d ≠ .write) (hl : (i :: is).length = kN d) (q : Q (.bl (fit K idx.length d (i :: is)).isSome) h) :
    WpSs (ctxOf P (callN P (n+1))) b_fits_1 { nx := fun x h => Q AV.non h, rt := Q } [.val (.adr o), .val (.lst (idx.map fmv)), .val (.tup (.str (kS d) :: (i :: is).map AV.int)), s3, s4, s5, s6] h := by
  rw [fit_o hd hl] at q
  have e1 : cut (AV.str (kS d) :: (i :: is).map AV.int) (some 1) none = (i :: is).map AV.int := (cut_sn _ 1).trans rfl
  push_cast [b_fits_1, x.hd, l_t, Kq.ft, true_and]
  refine k_lenV (view_adr x.t) ?_
  push_cast [List.length_map, k_sliceT, e1]
  refine ⟨by show 3 ≤ sizeLine; decide, ?_⟩
  refine is_row_ok (ns := i :: is) (bs := [(K.ps.length : Int), (idx.length : Int), (idx.length : Int)]) rfl (by show 3 ≤ 100; decide) ?_
  cases c : rowB (i :: is) [(K.ps.length : Int), (idx.length : Int), (idx.length : Int)] with
  | false =>
    rw [c] at q
    exact q
  | true =>
    rw [c, if_pos rfl] at q
    obtain ⟨j, rfl, hj⟩ := to_nat (row_head c)
    have ej := List.getElem?_eq_getElem hj
    rw [Int.toNat_natCast, ej] at q
    push_cast [x.hd, l_t, Kq.ft, true_and]
    refine k_tup (h := h) (j := 1) (d := .int (j : Int)) rfl ?_
    refine k_subV (d := prv K.ps[j]) (view_adr x.t) (by rw [List.getElem?_map, ej]; rfl) ?_
    obtain ⟨xs, ex⟩ := hd_pr K.ps[j]
    rw [ex]
    refine k_tup (h := h) (j := 0) (d := .str (kS (prK K.ps[j]))) rfl ?_
    refine k_tup (h := h) (j := 0) (d := .str (kS d)) rfl ?_
    push_cast [WpSs]
    by_cases c2 : prK K.ps[j] = d
    · simp only [c2, decide_true]
      simp only [c2, if_true, Option.isSome_some] at q
      exact q
    · rw [kn_ne c2]
      simp only [c2, if_false, Option.isSome_none] at q
      exact q
theorem fits_ok {n : Nat} {h : AHeap} {o : Nat} {K : Kd} {idx : List Fm} {k : Str} {ns : List Int} {Q} (x : Ob h o K) (ok : K.Ok) (q : Q (.bl ((kindOf k).bind fun d => if ns.length = kN d then fit K idx.length d ns else none).isSome) h) : callN P (n+2) 211 [.adr o, .lst (idx.map fmv), spv k ns] h Q := by
  refine call_of U.f_fits rfl ?_
  show WpSs (ctxOf P (callN P (n+1))) b_fits _ [.val (.adr o), .val (.lst (idx.map fmv)), .val (spv k ns), .no, .no, .no, .no] h
  have gd := gk (P := P)
  have c0 : decide (((AV.str k :: ns.map AV.int).length : Int) = 0) = false := by
    rw [decide_eq_false_iff_not, List.length_cons]; omega
  push_cast [b_fits, spv, c0, Bool.false_eq_true, if_false]
  refine k_tup (j := 0) (d := .str k) rfl ?_
  push_cast [gd, k_gIn, kinds_look, Option.isSome_map]
  cases ek : kindOf k with
  | none =>
    push_cast [Option.isSome_none, Bool.not_false, if_true]
    rw [ek] at q
    exact q
  | some d =>
    rw [ek] at q
    push_cast [Option.isSome_some, Bool.not_true, Bool.false_eq_true, if_false]
    refine k_tup (h := h) (j := 0) (d := .str k) rfl ?_
    refine k_gGet (i := ((kN d + 1 : Nat) : Int)) (by rw [kinds_look, ek]; rfl) ?_
    push_cast [List.length_cons, List.length_map]
    by_cases cl : ns.length = kN d
    · have c1 : decide (((ns.length + 1 : Nat) : Int) = ((kN d + 1 : Nat) : Int)) = true := decide_eq_true (by omega)
      push_cast [c1, Bool.not_true, Bool.false_eq_true, if_false, b_fits_3, x.hd, l_c, Kq.fc, true_and]
      simp only [Option.bind_some, cl, if_true] at q
      obtain rfl := kindOf_some ek
      refine k_lenV (view_adr x.c) ?_
      refine k_tup (h := h) (j := 0) (d := .str (kS d)) rfl ?_
      push_cast [List.length_map]
      by_cases cp : d = .pair
      · subst cp
        match ns, cl with
        | [a, b], _ =>
          push_cast [kd_p, if_true]
          refine k_tup (h := h) (j := 1) (d := .int a) rfl ?_
          refine k_tup (h := h) (j := 2) (d := .int b) rfl ?_
          refine ⟨by show 2 ≤ sizeLine; decide, by show 2 ≤ sizeLine; decide, ?_⟩
          refine is_row_ok (ns := [a, b]) (bs := [b, (K.cs.length : Int)]) rfl (by show 2 ≤ 100; decide) ?_
          have er : rowB [a, b] [b, (K.cs.length : Int)] = decide (0 ≤ a ∧ a < b ∧ 0 ≤ b ∧ b < (K.cs.length : Int)) := by
            unfold rowB
            rw [Bool.eq_iff_iff]
            simp only [List.zip_cons_cons, List.zip_nil_left, List.all_cons, List.all_nil, Bool.and_true, Bool.and_eq_true, decide_eq_true_eq]
            omega
          rw [er]
          simp only [fit] at q
          by_cases c : 0 ≤ a ∧ a < b ∧ 0 ≤ b ∧ b < (K.cs.length : Int)
          · rw [if_pos c] at q
            obtain ⟨i, rfl, hi⟩ := to_nat (i := a) (n := K.cs.length) ⟨c.1, by omega⟩
            obtain ⟨j, rfl, hj⟩ := to_nat (i := b) (n := K.cs.length) ⟨by omega, c.2.2.2⟩
            have ei := List.getElem?_eq_getElem hi
            have ej := List.getElem?_eq_getElem hj
            rw [Int.toNat_natCast, Int.toNat_natCast, ei, ej] at q
            push_cast [decide_eq_true c, x.hd, l_c, Kq.fc, true_and]
            refine k_subV (d := cev K.cs[i]) (view_adr x.c) (by rw [List.getElem?_map, ei]; rfl) ?_
            refine k_tup (h := h) (j := 0) (d := .int (K.cs[i].1 : Int)) (xs := [.int (K.cs[i].1 : Int), fmv K.cs[i].2.1, fmv K.cs[i].2.2]) rfl ?_
            refine k_subV (d := cev K.cs[j]) (view_adr x.c) (by rw [List.getElem?_map, ej]; rfl) ?_
            refine k_tup (h := h) (j := 0) (d := .int (K.cs[j].1 : Int)) (xs := [.int (K.cs[j].1 : Int), fmv K.cs[j].2.1, fmv K.cs[j].2.2]) rfl ?_
            push_cast [WpSs]
            by_cases c2 : K.cs[i].1 = K.cs[j].1
            · rw [decide_eq_true (by omega)]
              simp only [c2, if_true, Option.isSome_some] at q
              exact q
            · rw [decide_eq_false (by omega)]
              simp only [c2, if_false, Option.isSome_none] at q
              exact q
          · rw [if_neg c] at q
            simp only [decide_eq_false c]
            exact q
      by_cases cw : d = .write
      · subst cw
        match ns, cl with
        | [a], _ =>
          push_cast [kd_p, Bool.false_eq_true, if_false, if_true, b_fits_2]
          refine k_tup (h := h) (j := 0) (d := .str (kS .write)) rfl ?_
          push_cast [kd_p, if_true]
          refine k_tup (h := h) (j := 1) (d := .int a) rfl ?_
          refine ⟨by show 1 ≤ sizeLine; decide, by show 1 ≤ sizeLine; decide, ?_⟩
          refine is_row_ok (ns := [a]) (bs := [(K.cs.length : Int)]) rfl (by show 1 ≤ 100; decide) ?_
          have er : rowB [a] [(K.cs.length : Int)] = decide (0 ≤ a ∧ a < (K.cs.length : Int)) := by
            unfold rowB
            simp only [List.zip_cons_cons, List.zip_nil_left, List.all_cons, List.all_nil, Bool.and_true]
          rw [er]
          simp only [fit] at q
          by_cases c : 0 ≤ a ∧ a < (K.cs.length : Int)
          · rw [if_pos c] at q
            obtain ⟨i, rfl, hi⟩ := to_nat c
            have ei := List.getElem?_eq_getElem hi
            rw [Int.toNat_natCast, ei] at q
            have hb := (ok.c _ (List.getElem_mem hi)).1
            have el := List.getElem?_eq_getElem hb
            simp only [el] at q
            push_cast [decide_eq_true c, x.hd, l_c, l_l, Kq.fc, Kq.fl, true_and]
            refine k_tup (h := h) (j := 1) (d := .int (i : Int)) rfl ?_
            refine k_subV (d := cev K.cs[i]) (view_adr x.c) (by rw [List.getElem?_map, ei]; rfl) ?_
            refine k_tup (h := h) (j := 0) (d := .int (K.cs[i].1 : Int)) (xs := [.int (K.cs[i].1 : Int), fmv K.cs[i].2.1, fmv K.cs[i].2.2]) rfl ?_
            refine k_subV (d := lsv K.ls[K.cs[i].1]) (view_adr x.l) (by rw [List.getElem?_map, el]; rfl) ?_
            cases w : K.ls[K.cs[i].1] with
            | wr b f v =>
              simp only [w, isWr, if_true, Option.isSome_some] at q
              refine k_tup (h := h) (j := 0) (d := .str "written") (xs := [.str "written", .int (b : Int), fmv f, fmv v]) rfl ?_
              push_cast [decide_true]
              exact q
            | nw f =>
              simp only [w, isWr, Bool.false_eq_true, if_false, Option.isSome_none] at q
              refine k_tup (h := h) (j := 0) (d := .str "new") (xs := [.str "new", fmv f]) rfl ?_
              push_cast [wn.2.1]
              exact q
          · rw [if_neg c] at q
            simp only [decide_eq_false c]
            exact q
      push_cast [kd_o ⟨cp, cw⟩, Bool.false_eq_true, if_false, b_fits_2]
      refine k_tup (h := h) (j := 0) (d := .str (kS d)) rfl ?_
      push_cast [kd_o ⟨cp, cw⟩, Bool.false_eq_true, if_false]
      match ns, cl with
      | [], cl => cases d <;> cases cl
      | i :: is, cl => exact fits_1_ok x ⟨cp, cw⟩ cl q
    · have c1 : decide (((ns.length + 1 : Nat) : Int) = ((kN d + 1 : Nat) : Int)) = false := decide_eq_false (by omega)
      push_cast [c1, Bool.not_false, if_true]
      simp only [Option.bind_some, cl, if_false] at q
      exact q
end
end Sp

set_option maxRecDepth 100000
set_option maxHeartbeats 4000000
namespace Sp
open PySem L2 VL Kv Kg Ws
local macro_rules
  | `(tactic| push_cast [$xs,*]) => `(tactic| try simp only [$xs,*, WpSs, WpS, WpE, WpEs, WpBs, WpO, WpN, WpI, WpC, WpT, getS, setS, tgK, setsS, wipeS, k_add, k_addT, k_sub, k_mul, k_fdiv, k_mod, k_neg, k_lt, k_le, k_gt, k_ge, k_eqI, k_neI, k_eqS, k_neS, k_eqB, k_neB, k_is, k_isn, k_isB, k_isnB, k_gIn, ctx_gdct, isNon_non, isNon_int, isNon_str, isNon_lst, isNon_tup, isNon_adr, k_lenS, k_lenL, k_lenR, k_lenT, k_int, k_str, k_abs, tru_bl, augK, ctx_call, ctx_glob, k_in, k_nin, k_inS, k_addS, k_intB, isi_non_int, isi_non_bool, isi_non_str, isi_non_list, isi_non_tuple, isi_bl_int, isi_bl_bool, isi_bl_str, isi_bl_list, isi_bl_tuple, isi_int_int, isi_int_bool, isi_int_str, isi_int_list, isi_int_tuple, isi_str_int, isi_str_bool, isi_str_str, isi_str_list, isi_str_tuple, isi_tup_int, isi_tup_bool, isi_tup_str, isi_tup_list, isi_tup_tuple, isi_lst_int, isi_lst_bool, isi_lst_str, isi_lst_list, isi_lst_tuple, isi_ro_int, isi_ro_bool, isi_ro_str, isi_ro_list, isi_ro_tuple, zs_lst, zs_tup])
open Kn (Ob Fr flds oH oH_ob l_m l_d l_l l_c l_t l_f n_new n_len n_cell p_m f_len k_eqF cells_set cells_put cells_lt cells_app viewT_app find_none_take find_none_all)
theorem sg_len (s : Sg) (l r : Fm) : (sgW s l r).length ≤ 1000 ∧ ∀ w ∈ sgW s l r, w.length ≤ 1000 := by
  cases s <;> simp [sgW, eqw]
theorem one_len (t : Td) : ([[t]] : List Way).length ≤ 1000 ∧ ∀ w ∈ ([[t]] : List Way), w.length ≤ 1000 := by simp
section
variable {P : Prg} [Kq.U P] [U P]
theorem pair_ways_ok {n : Nat} {h : AHeap} {o : Nat} {K : Kd} {a b : Nat} {Q} (x : Ob h o K) (ha : a < K.cs.length) (hb : b < K.cs.length) (q : Q (.adr h.length) (h ++ [.lst ((ways K [] (.pair a b)).1.map wyv)])) : callN P (n+3) 204 [.adr o, .int (a : Int), .int (b : Int)] h Q := by
  refine call_of U.f_pair_ways rfl ?_
  show WpSs (ctxOf P (callN P (n+2))) b_pair_ways _ [.val (.adr o), .val (.int a), .val (.int b), .no, .no, .no, .no] h
  have ea := List.getElem?_eq_getElem ha
  have eb := List.getElem?_eq_getElem hb
  have ga : (K.cs.map cev)[a]? = some (.tup [.int (K.cs[a].1 : Int), fmv K.cs[a].2.1, fmv K.cs[a].2.2]) := by rw [List.getElem?_map, ea]; rfl
  have gb : (K.cs.map cev)[b]? = some (.tup [.int (K.cs[b].1 : Int), fmv K.cs[b].2.1, fmv K.cs[b].2.2]) := by rw [List.getElem?_map, eb]; rfl
  simp only [ways, cyc, ea, eb, Option.getD_some] at q
  push_cast [b_pair_ways, x.hd, l_c, Kq.fc, true_and]
  refine k_subV (view_adr x.c) ga (k_tup (h := h) (j := 1) (d := fmv K.cs[a].2.1) rfl ?_)
  refine k_subV (view_adr x.c) ga (k_tup (h := h) (j := 2) (d := fmv K.cs[a].2.2) rfl ?_)
  refine k_subV (view_adr x.c) gb (k_tup (h := h) (j := 1) (d := fmv K.cs[b].2.1) rfl ?_)
  refine k_subV (view_adr x.c) gb (k_tup (h := h) (j := 2) (d := fmv K.cs[b].2.2) rfl ?_)
  refine Kq.less_ok ⟨by show 1 ≤ sizeLine; decide, ?_⟩
  refine Kq.less_ok ⟨by show 1 ≤ sizeLine; decide, ?_⟩
  refine equal_ok (equal_ok ?_)
  push_cast [wyv]
  exact ⟨by show 4 ≤ sizeLine; decide, by show 3 ≤ sizeLine; decide, q⟩
theorem write_ways_ok {n : Nat} {h : AHeap} {o : Nat} {K : Kd} {a b : Nat} {i v : Fm} {Q} (x : Ob h o K) (ha : a < K.cs.length) (hc : K.cs.length ≤ 1000) (hl : K.ls[(cyc K a).1]? = some (.wr b i v)) (q : ∀ h1, Ob h1 o (ways K [] (.write a)).2 → Fr o 6 h h1 → h1.length = h.length → Q (.adr h1.length) (h1 ++ [.lst ((ways K [] (.write a)).1.map wyv)])) : callN P (n+3) 205 [.adr o, .int (a : Int)] h Q := by
  refine call_of U.f_write_ways rfl ?_
  show WpSs (ctxOf P (callN P (n+2))) b_write_ways _ [.val (.adr o), .val (.int a), .no, .no, .no, .no, .no, .no, .no, .no, .no] h
  have ea := List.getElem?_eq_getElem ha
  have ga : (K.cs.map cev)[a]? = some (.tup [.int (K.cs[a].1 : Int), fmv K.cs[a].2.1, fmv K.cs[a].2.2]) := by rw [List.getElem?_map, ea]; rfl
  have ec : cyc K a = K.cs[a] := by unfold cyc; rw [ea]; rfl
  simp only [ways, hl] at q
  rw [ec] at hl q
  have gl : (K.ls.map lsv)[K.cs[a].1]? = some (.tup [.str "written", .int (b : Int), fmv i, fmv v]) := by rw [List.getElem?_map, hl]; rfl
  push_cast [b_write_ways, x.hd, l_c, Kq.fc, true_and]
  refine k_subV (view_adr x.c) ga ?_
  push_cast [x.hd, l_l, Kq.fl, true_and]
  refine k_subV (view_adr x.l) gl ?_
  push_cast [x.hd, n_cell, Kq.me_cell]
  refine Kq.cell_ok x hc fun h1 x1 f1 e1 => ?_
  refine equal_ok ?_
  refine Kq.less_ok ⟨by show 1 ≤ sizeLine; decide, ?_⟩
  push_cast [wyv]
  refine ⟨by show 3 ≤ sizeLine; decide, ?_⟩
  refine Kq.less_ok ⟨by show 1 ≤ sizeLine; decide, by show 3 ≤ sizeLine; decide, ?_⟩
  refine equal_ok (equal_ok ?_)
  push_cast [wyv]
  exact ⟨by show 4 ≤ sizeLine; decide, by show 3 ≤ sizeLine; decide, q h1 x1 f1 e1⟩
theorem all_ways_ok {n m : Nat} {h : AHeap} {o : Nat} {K : Kd} {num : Nat} {lo hi f y : Fm} {s : Sg} {Q} (x : Ob h o K) (ho : LIn m K.ls) (hn : num < K.ls.length) (hc : K.cs.length ≤ 1000)
    (q : ∀ h1, Ob h1 o (K.have num y) → Fr o 6 h h1 → h1.length = h.length → Q (.adr h1.length) (h1 ++ [.lst ((parted [lss y lo, atm hi y, lss y (0, 0), atm (LF K.ls num) y] (sgW s (K.val num y) f)).map wyv)])) : callN P (n+4) 206 [.adr o, prv (.all num lo hi s f), fmv y] h Q := by
  refine call_of U.f_all_ways rfl ?_
  show WpSs (ctxOf P (callN P (n+3))) b_all_ways _ [.val (.adr o), .val (prv (.all num lo hi s f)), .val (fmv y), .no, .no, .no, .no, .no, .no, .no] h
  push_cast [b_all_ways, prv]
  refine Kq.less_ok (Kq.at_most_ok ⟨by show 2 ≤ sizeLine; decide, ?_⟩)
  push_cast [x.hd, n_len, Kq.me_len]
  refine Kq.length_ok x ho hn (outside_ok ?_)
  push_cast [viewW_lst]
  refine ⟨by show 4 ≤ sizeLine; decide, ?_⟩
  push_cast [x.hd, n_cell, Kq.me_cell]
  refine Kq.cell_ok x hc fun h1 x1 f1 e1 => ?_
  refine sign_ways_ok ?_
  exact parted_ok (ts := [lss y lo, atm hi y, lss y (0, 0), atm (LF K.ls num) y]) (by show 4 ≤ 1000; decide) (sg_len _ _ _).1 (sg_len _ _ _).2 (q h1 x1 f1 e1)
theorem match_ways_ok {n m : Nat} {h : AHeap} {o : Nat} {K : Kd} {num oth : Nat} {lo hi y : Fm} {s : Sg} {p : Int} {Q} (x : Ob h o K) (ho : LIn m K.ls) (hn : num < K.ls.length) (hn2 : oth < K.ls.length) (hc : K.cs.length + 1 ≤ 1000)
    (q : ∀ h1, Ob h1 o ((K.have num y).have oth y) → Fr o 6 h h1 → h1.length = h.length → Q (.adr h1.length) (h1 ++ [.lst ((parted [lss y lo, atm hi y, lss y (0, 0), atm (LF K.ls num) y, atm (LF K.ls oth) y] (sgW s (K.val num y) (((K.have num y).val oth y).1, ((K.have num y).val oth y).2 + p))).map wyv)])) : callN P (n+4) 207 [.adr o, prv (.mat num lo hi s oth p), fmv y] h Q := by
  refine call_of U.f_match_ways rfl ?_
  show WpSs (ctxOf P (callN P (n+3))) b_match_ways _ [.val (.adr o), .val (prv (.mat num lo hi s oth p)), .val (fmv y), .no, .no, .no, .no, .no, .no, .no, .no, .no] h
  push_cast [b_match_ways, prv]
  refine Kq.less_ok (Kq.at_most_ok ⟨by show 2 ≤ sizeLine; decide, ?_⟩)
  push_cast [x.hd, n_len, Kq.me_len]
  refine Kq.length_ok x ho hn (outside_ok ?_)
  push_cast [viewW_lst]
  refine ⟨by show 4 ≤ sizeLine; decide, ?_⟩
  push_cast [x.hd, n_len, Kq.me_len]
  refine Kq.length_ok x ho hn2 (Kq.at_most_ok ⟨by show 1 ≤ sizeLine; decide, ?_⟩)
  push_cast [viewW_lst]
  refine ⟨by show 5 ≤ sizeLine; decide, ?_⟩
  push_cast [x.hd, n_cell, Kq.me_cell]
  refine Kq.cell_ok x (by omega) fun h1 x1 f1 e1 => ?_
  have hl := have_ls (K := K) (num := num) (f := y)
  push_cast [x1.hd, n_cell, Kq.me_cell]
  refine Kq.cell_ok x1 (by omega) fun h2 x2 f2 e2 => ?_
  refine Kq.shifted_ok (sign_ways_ok ?_)
  exact parted_ok (ts := [lss y lo, atm hi y, lss y (0, 0), atm (LF K.ls num) y, atm (LF K.ls oth) y]) (by show 5 ≤ 1000; decide) (sg_len _ _ _).1 (sg_len _ _ _).2 (q h2 x2 (f1.trans f2) (e2.trans e1))
theorem sorted_ways_ok {n m : Nat} {h : AHeap} {o : Nat} {K : Kd} {num : Nat} {lo hi y z : Fm} {Q} (x : Ob h o K) (ho : LIn m K.ls) (hn : num < K.ls.length) (hc : K.cs.length + 1 ≤ 1000)
    (q : ∀ h1, Ob h1 o ((K.have num y).have num z) → Fr o 6 h h1 → h1.length = h.length → Q (.adr h1.length) (h1 ++ [.lst ((parted [lss y lo, lss z y, atm hi z, lss y (0, 0), atm (LF K.ls num) z] [[atm (K.val num y) ((K.have num y).val num z)]]).map wyv)])) : callN P (n+4) 208 [.adr o, prv (.srt num lo hi), fmv y, fmv z] h Q := by
  refine call_of U.f_sorted_ways rfl ?_
  show WpSs (ctxOf P (callN P (n+3))) b_sorted_ways _ [.val (.adr o), .val (prv (.srt num lo hi)), .val (fmv y), .val (fmv z), .no, .no, .no, .no, .no, .no] h
  have gd := gnd (P := P)
  push_cast [b_sorted_ways, prv, gd]
  refine Kq.less_ok ?_
  refine Kq.less_ok ?_
  refine Kq.at_most_ok ?_
  refine Kq.less_ok ?_
  push_cast [x.hd, n_len, Kq.me_len]
  refine Kq.length_ok x ho hn (Kq.at_most_ok ⟨by show 5 ≤ sizeLine; decide, ?_⟩)
  push_cast [x.hd, n_cell, Kq.me_cell]
  refine Kq.cell_ok x (by omega) fun h1 x1 f1 e1 => ?_
  have hl := have_ls (K := K) (num := num) (f := y)
  push_cast [x1.hd, n_cell, Kq.me_cell]
  refine Kq.cell_ok x1 (by omega) fun h2 x2 f2 e2 => ?_
  refine Kq.at_most_ok ⟨by show 1 ≤ sizeLine; decide, by show 1 ≤ sizeLine; decide, ?_⟩
  exact parted_ok (ts := [lss y lo, lss z y, atm hi z, lss y (0, 0), atm (LF K.ls num) z]) (ws := [[atm (K.val num y) ((K.have num y).val num z)]]) (by show 5 ≤ 1000; decide) (one_len _).1 (one_len _).2 (q h2 x2 (f1.trans f2) (e2.trans e1))
theorem below_ways_ok {n m : Nat} {h : AHeap} {o : Nat} {K : Kd} {num oth : Nat} {lo hi low high y z : Fm} {Q} (x : Ob h o K) (ho : LIn m K.ls) (hn : num < K.ls.length) (hn2 : oth < K.ls.length) (hc : K.cs.length + 1 ≤ 1000)
    (q : ∀ h1, Ob h1 o ((K.have num y).have oth z) → Fr o 6 h h1 → h1.length = h.length → Q (.adr h1.length) (h1 ++ [.lst ((parted [lss y lo, atm hi y, lss y (0, 0), atm (LF K.ls num) y, lss z low, atm high z, lss z (0, 0), atm (LF K.ls oth) z] [[atm (K.val num y) ((K.have num y).val oth z)]]).map wyv)])) : callN P (n+4) 209 [.adr o, prv (.blw num lo hi oth low high), fmv y, fmv z] h Q := by
  refine call_of U.f_below_ways rfl ?_
  show WpSs (ctxOf P (callN P (n+3))) b_below_ways _ [.val (.adr o), .val (prv (.blw num lo hi oth low high)), .val (fmv y), .val (fmv z), .no, .no, .no, .no, .no, .no, .no, .no, .no] h
  push_cast [b_below_ways, prv]
  refine Kq.less_ok (Kq.at_most_ok ⟨by show 2 ≤ sizeLine; decide, ?_⟩)
  push_cast [x.hd, n_len, Kq.me_len]
  refine Kq.length_ok x ho hn (outside_ok ?_)
  push_cast [viewW_lst]
  refine ⟨by show 4 ≤ sizeLine; decide, ?_⟩
  refine Kq.less_ok (Kq.at_most_ok ⟨by show 2 ≤ sizeLine; decide, ?_⟩)
  push_cast [viewW_lst]
  refine ⟨by show 6 ≤ sizeLine; decide, ?_⟩
  push_cast [x.hd, n_len, Kq.me_len]
  refine Kq.length_ok x ho hn2 (outside_ok ?_)
  push_cast [viewW_lst]
  refine ⟨by show 8 ≤ sizeLine; decide, ?_⟩
  push_cast [x.hd, n_cell, Kq.me_cell]
  refine Kq.cell_ok x (by omega) fun h1 x1 f1 e1 => ?_
  have hl := have_ls (K := K) (num := num) (f := y)
  push_cast [x1.hd, n_cell, Kq.me_cell]
  refine Kq.cell_ok x1 (by omega) fun h2 x2 f2 e2 => ?_
  refine Kq.at_most_ok ⟨by show 1 ≤ sizeLine; decide, by show 1 ≤ sizeLine; decide, ?_⟩
  exact parted_ok (ts := [lss y lo, atm hi y, lss y (0, 0), atm (LF K.ls num) y, lss z low, atm high z, lss z (0, 0), atm (LF K.ls oth) z]) (ws := [[atm (K.val num y) ((K.have num y).val oth z)]]) (by show 8 ≤ 1000; decide) (one_len _).1 (one_len _).2 (q h2 x2 (f1.trans f2) (e2.trans e1))
end
end Sp

set_option maxRecDepth 100000
set_option maxHeartbeats 4000000
namespace Sp
open PySem L2 VL Kv Kg Ws
local macro_rules
  | `(tactic| push_cast [$xs,*]) => `(tactic| try simp only [$xs,*, WpSs, WpS, WpE, WpEs, WpBs, WpO, WpN, WpI, WpC, WpT, getS, setS, tgK, setsS, wipeS, k_add, k_addT, k_sub, k_mul, k_fdiv, k_mod, k_neg, k_lt, k_le, k_gt, k_ge, k_eqI, k_neI, k_eqS, k_neS, k_eqB, k_neB, k_is, k_isn, k_isB, k_isnB, k_gIn, ctx_gdct, isNon_non, isNon_int, isNon_str, isNon_lst, isNon_tup, isNon_adr, k_lenS, k_lenL, k_lenR, k_lenT, k_int, k_str, k_abs, tru_bl, augK, ctx_call, ctx_glob, k_in, k_nin, k_inS, k_addS, k_intB, isi_non_int, isi_non_bool, isi_non_str, isi_non_list, isi_non_tuple, isi_bl_int, isi_bl_bool, isi_bl_str, isi_bl_list, isi_bl_tuple, isi_int_int, isi_int_bool, isi_int_str, isi_int_list, isi_int_tuple, isi_str_int, isi_str_bool, isi_str_str, isi_str_list, isi_str_tuple, isi_tup_int, isi_tup_bool, isi_tup_str, isi_tup_list, isi_tup_tuple, isi_lst_int, isi_lst_bool, isi_lst_str, isi_lst_list, isi_lst_tuple, isi_ro_int, isi_ro_bool, isi_ro_str, isi_ro_list, isi_ro_tuple, zs_lst, zs_tup])
open Kn (Ob Fr flds oH oH_ob l_m l_d l_l l_c l_t l_f n_new n_len n_cell p_m f_len k_eqF cells_set cells_put cells_lt cells_app viewT_app find_none_take find_none_all)
theorem kd_s : decide (kS .all = "either") = false ∧ decide (kS .mat = "either") = false ∧ decide (kS .srt = "either") = false ∧ decide (kS .blw = "either") = false ∧ decide (kS .mat = "all") = false ∧ decide (kS .srt = "all") = false ∧ decide (kS .blw = "all") = false ∧ decide (kS .srt = "match") = false ∧ decide (kS .blw = "match") = false ∧ decide (kS .blw = "sorted") = false ∧ decide (kS .eit = "either") = true ∧ decide (kS .all = "all") = true ∧ decide (kS .mat = "match") = true ∧ decide (kS .srt = "sorted") = true := by decide +kernel
theorem kd_q : decide (kS .eit = "pair") = false ∧ decide (kS .all = "pair") = false ∧ decide (kS .mat = "pair") = false ∧ decide (kS .srt = "pair") = false ∧ decide (kS .blw = "pair") = false ∧ decide (kS .eit = "write") = false ∧ decide (kS .all = "write") = false ∧ decide (kS .mat = "write") = false ∧ decide (kS .srt = "write") = false ∧ decide (kS .blw = "write") = false := by decide +kernel
theorem k_ix {h : AHeap} {idx : List Fm} {i : Nat} {Q : KA} (hi : i < idx.length) (q : Q (fmv (ix idx i))) : subK h (.lst (idx.map fmv)) (.int (i : Int)) Q :=
  k_subV (d := fmv (ix idx i)) viewT_lst (by rw [List.getElem?_map]; unfold ix; rw [List.getElem?_eq_getElem hi]; rfl) q
section
variable {P : Prg} [Kq.U P] [U P]
theorem split_none {n : Nat} {h : AHeap} {o : Nat} {K : Kd} {idx : List Fm} {k : Str} {ns : List Int} {Q} (x : Ob h o K) (ok : K.Ok) (e : spl K idx.length k ns = none) (q : Q .non h) : callN P (n+3) 212 [.adr o, .lst (idx.map fmv), spv k ns] h Q := by
  refine call_of U.f_split_ways rfl ?_
  show WpSs (ctxOf P (callN P (n+2))) b_split_ways _ [.val (.adr o), .val (.lst (idx.map fmv)), .val (spv k ns), .no, .no] h
  push_cast [b_split_ways]
  refine fits_ok x ok ?_
  unfold spl at e
  rw [e]
  push_cast [Option.isSome_none, tru_bl, Bool.not_false, if_true]
  exact q
theorem split_ok {n : Nat} {h : AHeap} {o : Nat} {K : Kd} {idx : List Fm} {d : Knd} {ns : List Int} {sp : Ws.Sp} {Q} (x : Ob h o K) (ok : K.Ok) (f : Ft K idx.length d ns sp)
    (q : ∀ h1, Ob h1 o (ways K idx sp).2 → Fr o 6 h h1 → h1.length = h.length → Q (.adr h1.length) (h1 ++ [.lst ((ways K idx sp).1.map wyv)])) : callN P (n+5) 212 [.adr o, .lst (idx.map fmv), spv (kS d) ns] h Q := by
  refine call_of U.f_split_ways rfl ?_
  show WpSs (ctxOf P (callN P (n+4))) b_split_ways _ [.val (.adr o), .val (.lst (idx.map fmv)), .val (spv (kS d) ns), .no, .no] h
  have hz : sizeLine = 16777216 := rfl
  push_cast [b_split_ways]
  refine fits_ok x ok ?_
  have es := spl_of f
  unfold spl at es
  rw [es]
  have cl := ok.cl
  have pin : ∀ {q : Nat} {p : Pr}, K.ps[q]? = some p → PIn K.m K.ls.length p := fun e => ok.p _ (List.mem_of_getElem? e)
  push_cast [Option.isSome_some, tru_bl, Bool.not_true, Bool.false_eq_true, if_false, b_split_ways_7, spv]
  refine k_tup (h := h) (j := 0) (d := .str (kS d)) rfl ?_
  cases f with
  | @pair a b h1 h2 h3 =>
    push_cast [kd_p, if_true]
    refine k_tup (h := h) (j := 1) (d := .int (a : Int)) rfl ?_
    refine k_tup (h := h) (j := 2) (d := .int (b : Int)) rfl ?_
    refine pair_ways_ok x (by omega) h2 ?_
    exact q h x .refl rfl
  | @write a b i v h1 h2 =>
    push_cast [kd_p, Bool.false_eq_true, if_false, if_true, b_split_ways_6]
    refine k_tup (h := h) (j := 1) (d := .int (a : Int)) rfl ?_
    exact write_ways_ok x h1 (by omega) h2 q
  | @eit qq ws hp =>
    have gp : (K.ps.map prv)[qq]? = some (prv (.eit ws)) := by rw [List.getElem?_map, hp]; rfl
    obtain ⟨_, p2, _⟩ := pin hp
    simp only [ways, hp] at q
    push_cast [kd_q, Bool.false_eq_true, if_false, b_split_ways_6, b_split_ways_5, x.hd, l_t, Kq.ft, true_and]
    refine k_tup (h := h) (j := 1) (d := .int (qq : Int)) rfl ?_
    refine k_subV (view_adr x.t) gp ?_
    push_cast [kd_s, if_true, prv]
    refine k_tup (h := h) (j := 1) (d := .tup (ws.map fun w => .tup (w.map td))) rfl ?_
    push_cast [viewT_tup]
    exact q h x .refl rfl
  | @all qq i num lo hi f s hp hi' =>
    have gp : (K.ps.map prv)[qq]? = some (prv (.all num lo hi s f)) := by rw [List.getElem?_map, hp]; rfl
    obtain ⟨p1, _⟩ := pin hp
    simp only [ways, hp] at q
    push_cast [kd_q, Bool.false_eq_true, if_false, b_split_ways_6, b_split_ways_5, x.hd, l_t, Kq.ft, true_and]
    refine k_tup (h := h) (j := 1) (d := .int (qq : Int)) rfl ?_
    refine k_subV (view_adr x.t) gp ?_
    push_cast [kd_s, Bool.false_eq_true, if_false, if_true, b_split_ways_4]
    refine k_tup (h := h) (j := 2) (d := .int (i : Int)) rfl (k_ix hi' ?_)
    exact all_ways_ok x ok.l p1 (by omega) q
  | @mat qq i num oth lo hi s p hp hi' =>
    have gp : (K.ps.map prv)[qq]? = some (prv (.mat num lo hi s oth p)) := by rw [List.getElem?_map, hp]; rfl
    obtain ⟨p1, _, _, p4, _⟩ := pin hp
    simp only [ways, hp] at q
    push_cast [kd_q, Bool.false_eq_true, if_false, b_split_ways_6, b_split_ways_5, x.hd, l_t, Kq.ft, true_and]
    refine k_tup (h := h) (j := 1) (d := .int (qq : Int)) rfl ?_
    refine k_subV (view_adr x.t) gp ?_
    push_cast [kd_s, Bool.false_eq_true, if_false, if_true, b_split_ways_4, b_split_ways_3]
    refine k_tup (h := h) (j := 2) (d := .int (i : Int)) rfl (k_ix hi' ?_)
    exact match_ways_ok x ok.l p1 p4 (by omega) q
  | @srt qq i j num lo hi hp hi' hj' =>
    have gp : (K.ps.map prv)[qq]? = some (prv (.srt num lo hi)) := by rw [List.getElem?_map, hp]; rfl
    obtain ⟨p1, _⟩ := pin hp
    simp only [ways, hp] at q
    push_cast [kd_q, Bool.false_eq_true, if_false, b_split_ways_6, b_split_ways_5, x.hd, l_t, Kq.ft, true_and]
    refine k_tup (h := h) (j := 1) (d := .int (qq : Int)) rfl ?_
    refine k_subV (view_adr x.t) gp ?_
    push_cast [kd_s, Bool.false_eq_true, if_false, if_true, b_split_ways_4, b_split_ways_3, b_split_ways_2]
    refine k_tup (h := h) (j := 2) (d := .int (i : Int)) rfl (k_ix hi' ?_)
    refine k_tup (h := h) (j := 3) (d := .int (j : Int)) rfl (k_ix hj' ?_)
    exact sorted_ways_ok x ok.l p1 (by omega) q
  | @blw qq i j num oth lo hi low high hp hi' hj' =>
    have gp : (K.ps.map prv)[qq]? = some (prv (.blw num lo hi oth low high)) := by rw [List.getElem?_map, hp]; rfl
    obtain ⟨p1, _, _, p4, _⟩ := pin hp
    simp only [ways, hp] at q
    push_cast [kd_q, Bool.false_eq_true, if_false, b_split_ways_6, b_split_ways_5, x.hd, l_t, Kq.ft, true_and]
    refine k_tup (h := h) (j := 1) (d := .int (qq : Int)) rfl ?_
    refine k_subV (view_adr x.t) gp ?_
    push_cast [kd_s, Bool.false_eq_true, if_false, b_split_ways_4, b_split_ways_3, b_split_ways_2, b_split_ways_1]
    refine k_tup (h := h) (j := 2) (d := .int (i : Int)) rfl (k_ix hi' ?_)
    refine k_tup (h := h) (j := 3) (d := .int (j : Int)) rfl (k_ix hj' ?_)
    exact below_ways_ok x ok.l p1 p4 (by omega) q
end
end Sp

set_option maxRecDepth 100000
set_option maxHeartbeats 4000000
namespace K17
open PySem L2 VL Kv Kg Kj Ws
local macro_rules
  | `(tactic| push_cast [$xs,*]) => `(tactic| try simp only [$xs,*, WpSs, WpS, WpE, WpEs, WpBs, WpO, WpN, WpI, WpC, WpT, getS, setS, tgK, setsS, wipeS, k_add, k_addT, k_sub, k_mul, k_fdiv, k_mod, k_neg, k_lt, k_le, k_gt, k_ge, k_eqI, k_neI, k_eqS, k_neS, k_eqB, k_neB, k_is, k_isn, k_isB, k_isnB, k_gIn, ctx_gdct, isNon_non, isNon_int, isNon_str, isNon_lst, isNon_tup, isNon_adr, k_lenS, k_lenL, k_lenR, k_lenT, k_int, k_str, k_abs, tru_bl, augK, ctx_call, ctx_glob, k_in, k_nin, k_inS, k_addS, k_intB, isi_non_int, isi_non_bool, isi_non_str, isi_non_list, isi_non_tuple, isi_bl_int, isi_bl_bool, isi_bl_str, isi_bl_list, isi_bl_tuple, isi_int_int, isi_int_bool, isi_int_str, isi_int_list, isi_int_tuple, isi_str_int, isi_str_bool, isi_str_str, isi_str_list, isi_str_tuple, isi_tup_int, isi_tup_bool, isi_tup_str, isi_tup_list, isi_tup_tuple, isi_lst_int, isi_lst_bool, isi_lst_str, isi_lst_list, isi_lst_tuple, isi_ro_int, isi_ro_bool, isi_ro_str, isi_ro_list, isi_ro_tuple, zs_lst, zs_tup])
open Kn (Ob Fr flds oH oH_ob l_m l_d l_l l_c l_t l_f)
theorem k_neF {h : AHeap} {f g : Fm} {Q : KA} (q : Q (.bl (!decide (f = g)))) : cmpK h .NotEq (fmv f) (fmv g) Q := by
  show eqGen h true (fmv f) (fmv g) Q
  have e : ∀ f : Fm, pdH h (fmv f) = some (.tuple [.int (f.1 : Int), .int f.2]) := fun f => by
    simp only [fmv, pdH, pdHs, Option.bind_some, Option.map_some]
  unfold eqGen
  rw [e, e]
  refine ⟨rfl, rfl, ?_⟩
  have : PyData.eqv (.tuple [.int (f.1 : Int), .int f.2]) (.tuple [.int (g.1 : Int), .int g.2]) = decide (f = g) := by
    show (((f.1 : Int) == (g.1 : Int)) && ((f.2 == g.2) && true)) = decide (f = g)
    rw [Bool.eq_iff_iff]
    simp only [Bool.and_true, Bool.and_eq_true, beq_iff_eq, decide_eq_true_eq, Prod.ext_iff]
    omega
  simp only [this, if_true]
  exact q
abbrev SpI := Knd × List Int
def siv (s : SpI) : AV := spv (kS s.1) s.2
def SOk (K : Kd) (many : Nat) (ss : List SpI) : Prop := ∀ s ∈ ss, ∃ sp, Ft K many s.1 s.2 sp
theorem si_one (ss : List SpI) (s : SpI) : ss.map siv ++ [siv s] = (ss ++ [s]).map siv := by rw [List.map_append]; rfl
theorem SOk.one {K : Kd} {many : Nat} {ss : List SpI} {s : SpI} (a : SOk K many ss) (b : ∃ sp, Ft K many s.1 s.2 sp) : SOk K many (ss ++ [s]) := fun x hx => by
  rcases List.mem_append.mp hx with hx | hx
  · exact a x hx
  · rw [List.mem_singleton.mp hx]; exact b
theorem kd_a : ∀ d : Knd, d ≠ .pair → d ≠ .write → d ≠ .eit → decide (kS d = "either") = false := fun d h1 h2 h3 => by
  cases d <;> first | exact absurd rfl h1 | exact absurd rfl h2 | exact absurd rfl h3 | decide +kernel
section
variable {P : Prg} [Kq.U P] [Sp.U P] [Kg.U P] [Kk.U P] [Kx.U P] [U P]
theorem of_okV {n : Nat} {vs : List Int} {f : Fm} {h : AHeap} {x : AV} {Q} (hv : viewT h x = some (il vs)) (hf : f.1 ≤ vs.length) (q : Q (.int (fv vs f)) h) : callN P (n+1) 170 [fmv f, x] h Q := by
  refine call_of Kg.U.f__law_of rfl ?_
  show WpSs (ctxOf P (callN P n)) Kg.b_law_of _ [.val (fmv f), .val x] h
  unfold fv at q
  push_cast [Kg.b_law_of]
  refine k_fm0 ?_
  by_cases c : f.1 = 0
  · have c' : decide ((f.1 : Int) = 0) = true := decide_eq_true (by omega)
    rw [if_pos c] at q
    push_cast [c', if_true]
    exact k_fm1 q
  · have c' : decide ((f.1 : Int) = 0) = false := decide_eq_false (by omega)
    rw [if_neg c] at q
    have e1 : (f.1 : Int) - 1 = ((f.1 - 1 : Nat) : Int) := by omega
    have hl : f.1 - 1 < vs.length := by omega
    rw [List.getElem?_eq_getElem hl] at q
    push_cast [c', Bool.false_eq_true, if_false, Kg.b_law_of_1]
    refine k_fm0 ?_
    push_cast [e1]
    refine k_subI hv hl ?_
    exact k_fm1 q
theorem kept_ok {n : Nat} {vs : List Int} {wy : Way} {h : AHeap} {x : AV} {Q} (hv : viewT h x = some (il vs)) (hw : ∀ t ∈ wy, t.1 ≤ vs.length ∧ t.2.1 ≤ vs.length) (hl : wy.length ≤ 1000) (q : Q (.bl (kept vs wy)) h) : callN P (n+2) 228 [wyv wy, x] h Q := by
  refine call_of U.f__law_kept rfl ?_
  show WpSs (ctxOf P (callN P (n+1))) b_law_kept _ [.val (wyv wy), .val x, .no, .no, .no] h
  have hz : sizeLine = 16777216 := rfl
  push_cast [b_law_kept, wyv, viewT_tup]
  refine ⟨by rw [List.length_map]; omega, ?_⟩
  refine comp_list (g := td) (f := fun t : Td => .bl (keepB vs t)) (chk := fun _ => True) trivial (fun t ht R r => ?_) ?_
  · have := hw t ht
    push_cast [td, if_true]
    refine ⟨by show 2 ≤ sizeLine; decide, ?_⟩
    refine of_okV (f := (t.1, 0)) hv this.1 ?_
    refine ⟨by show 2 ≤ sizeLine; decide, ?_⟩
    refine of_okV (f := (t.2.1, 0)) hv this.2 ?_
    push_cast [WpSs]
    exact r
  · have e : wy.map (fun t => AV.bl (keepB vs t)) = (wy.map (keepB vs)).map AV.bl := by rw [List.map_map]; rfl
    rw [e]
    refine k_all ?_
    rw [all_map]
    exact q
theorem splits_ok {n : Nat} {h : AHeap} {p a : Nat} {K : Kd} {idx : List Fm} {ds : List Int} {Q} (x : Lk h p a K) (ok : K.Ok) (hd : ds.length = 18) (hi : 0 < idx.length) (hi2 : idx.length ≤ 500) (q : ∀ ss : List SpI, ss.length ≤ 100000 → SOk K idx.length ss → Q (.lst (ss.map siv)) h) : callN P (n+1) 227 [.adr a, .lst (idx.map fmv), .lst (il ds)] h Q := by
  refine call_of U.f__law_splits rfl ?_
  show WpSs (ctxOf P (callN P n)) b_law_splits _ [.val (.adr a), .val (.lst (idx.map fmv)), .val (.lst (il ds)), .no, .no, .no, .no, .no, .no] h
  have hz : sizeLine = 16777216 := rfl
  have cl := ok.cl; have pl := ok.pl
  have len1 : ∀ (ss : List SpI) (s : SpI), (ss ++ [s]).length = ss.length + 1 := fun ss s => by rw [List.length_append, List.length_singleton]
  push_cast [b_law_splits]
  refine ⟨by show 0 ≤ sizeLine; decide, ?_⟩
  refine k3 x fun C hC => k_lenV (vt hC) ?_
  push_cast [List.length_map, Int.toNat_natCast]
  refine ⟨⟨by omega, by omega⟩, ?_⟩
  refine for_inv (fun i ρ h' => h' = h ∧ ∃ (ss : List SpI) (s4 s5 : Slot), ss.length ≤ 102 * i ∧ SOk K idx.length ss ∧ ρ = [.val (.adr a), .val (.lst (idx.map fmv)), .val (.lst (il ds)), .own (.lst (ss.map siv)), s4, s5, .no, .no, .no]) ⟨rfl, [], _, _, Nat.zero_le _, nofun, rfl⟩ (fun _ _ _ _ _ => by trivial) ?_ ?_
  · rintro i z _ h D' hx ⟨rfl, ss, s4, s5, hl, hs, rfl⟩ kn kc kr kb
    obtain ⟨hi', rfl⟩ := items_range hx
    have ei := List.getElem?_eq_getElem hi'
    have hb := (ok.c _ (List.getElem_mem hi')).1
    have el := List.getElem?_eq_getElem hb
    have ec : cyc K i = K.cs[i] := by unfold cyc; rw [ei]; rfl
    have inner : ∀ ss s5, ss.length ≤ 102 * i + 1 → SOk K idx.length ss → WpSs (ctxOf P (callN P n)) b_law_splits_2 D' [.val (.adr a), .val (.lst (idx.map fmv)), .val (.lst (il ds)), .own (.lst (ss.map siv)), .val (.int (i : Int)), s5, .no, .no, .no] h := by
      intro ss s5 hl hs
      have b1 : (i : Int) + 1 = ((i + 1 : Nat) : Int) := by omega
      push_cast [b_law_splits_2, b1]
      refine k3 x fun C hC => k_lenV (vt hC) ?_
      have b2 : ((K.cs.length : Int) - ((i + 1 : Nat) : Int)).toNat = K.cs.length - (i + 1) := by omega
      push_cast [List.length_map, b2]
      refine ⟨by omega, ?_⟩
      refine for_inv (fun j ρ h' => h' = h ∧ ∃ (ss : List SpI) (s5 : Slot), ss.length ≤ 102 * i + 1 + j ∧ SOk K idx.length ss ∧ ρ = [.val (.adr a), .val (.lst (idx.map fmv)), .val (.lst (il ds)), .own (.lst (ss.map siv)), .val (.int (i : Int)), s5, .no, .no, .no]) ⟨rfl, ss, _, by omega, hs, rfl⟩ (fun _ _ _ _ _ => by trivial) ?_ ?_
      · rintro j z _ h D2 hx2 ⟨rfl, ss, s5, hl, hs, rfl⟩ kn2 kc2 kr2 kb2
        obtain ⟨hj, rfl⟩ := items_range hx2
        have b3 : ((i + 1 : Nat) : Int) + (j : Int) = ((i + 1 + j : Nat) : Int) := by omega
        have ej := List.getElem?_eq_getElem (show i + 1 + j < K.cs.length by omega)
        have ec2 : cyc K (i + 1 + j) = K.cs[i + 1 + j] := by unfold cyc; rw [ej]; rfl
        push_cast [b_law_splits_1, b3]
        refine k3 x fun C hC => ?_
        refine k_subV (d := cev K.cs[i]) (vt hC) (by rw [List.getElem?_map, ei]; rfl) ?_
        refine k_tup (h := h) (j := 0) (d := .int (K.cs[i].1 : Int)) (xs := [.int (K.cs[i].1 : Int), fmv K.cs[i].2.1, fmv K.cs[i].2.2]) rfl ?_
        refine k3 x fun C hC => ?_
        refine k_subV (d := cev K.cs[i + 1 + j]) (vt hC) (by rw [List.getElem?_map, ej]; rfl) ?_
        refine k_tup (h := h) (j := 0) (d := .int (K.cs[i + 1 + j].1 : Int)) (xs := [.int (K.cs[i + 1 + j].1 : Int), fmv K.cs[i + 1 + j].2.1, fmv K.cs[i + 1 + j].2.2]) rfl ?_
        push_cast [WpSs]
        by_cases c : (K.cs[i].1 : Int) = (K.cs[i + 1 + j].1 : Int)
        · have e : AV.tup [.str "pair", .int (i : Int), .int ((i + 1 + j : Nat) : Int)] = siv (.pair, [(i : Int), ((i + 1 + j : Nat) : Int)]) := rfl
          push_cast [decide_eq_true c, if_true, e, si_one]
          refine ⟨by show 3 ≤ sizeLine; decide, by rw [List.length_map]; omega, ?_⟩
          exact kn2 _ _ ⟨rfl, _, _, by rw [len1]; omega, hs.one ⟨_, Ft.pair (a := i) (b := i + 1 + j) (by omega) (by omega) (by rw [ec, ec2]; omega)⟩, rfl⟩
        · push_cast [decide_eq_false c, Bool.false_eq_true, if_false]
          exact kn2 _ _ ⟨rfl, _, _, by omega, hs, rfl⟩
      · rintro _ h ⟨rfl, ss, s5, hl, hs, rfl⟩
        rw [List.length_map, List.length_range] at hl
        exact kn _ _ ⟨rfl, _, _, _, by omega, hs, rfl⟩
    push_cast [b_law_splits_3]
    refine k2 x fun L hL => ?_
    refine k3 x fun C hC => ?_
    refine k_subV (d := cev K.cs[i]) (vt hC) (by rw [List.getElem?_map, ei]; rfl) ?_
    refine k_tup (h := h) (j := 0) (d := .int (K.cs[i].1 : Int)) (xs := [.int (K.cs[i].1 : Int), fmv K.cs[i].2.1, fmv K.cs[i].2.2]) rfl ?_
    refine k_subV (d := lsv K.ls[K.cs[i].1]) (vt hL) (by rw [List.getElem?_map, el]; rfl) ?_
    cases w : K.ls[K.cs[i].1] with
    | wr b f v =>
      refine k_tup (h := h) (j := 0) (d := .str "written") (xs := [.str "written", .int (b : Int), fmv f, fmv v]) rfl ?_
      have e : AV.tup [.str "write", .int (i : Int)] = siv (.write, [(i : Int)]) := rfl
      push_cast [decide_true, if_true, e, si_one]
      refine ⟨by show 2 ≤ sizeLine; decide, by rw [List.length_map]; omega, ?_⟩
      exact inner _ _ (by rw [len1]; omega) (hs.one ⟨_, Ft.write (b := b) (i := f) (v := v) hi' (by rw [ec, el, w])⟩)
    | nw f =>
      refine k_tup (h := h) (j := 0) (d := .str "new") (xs := [.str "new", fmv f]) rfl ?_
      push_cast [wn.2.1, Bool.false_eq_true, if_false]
      exact inner _ _ (by omega) hs
  · rintro _ h ⟨rfl, ss, s4, s5, hl, hs, rfl⟩
    rw [List.length_map, List.length_range] at hl
    push_cast [b_law_splits_7]
    refine k4 x fun T hT => k_lenV (vt hT) ?_
    push_cast [List.length_map, Int.toNat_natCast]
    refine ⟨⟨by omega, by omega⟩, ?_⟩
    refine for_inv (fun i ρ h' => h' = h ∧ ∃ (ss : List SpI) (s6 s7 s8 : Slot), ss.length ≤ 11000 + 1001 * i ∧ SOk K idx.length ss ∧ ρ = [.val (.adr a), .val (.lst (idx.map fmv)), .val (.lst (il ds)), .own (.lst (ss.map siv)), s4, s5, s6, s7, s8]) ⟨rfl, ss, _, _, _, by omega, hs, rfl⟩ (fun _ _ _ _ _ => by trivial) ?_ ?_
    · rintro i z _ h D' hx ⟨rfl, ss, s6, s7, s8, hl, hs, rfl⟩ kn kc kr kb
      obtain ⟨hi', rfl⟩ := items_range hx
      have ei := List.getElem?_eq_getElem hi'
      have body : ∀ (d : Knd) (xs : List AV), prv K.ps[i] = .tup (.str (kS d) :: xs) → d ≠ .pair → d ≠ .write → (d = .eit → ∃ sp, Ft K idx.length .eit [(i : Int)] sp) → (d = .all ∨ d = .mat → ∀ s, s < idx.length → ∃ sp, Ft K idx.length d [(i : Int), (s : Int)] sp) → (d = .srt ∨ d = .blw → ∀ s t : Nat, s < idx.length → t < idx.length → ∃ sp, Ft K idx.length d [(i : Int), (s : Int), (t : Int)] sp) → WpSs (ctxOf P (callN P n)) b_law_splits_5 D' [.val (.adr a), .val (.lst (idx.map fmv)), .val (.lst (il ds)), .own (.lst (ss.map siv)), s4, s5, .val (.int (i : Int)), s7, s8] h := by
        intro d xs ex n1 n2 fe fa fs
        push_cast [b_law_splits_5]
        refine k4 x fun T hT => ?_
        refine k_subV (d := prv K.ps[i]) (vt hT) (by rw [List.getElem?_map, ei]; rfl) ?_
        rw [ex]
        refine k_tup (h := h) (j := 0) (d := .str (kS d)) rfl ?_
        push_cast [WpSs]
        by_cases c1 : d = .eit
        · subst c1
          have e : AV.tup [.str (kS .eit), .int (i : Int)] = siv (.eit, [(i : Int)]) := rfl
          push_cast [Sp.kd_s, if_true, e, si_one]
          exact ⟨by show 2 ≤ sizeLine; decide, by rw [List.length_map]; omega, kn _ _ ⟨rfl, _, _, _, _, by rw [len1]; omega, hs.one (fe rfl), rfl⟩⟩
        have k1 := kd_a d n1 n2 c1
        by_cases c2 : d = .all ∨ d = .mat
        · have go : ((-(2 ^ 62) : Int) ≤ (idx.length : Int) ∧ (idx.length : Int) < 2 ^ 62) ∧ ((List.range idx.length).map fun (k : Nat) => AV.int (k : Int)).length ≤ sizeLine ∧ compL (fun x h2 R => if True then [AV.str (kS d), .int (i : Int), x].length ≤ sizeLine ∧ R (some (.tup [.str (kS d), .int (i : Int), x])) h2 else R none h2) (fun _ => True) ((List.range idx.length).map fun (k : Nat) => AV.int (k : Int)) [] h (fun acc h2 => match viewW h2 (.lst (ss.map siv)), viewW h2 (.lst acc) with
              | some xs, some ys => xs.length + ys.length ≤ sizeLine ∧ D'.nx [.val (.adr a), .val (.lst (idx.map fmv)), .val (.lst (il ds)), .own (.lst (xs ++ ys)), s4, s5, .val (.int (i : Int)), .val (.str (kS d)), s8] h2
              | _, _ => False) := by
            refine ⟨⟨by omega, by omega⟩, by rw [List.length_map, List.length_range]; omega, ?_⟩
            refine comp_list (g := fun (k : Nat) => AV.int (k : Int)) (f := fun (k : Nat) => siv (d, [(i : Int), (k : Int)])) trivial (fun s hs R r => ?_) ?_
            · simp only [if_true]
              exact ⟨by show 3 ≤ sizeLine; decide, r⟩
            · have e : ss.map siv ++ (List.range idx.length).map (fun (k : Nat) => siv (d, [(i : Int), (k : Int)])) = (ss ++ (List.range idx.length).map fun (k : Nat) => ((d, [(i : Int), (k : Int)]) : SpI)).map siv := by rw [List.map_append, List.map_map]; rfl
              simp only [viewW_lst, e]
              refine ⟨by rw [List.length_map, List.length_map, List.length_range]; omega, kn _ _ ⟨rfl, _, _, _, _, by rw [List.length_append, List.length_map, List.length_range]; omega, fun y hy => ?_, rfl⟩⟩
              rcases List.mem_append.mp hy with hy | hy
              · exact hs y hy
              · obtain ⟨s, h1, rfl⟩ := List.mem_map.mp hy
                exact fa c2 s (List.mem_range.mp h1)
          rcases c2 with rfl | rfl
          · push_cast [k1, Bool.false_eq_true, if_false, Sp.kd_s, if_true, List.length_map, Int.toNat_natCast]
            simp only [List.length_map] at go
            exact go
          · push_cast [k1, Bool.false_eq_true, if_false, Sp.kd_s, if_true, List.length_map, Int.toNat_natCast]
            simp only [List.length_map] at go
            exact go
        · have c3 : d = .srt ∨ d = .blw := by cases d <;> simp_all
          have k2 : decide (kS d = "all") = false ∧ decide (kS d = "match") = false := by rcases c3 with rfl | rfl <;> simp only [Sp.kd_s, and_self]
          push_cast [k1, k2, Bool.false_eq_true, if_false, List.length_map, Int.toNat_natCast]
          refine ⟨⟨by omega, by omega⟩, ?_⟩
          refine for_inv (fun j ρ h' => h' = h ∧ ∃ (ss : List SpI) (s8 : Slot), ss.length ≤ 11000 + 1001 * i + 2 * j ∧ SOk K idx.length ss ∧ ρ = [.val (.adr a), .val (.lst (idx.map fmv)), .val (.lst (il ds)), .own (.lst (ss.map siv)), s4, s5, .val (.int (i : Int)), .val (.str (kS d)), s8]) ⟨rfl, ss, _, by omega, hs, rfl⟩ (fun _ _ _ _ _ => by trivial) ?_ ?_
          · rintro j z _ h D2 hx2 ⟨rfl, ss, s8, hl, hs, rfl⟩ kn2 kc2 kr2 kb2
            obtain ⟨hj, rfl⟩ := items_range hx2
            have b8 : (i : Int) + 8 = ((i + 8 : Nat) : Int) := by omega
            push_cast [b_law_splits_4, b8]
            refine k_subIl (h := h) (by omega) ?_
            push_cast [List.length_map]
            refine ⟨mulA_l (by decide) (by decide), by omega, by show 4 ≤ sizeLine; decide, by omega, ?_⟩
            refine k_subIl (h := h) (by omega) ?_
            push_cast [List.length_map]
            obtain ⟨u, hu, hu2⟩ := modI (x := ds[i] + 7 * (j : Int)) (m := idx.length) hi
            obtain ⟨v, hv, hv2⟩ := modI (x := ds[i + 8] + 5 * (j : Int)) (m := idx.length) hi
            rw [hu, hv]
            have e1 : AV.tup [.str (kS d), .int (i : Int), .int (j : Int), .int (u : Int)] = siv (d, [(i : Int), (j : Int), (u : Int)]) := rfl
            have e2 : AV.tup [.str (kS d), .int (i : Int), .int (v : Int), .int (j : Int)] = siv (d, [(i : Int), (v : Int), (j : Int)]) := rfl
            rw [e1, e2, si_one, si_one]
            refine ⟨mulA_l (by decide) (by decide), by omega, by show 4 ≤ sizeLine; decide, by first | omega | (rw [List.length_map, len1]; omega) | (rw [List.length_append]; simp only [List.length_map, List.length_singleton]; omega), ?_⟩
            exact kn2 _ _ ⟨rfl, _, _, by rw [len1, len1]; omega, (hs.one (fs c3 j u hj hu2)).one (fs c3 v j hv2 hj), rfl⟩
          · rintro _ h ⟨rfl, ss, s8, hl, hs, rfl⟩
            rw [List.length_map, List.length_range] at hl
            exact kn _ _ ⟨rfl, _, _, _, _, by omega, hs, rfl⟩
      push_cast [WpSs]
      cases w : K.ps[i] with
      | eit ws => exact body .eit _ (by rw [w]; rfl) nofun nofun (fun _ => ⟨_, Ft.eit (ei.trans (by rw [w]))⟩) (fun h => by simp at h) (fun h => by simp at h)
      | all a1 a2 a3 a4 a5 => exact body .all _ (by rw [w]; rfl) nofun nofun nofun (fun _ s hs => ⟨_, Ft.all (ei.trans (by rw [w])) hs⟩) (fun h => by simp at h)
      | mat a1 a2 a3 a4 a5 a6 => exact body .mat _ (by rw [w]; rfl) nofun nofun nofun (fun _ s hs => ⟨_, Ft.mat (ei.trans (by rw [w])) hs⟩) (fun h => by simp at h)
      | srt a1 a2 a3 => exact body .srt _ (by rw [w]; rfl) nofun nofun nofun (fun h => by simp at h) (fun _ s t hs ht => ⟨_, Ft.srt (ei.trans (by rw [w])) hs ht⟩)
      | blw a1 a2 a3 a4 a5 a6 => exact body .blw _ (by rw [w]; rfl) nofun nofun nofun (fun h => by simp at h) (fun _ s t hs ht => ⟨_, Ft.blw (ei.trans (by rw [w])) hs ht⟩)
    · rintro _ h ⟨rfl, ss, s6, s7, s8, hl, hs, rfl⟩
      rw [List.length_map, List.length_range] at hl
      push_cast [b_law_splits_6]
      exact q ss (by omega) hs
end
end K17

set_option maxRecDepth 100000
set_option maxHeartbeats 4000000
namespace K17
open PySem L2 VL Kv Kg Kj Ws
local macro_rules
  | `(tactic| push_cast [$xs,*]) => `(tactic| try simp only [$xs,*, WpSs, WpS, WpE, WpEs, WpBs, WpO, WpN, WpI, WpC, WpT, getS, setS, tgK, setsS, wipeS, k_add, k_addT, k_sub, k_mul, k_fdiv, k_mod, k_neg, k_lt, k_le, k_gt, k_ge, k_eqI, k_neI, k_eqS, k_neS, k_eqB, k_neB, k_is, k_isn, k_isB, k_isnB, k_gIn, ctx_gdct, isNon_non, isNon_int, isNon_str, isNon_lst, isNon_tup, isNon_adr, k_lenS, k_lenL, k_lenR, k_lenT, k_int, k_str, k_abs, tru_bl, augK, ctx_call, ctx_glob, k_in, k_nin, k_inS, k_addS, k_intB, isi_non_int, isi_non_bool, isi_non_str, isi_non_list, isi_non_tuple, isi_bl_int, isi_bl_bool, isi_bl_str, isi_bl_list, isi_bl_tuple, isi_int_int, isi_int_bool, isi_int_str, isi_int_list, isi_int_tuple, isi_str_int, isi_str_bool, isi_str_str, isi_str_list, isi_str_tuple, isi_tup_int, isi_tup_bool, isi_tup_str, isi_tup_list, isi_tup_tuple, isi_lst_int, isi_lst_bool, isi_lst_str, isi_lst_list, isi_lst_tuple, isi_ro_int, isi_ro_bool, isi_ro_str, isi_ro_list, isi_ro_tuple, zs_lst, zs_tup])
open Kn (Ob Fr flds oH oH_ob l_m l_d l_l l_c l_t l_f cells_app cells_set cells_put cells_lt)
section
variable {P : Prg} [Kq.U P] [Sp.U P] [Kg.U P] [Kk.U P] [Kx.U P] [U P]
theorem made_ok {n : Nat} {h : AHeap} {p a : Nat} {K : Kd} {A B : AV} {Q} (y : Lk h p a K) (q : Q (.adr h.length) (h ++ oH h.length K)) : callN P (n+2) 222 [.tup [.adr a, A, B], .lst (K.fr.map fmv)] h Q := by
  refine call_of U.f__law_made rfl ?_
  show WpSs (ctxOf P (callN P (n+1))) b_law_made _ [.val (.tup [.adr a, A, B]), .val (.lst (K.fr.map fmv)), .no] h
  push_cast [b_law_made]
  refine k_tup (h := h) (j := 0) (d := .adr a) rfl ?_
  refine k0 y (k1 y fun D hD => ?_)
  push_cast [vt hD]
  refine k2 y fun L hL => ?_
  push_cast [vt hL]
  refine k3 y fun C hC => ?_
  push_cast [vt hC]
  refine k4 y fun T hT => ?_
  push_cast [vt hT, viewT_lst]
  simp only [Kq.ini]
  exact Kq.init_ok (K := K) rfl rfl rfl rfl rfl q
/-- a cell that came: its value is told -/
theorem law_1_ok {n : Nat} {h : AHeap} {w : Wd} {V : Nat} {vs : List Int} {c : Ce} {D : Kt} {s0 s2 s3 s5 s6 s7 s8 s9 s10 s11 s12 s13 s17 s18 s19 : Slot} (wo : w.Ok) (sw : WdS h 3 w.ls) (hV : cells h V = .lst (il vs)) (hx : ∃ ex, vs = w.vs ++ ex) (hl : vs.length ≤ 1000) (h1 : c.1 < w.ls.length) (h2 : c.2.1.1 ≤ w.vs.length) (h3 : c.2.2 = (vs.length + 1, 0))
    (q : D.nx [s0, .val (wdv 3 w), s2, s3, .val (.adr V), s5, s6, s7, s8, s9, s10, s11, s12, s13, .val (.int (c.1 : Int)), .val (fmv c.2.1), .val (fmv c.2.2), s17, s18, s19] (h.set V (.lst (il (vs ++ [w.t c.1 (fv w.vs c.2.1)]))))) :
    WpSs (ctxOf P (callN P (n+7))) b_law_1 D [s0, .val (wdv 3 w), s2, s3, .val (.adr V), s5, s6, s7, s8, s9, s10, s11, s12, s13, .val (.int (c.1 : Int)), .val (fmv c.2.1), .val (fmv c.2.2), s17, s18, s19] h := by
  have hz : sizeLine = 16777216 := rfl
  obtain ⟨ex, hx⟩ := hx
  have lv : w.vs.length ≤ vs.length := by rw [hx, List.length_append]; omega
  have lV := cells_lt hV (fun z => by cases z)
  have ef : fv vs c.2.1 = fv w.vs c.2.1 := by rw [hx]; exact fv_ext h2
  push_cast [b_law_1, hV]
  refine of_okV (view_adr hV) (by omega) ?_
  rw [ef]
  refine there_ok sw wo h1 ?_
  push_cast [hV, appC, int_one]
  refine ⟨by rw [List.length_map]; omega, ?_⟩
  have hV2 : cells (h.set V (.lst (il (vs ++ [w.t c.1 (fv w.vs c.2.1)])))) V = .lst (il (vs ++ [w.t c.1 (fv w.vs c.2.1)])) := cells_set lV
  refine k_lenV (view_adr hV2) ?_
  refine ⟨by show 2 ≤ sizeLine; decide, ?_⟩
  have e1 : AV.tup [.int ((il (vs ++ [w.t c.1 (fv w.vs c.2.1)])).length : Int), .int 0] = fmv (vs.length + 1, 0) := by
    rw [List.length_map, List.length_append]; rfl
  rw [e1]
  refine k_neF ?_
  rw [decide_eq_true h3]
  push_cast [Bool.not_true, Bool.false_eq_true, if_false]
  exact q
theorem law_2_ok {n : Nat} {h : AHeap} {V r : Nat} {vs : List Int} {ws : List Way} {d : Knd} {ns : List Int} {D : Kt} {s0 s1 s2 s3 s5 s6 s7 s8 s9 s10 s12 s14 s15 s16 s17 s18 s19 : Slot} (hV : cells h V = .lst (il vs)) (hr : cells h r = .lst (ws.map wyv)) (hw : ∀ wy ∈ ws, wy.length ≤ 1000 ∧ ∀ t ∈ wy, t.1 ≤ vs.length ∧ t.2.1 ≤ vs.length) (hwl : ws.length ≤ 1000) (c1 : 1 ≤ cnt vs ws) (c2 : d ≠ .eit → cnt vs ws = 1)
    (q : ∀ s17 s18 s19, D.nx [s0, s1, s2, s3, .val (.adr V), s5, s6, s7, s8, s9, s10, .val (spv (kS d) ns), s12, .val (.adr r), s14, s15, s16, s17, s18, s19] h) :
    WpSs (ctxOf P (callN P (n+7))) b_law_2 D [s0, s1, s2, s3, .val (.adr V), s5, s6, s7, s8, s9, s10, .val (spv (kS d) ns), s12, .val (.adr r), s14, s15, s16, s17, s18, s19] h := by
  have hz : sizeLine = 16777216 := rfl
  have vr := view_adr hr
  push_cast [b_law_2, vr]
  refine ⟨by rw [List.length_map]; omega, ?_⟩
  refine comp_inv (fun i acc h' => h' = h ∧ acc = ((ws.take i).filter (kept vs)).map wyv) ⟨rfl, rfl⟩ (fun _ _ _ _ z => by rw [z.1]; exact vr) ?_ ?_
  · rintro i z acc h R hx ⟨rfl, rfl⟩ kk1 kk2
    obtain ⟨wy, hy, rfl⟩ := items_map hx
    have hm := hw wy (List.mem_of_getElem? hy)
    push_cast [WpSs]
    refine kept_ok (view_adr hV) hm.2 hm.1 ?_
    have e : (ws.take (i + 1)).filter (kept vs) = (ws.take i).filter (kept vs) ++ (if kept vs wy then [wy] else []) := by
      rw [List.take_succ, hy, List.filter_append]
      simp only [Option.toList, List.filter_cons, List.filter_nil]
    rw [tru_bl]
    cases c : kept vs wy with
    | true =>
      rw [c] at e
      push_cast [if_true]
      refine kk1 _ _ ⟨rfl, ?_⟩
      rw [e, List.map_append]; rfl
    | false =>
      rw [c] at e
      push_cast [Bool.false_eq_true, if_false]
      refine kk2 _ ⟨rfl, ?_⟩
      rw [e]; simp
  · rintro acc h ⟨rfl, rfl⟩
    have el : (((ws.take (ws.map wyv).length).filter (kept vs)).map wyv).length = cnt vs ws := by rw [List.length_map, List.length_map, List.take_length]; rfl
    have g0 : decide ((cnt vs ws : Int) = 0) = false := decide_eq_false (by omega)
    push_cast [el, g0, Bool.false_eq_true, if_false]
    by_cases cd : d = .eit
    · subst cd
      by_cases g1 : (cnt vs ws : Int) > 1
      · push_cast [decide_eq_true g1, spv]
        refine k_tup (h := h) (j := 0) (d := .str (kS .eit)) rfl ?_
        push_cast [Sp.kd_s, Bool.not_true, Bool.false_eq_true, if_false]
        exact q _ _ _
      · push_cast [decide_eq_false g1, Bool.false_eq_true, if_false]
        exact q _ _ _
    · have g1 : decide ((cnt vs ws : Int) > 1) = false := decide_eq_false (by have := c2 cd; omega)
      push_cast [g1, Bool.false_eq_true, if_false]
      exact q _ _ _
end
end K17

set_option maxRecDepth 100000
set_option maxHeartbeats 4000000
namespace K17
open PySem L2 VL Kv Kg Kj Ws
local macro_rules
  | `(tactic| push_cast [$xs,*]) => `(tactic| try simp only [$xs,*, WpSs, WpS, WpE, WpEs, WpBs, WpO, WpN, WpI, WpC, WpT, getS, setS, tgK, setsS, wipeS, k_add, k_addT, k_sub, k_mul, k_fdiv, k_mod, k_neg, k_lt, k_le, k_gt, k_ge, k_eqI, k_neI, k_eqS, k_neS, k_eqB, k_neB, k_is, k_isn, k_isB, k_isnB, k_gIn, ctx_gdct, isNon_non, isNon_int, isNon_str, isNon_lst, isNon_tup, isNon_adr, k_lenS, k_lenL, k_lenR, k_lenT, k_int, k_str, k_abs, tru_bl, augK, ctx_call, ctx_glob, k_in, k_nin, k_inS, k_addS, k_intB, isi_non_int, isi_non_bool, isi_non_str, isi_non_list, isi_non_tuple, isi_bl_int, isi_bl_bool, isi_bl_str, isi_bl_list, isi_bl_tuple, isi_int_int, isi_int_bool, isi_int_str, isi_int_list, isi_int_tuple, isi_str_int, isi_str_bool, isi_str_str, isi_str_list, isi_str_tuple, isi_tup_int, isi_tup_bool, isi_tup_str, isi_tup_list, isi_tup_tuple, isi_lst_int, isi_lst_bool, isi_lst_str, isi_lst_list, isi_lst_tuple, isi_ro_int, isi_ro_bool, isi_ro_str, isi_ro_list, isi_ro_tuple, zs_lst, zs_tup])
open Kn (Ob Fr flds oH oH_ob l_m l_d l_l l_c l_t l_f cells_app cells_set cells_put cells_lt)
/-- the law's known as it stands -/
def Sw (w : Wd) (m : Nat) (h : AHeap) : Prop := cells h 3 = .lst [.int (m : Int), .adr 0, .lst (w.ls.map lsv), .adr 1, .adr 2]
theorem Sw.wd {w : Wd} {m : Nat} {h : AHeap} (s : Sw w m h) : WdS h 3 w.ls := ⟨_, _, _, _, _, s, rfl⟩
section
variable {P : Prg} [Kq.U P] [Sp.U P] [Kg.U P] [Kk.U P] [Kx.U P] [U P]
theorem law_5_ok {n m V : Nat} {h : AHeap} {w : Wd} {K : Kd} {vs : List Int} {idx : List Fm} {d : Knd} {ns : List Int} {sp : Ws.Sp} {D : Kt} {s0 s2 s3 s5 s8 s9 s10 s12 s13 s14 s15 s16 s17 s18 s19 : Slot} (wo : w.Ok) (x : Ob h 4 K) (sw : Sw w m h) (hV : cells h V = .lst (il vs)) (V1 : 10 ≤ V) (g : Good w K vs) (ok : K.Ok) (hm : K.m + 2 ≤ 900) (hc : K.cs.length + 2 ≤ 100) (hx : ∀ f ∈ idx, f.1 ≤ w.vs.length) (hfi : ∀ f ∈ idx, FIn K.m f) (f : Ft K idx.length d ns sp)
    (q : ∀ h' K' vs' s12 s13 s14 s15 s16 s17 s18 s19, Ob h' 4 K' → Sw w m h' → cells h' V = .lst (il vs') → Good w K' vs' → K'.Ok → Gr 2 K K' → D.nx [s0, .val (wdv 3 w), s2, s3, .val (.adr V), s5, .val (.adr 4), .val (.lst (idx.map fmv)), s8, s9, s10, .val (spv (kS d) ns), s12, s13, s14, s15, s16, s17, s18, s19] h') :
    WpSs (ctxOf P (callN P (n+7))) b_law_5 D [s0, .val (wdv 3 w), s2, s3, .val (.adr V), s5, .val (.adr 4), .val (.lst (idx.map fmv)), s8, s9, s10, .val (spv (kS d) ns), s12, s13, s14, s15, s16, s17, s18, s19] h := by
  have hz : sizeLine = 16777216 := rfl
  have lh := x.lt
  have lV := cells_lt hV (fun z => by cases z)
  have vl := g.len
  obtain ⟨ok2, w1, w2⟩ := Ws.ways_ok ok (by omega) hc hfi f
  have gr := ways_gr (idx := idx) f
  obtain ⟨l, l1, nw, c1, c2⟩ := cover wo g hx f
  have nm := New.m g nw
  push_cast [b_law_5, x.hd, l_c, Kq.fc, true_and]
  refine k_lenV (view_adr x.c) ?_
  push_cast [viewT_lst, viewW_lst, List.length_map]
  refine Sp.split_ok x ok f fun h1 x1 f1 e1 => ?_
  obtain ⟨K2, eK⟩ : ∃ K2, (ways K idx sp).2 = K2 := ⟨_, rfl⟩
  obtain ⟨ws, ew⟩ : ∃ ws, (ways K idx sp).1 = ws := ⟨_, rfl⟩
  rw [eK] at x1 ok2 gr nw nm
  rw [ew] at w1 c1 c2
  rw [eK, ew] at w2
  rw [ew]
  have g6 : cells (h1 ++ [.lst (ws.map wyv)]) h1.length = .lst (ws.map wyv) := cells_at0
  have v6 : view (h1 ++ [.lst (ws.map wyv)]) (.adr h1.length) = some (ws.map wyv) := view_adr g6
  have is : ∀ {Q : KA}, Q (.bl true) → isiK (.adr h1.length) "list" (h1 ++ [.lst (ws.map wyv)]) Q := fun q => by
    simp only [isiK, v6]
    exact .inl ⟨trivial, q⟩
  have x2 := x1.app [.lst (ws.map wyv)]
  have f2 : Fr 4 6 h (h1 ++ [.lst (ws.map wyv)]) := f1.trans Fr.app
  have sw2 : Sw w m (h1 ++ [.lst (ws.map wyv)]) := (f2.keep 3 (by omega) (by omega)).trans sw
  have hV2 : cells (h1 ++ [.lst (ws.map wyv)]) V = .lst (il vs) := (f2.keep V lV (by omega)).trans hV
  have hr : h1.length = h.length := e1
  generalize h1 ++ [Cell.lst (ws.map wyv)] = h2 at *
  rw [hr] at g6 v6 is
  rw [hr]
  push_cast [WpSs]
  refine is ?_
  have gc := gr.c; have gm := gr.m
  push_cast [tru_bl, Bool.not_true, Bool.false_eq_true, if_false, x2.hd, l_c, Kq.fc, true_and]
  refine k_lenV (view_adr x2.c) ?_
  have g0 : decide (((K2.cs.map cev).length : Int) > (K.cs.length : Int) + 2) = false := decide_eq_false (by rw [List.length_map]; omega)
  have vc : view h2 (.adr (4 + 3)) = some (K2.cs.map cev) := view_adr x2.c
  have ed : cut (K2.cs.map cev) (some (K.cs.length : Int)) none = l.map cev := (cut_sn _ _).trans (by rw [nw.cs, List.map_append, List.drop_left' (by rw [List.length_map])])
  push_cast [g0, Bool.false_eq_true, if_false, b_law_4, x2.hd, l_c, Kq.fc, true_and, vc, ed, viewT_lst]
  refine for_inv (fun i ρ h' => ∃ s14 s15 s16, Ob h' 4 K2 ∧ Sw w m h' ∧ cells h' V = .lst (il (vs ++ nv w (l.take i))) ∧ cells h' h.length = .lst (ws.map wyv) ∧ ρ = [s0, .val (wdv 3 w), s2, s3, .val (.adr V), s5, .val (.adr 4), .val (.lst (idx.map fmv)), s8, s9, s10, .val (spv (kS d) ns), .val (.int (K.cs.length : Int)), .val (.adr h.length), s14, s15, s16, s17, s18, s19]) ⟨_, _, _, x2, sw2, by
      have : nv w (l.take 0) = [] := rfl
      rw [this, List.append_nil]; exact hV2, g6, rfl⟩ (fun _ _ _ _ _ => by trivial) ?_ ?_
  · rintro i z _ h3 D' hx2 ⟨s14, s15, s16, x, sw, hV, hw, rfl⟩ kn kc kr kb
    obtain ⟨c, hci, rfl⟩ := items_map hx2
    obtain ⟨a1, a2, a3⟩ := nw.sh i c hci
    have il' := (List.getElem?_eq_some_iff.mp hci).1
    have lt : (vs ++ nv w (l.take i)).length = K.m + i := by rw [List.length_append, nv_len, List.length_take]; omega
    obtain ⟨ex, hex⟩ := g.x
    have lV3 := cells_lt hV (fun z => by cases z)
    push_cast [cev]
    refine law_1_ok wo sw.wd hV ⟨ex ++ nv w (l.take i), by rw [hex, List.append_assoc]⟩ (by omega) a2 a3 (by rw [a1, lt]) ?_
    have f3 : Fr V 1 h3 (h3.set V (.lst (il (vs ++ nv w (l.take i) ++ [w.t c.1 (fv w.vs c.2.1)])))) := Fr.set (by omega) (by omega)
    have lr := cells_lt hw (fun z => by cases z)
    have et : vs ++ nv w (l.take i) ++ [w.t c.1 (fv w.vs c.2.1)] = vs ++ nv w (l.take (i + 1)) := by
      rw [List.append_assoc]
      congr 1
      unfold nv
      rw [List.take_succ, hci, List.map_append]; rfl
    refine kn _ _ ⟨_, _, _, x.fr f3 (by omega), (f3.keep 3 (by omega) (by omega)).trans sw, ?_, (f3.keep _ lr (by omega)).trans hw, rfl⟩
    rw [cells_set lV3, et]
  · rintro _ h3 ⟨s14, s15, s16, x, sw, hV, hw, rfl⟩
    rw [List.length_map, List.take_length] at hV
    have lg := nw.g.len
    push_cast [b_law_3, x.hd, l_m, Kq.fm, true_and]
    refine k_lenV (view_adr hV) ?_
    have e3 : decide ((K2.m : Int) = ((il (vs ++ nv w l)).length : Int)) = true := decide_eq_true (by rw [List.length_map]; omega)
    push_cast [e3, Bool.not_true, Bool.false_eq_true, if_false]
    refine law_2_ok hV hw (fun wy hy => ?_) (by omega) c1 c2 fun s17 s18 s19 => ?_
    · have b := w2 wy hy
      refine ⟨by have := b.1; omega, fun t ht => ?_⟩
      have := b.2 t ht
      exact ⟨by have := this.1; omega, by have := this.2.1; omega⟩
    · exact q _ K2 _ _ _ _ _ _ _ _ _ x sw hV nw.g ok2 gr
end
end K17

set_option maxRecDepth 100000
set_option maxHeartbeats 4000000
namespace K17
open PySem L2 VL Kv Kg Kj Ws
local macro_rules
  | `(tactic| push_cast [$xs,*]) => `(tactic| try simp only [$xs,*, WpSs, WpS, WpE, WpEs, WpBs, WpO, WpN, WpI, WpC, WpT, getS, setS, tgK, setsS, wipeS, k_add, k_addT, k_sub, k_mul, k_fdiv, k_mod, k_neg, k_lt, k_le, k_gt, k_ge, k_eqI, k_neI, k_eqS, k_neS, k_eqB, k_neB, k_is, k_isn, k_isB, k_isnB, k_gIn, ctx_gdct, isNon_non, isNon_int, isNon_str, isNon_lst, isNon_tup, isNon_adr, k_lenS, k_lenL, k_lenR, k_lenT, k_int, k_str, k_abs, tru_bl, augK, ctx_call, ctx_glob, k_in, k_nin, k_inS, k_addS, k_intB, isi_non_int, isi_non_bool, isi_non_str, isi_non_list, isi_non_tuple, isi_bl_int, isi_bl_bool, isi_bl_str, isi_bl_list, isi_bl_tuple, isi_int_int, isi_int_bool, isi_int_str, isi_int_list, isi_int_tuple, isi_str_int, isi_str_bool, isi_str_str, isi_str_list, isi_str_tuple, isi_tup_int, isi_tup_bool, isi_tup_str, isi_tup_list, isi_tup_tuple, isi_lst_int, isi_lst_bool, isi_lst_str, isi_lst_list, isi_lst_tuple, isi_ro_int, isi_ro_bool, isi_ro_str, isi_ro_list, isi_ro_tuple, zs_lst, zs_tup])
open Kn (Ob Fr flds oH oH_ob l_m l_d l_l l_c l_t l_f cells_app cells_set cells_put cells_lt)
abbrev DD : Kt := { nx := fun _ _ => AV.non = AV.bl true, rt := fun d _ => d = .bl true }
/-- the known of a world -/
def wK (w : Wd) (ts : List Td) (cs : List Ce) (ps : List Pr) (fr : List Fm) : Kd := ⟨w.vs.length, ts, w.ls, cs, ps, fr⟩
theorem pok_in {vs : List Int} {nl : Nat} {p : Pr} (h : POk vs nl p) : PIn vs.length nl p := by
  cases p with
  | eit ws => exact h
  | all n lo hi s f => exact ⟨h.1, h.2.1.fin, h.2.2.1.fin, h.2.2.2.fin⟩
  | mat n lo hi s o pp => exact ⟨h.1, h.2.1.fin, h.2.2.1.fin, h.2.2.2.1, by have := h.2.2.2.2; omega, by have := h.2.2.2.2; omega⟩
  | srt n lo hi => exact ⟨h.1, h.2.1.fin, h.2.2.fin⟩
  | blw n lo hi o x y => exact ⟨h.1, h.2.1.fin, h.2.2.1.fin, h.2.2.2.1, h.2.2.2.2.1.fin, h.2.2.2.2.2.fin⟩
section
variable {w : Wd} {ts : List Td} {cs : List Ce} {ps : List Pr} {fr : List Fm}
theorem wK_ok (wo : Kx.Wo w ts cs ps) (v : w.vs.length ≤ 4) (l : w.ls.length ≤ 5) (f : fr.length ≤ 2) (hf : ∀ f ∈ fr, FOk w.vs f) : (wK w ts cs ps fr).Ok :=
  ⟨fun t ht => (wo.t t ht).1, wo.ok.l.lin, fun c hc => ⟨(wo.c c hc).1, (wo.c c hc).2.1.fin, (wo.c c hc).2.2.1.fin⟩, fun p hp => pok_in (wo.p p hp).1, fun f h => (hf f h).fin, by show w.vs.length ≤ 1000; omega, by have := wo.tl; show ts.length ≤ 40; omega, by show w.ls.length ≤ 10; omega, by have := wo.cl; show cs.length ≤ 100; omega, wo.pl, by show fr.length ≤ 5; omega⟩
theorem wK_good (wo : Kx.Wo w ts cs ps) : Good w (wK w ts cs ps fr) w.vs := ⟨⟨[], by simp⟩, rfl, rfl, fun c hc => by
  obtain ⟨h1, h2, h3, h4⟩ := wo.c c hc
  exact ⟨h1, h2.1, h3.1, h4⟩, wo.p⟩
theorem idx_fin (wo : Kx.Wo w ts cs ps) (hf : ∀ f ∈ fr, FOk w.vs f) : ∀ f ∈ (wK w ts cs ps fr).idx, FIn w.vs.length f := by
  intro f h
  replace h := once_mem h
  unfold Kd.found wK at h
  simp only [List.mem_append, List.mem_map, List.mem_flatMap, List.mem_singleton] at h
  rcases h with (((h | ⟨c, h, rfl⟩) | ⟨l, h, h2⟩) | ⟨p, h, h2⟩) | rfl
  · exact (hf f h).fin
  · exact (wo.c c h).2.1.fin
  · obtain ⟨n, hn⟩ := List.mem_iff_getElem?.mp h
    have := wo.ok.l n l hn
    cases l with
    | wr b i v =>
      obtain ⟨_, h1, _⟩ := this
      obtain ⟨a, b, _⟩ := h1
      simp only [lsF, List.mem_cons, List.not_mem_nil, or_false] at h2
      rcases h2 with rfl | rfl
      · exact ⟨a, by omega, by omega⟩
      · exact ⟨a, by show _ ≤ i.2 + 1; omega, by show i.2 + 1 ≤ _; omega⟩
    | nw f => cases h2
  · exact prF_in (pok_in (wo.p p h).1) h2
  · exact ⟨Nat.zero_le _, by show (-10000000000000 : Int) ≤ 0; omega, by show (0 : Int) ≤ 10000000000000; omega⟩
end
theorem idx_pos {K : Kd} : 0 < K.idx.length := by
  have : (0, 0) ∈ K.idx := by
    unfold Kd.idx once Kd.found
    rw [List.foldl_append]
    show (0, 0) ∈ addO _ (0, 0)
    unfold addO
    split
    · assumption
    · simp
  exact List.length_pos_of_mem this
section
variable {P : Prg} [Kq.U P] [Sp.U P] [Kg.U P] [Kk.U P] [Kx.U P] [U P]
theorem law_ok {n : Nat} {ns : List Int} : callN P (n+8) 229 [.ro (il ns)] [] fun d _ => d = .bl true := by
  refine call_of U.f_law rfl ?_
  show WpSs (ctxOf P (callN P (n+7))) b_law DD [.val (.ro (il ns)), .no, .no, .no, .no, .no, .no, .no, .no, .no, .no, .no, .no, .no, .no, .no, .no, .no, .no, .no] []
  have hz : sizeLine = 16777216 := rfl
  push_cast [b_law]
  refine Kx.world_ok (most := 5) (taken := 6) (n := n + 2) (by omega) (by omega) fun w ts cs ps fr wo v1 v2 l1 l2 c1 p1 f1 hf => ?_
  have hx := idx_fin (ps := ps) (cs := cs) (ts := ts) wo hf
  have g := wK_good (fr := fr) wo
  generalize eK : wK w ts cs ps fr = K at hx g
  have ok : K.Ok := by rw [← eK]; exact wK_ok wo v2 (by omega) f1 hf
  have y : Lk (Kx.wH [] w.vs.length w.ls ts cs ps) 0 3 K := by
    subst eK
    have v0 : view (Kx.wH [] w.vs.length w.ls ts cs ps) (.adr 0) = some (ts.map td) := view_adr (h := Kx.wH [] w.vs.length w.ls ts cs ps) (n := 0) Kx.wH_0
    have v2 : view (Kx.wH [] w.vs.length w.ls ts cs ps) (.adr 2) = some (ps.map prv) := view_adr (h := Kx.wH [] w.vs.length w.ls ts cs ps) (n := 2) Kx.wH_2
    refine ⟨.adr 0, .lst (w.ls.map lsv), 1, .adr 2, by omega, by omega, by omega, Kx.wH_3, Kx.wH_1, ⟨v0, fun n e => ?_⟩, ⟨rfl, fun n e => ?_⟩, ⟨v2, fun n e => ?_⟩⟩
    · injection e with e; omega
    · cases e
    · injection e with e; omega
  have sw : Sw w w.vs.length (Kx.wH [] w.vs.length w.ls ts cs ps) := Kx.wH_3
  have hl : (Kx.wH [] w.vs.length w.ls ts cs ps).length = 4 := rfl
  have ev : w.vs.length = K.m := by rw [← eK]; rfl
  have ec : cs.length = K.cs.length := by rw [← eK]; rfl
  have ef : fr = K.fr := by rw [← eK]; rfl
  have hxo : ∀ f ∈ K.idx, f.1 ≤ w.vs.length := fun f h => (hx f h).1
  rw [ev] at hx
  rw [ef]
  have wo' := wo.ok
  generalize Kx.wH [] w.vs.length w.ls ts cs ps = h0 at *
  have ew : wdv 3 w = .tup [.adr 3, .lst (il w.vs), .lst (w.rs.map rlv)] := rfl
  push_cast [List.length_nil, Nat.zero_add, ew]
  refine made_ok y ?_
  have x : Ob (h0 ++ oH h0.length K) h0.length K := oH_ob
  have y2 := y.app (oH h0.length K)
  have sw2 : Sw w w.vs.length (h0 ++ oH h0.length K) := (Kn.cells_app (by omega)).trans sw
  have l10 : (h0 ++ oH h0.length K).length = 10 := by rw [List.length_append, hl]; rfl
  rw [hl] at x y2 sw2 l10
  rw [hl]
  generalize h0 ++ oH 4 K = h1 at *
  push_cast [WpSs]
  refine Kj.indexes_ok y2 ok ?_
  push_cast [WpSs]
  rw [show Int.toNat 18 = 18 from rfl]
  refine ⟨⟨by omega, by omega⟩, by simp; omega, ?_⟩
  refine comp_ints (fun _ => 1000) (fun i x R hx r => by push_cast [if_true]; exact r) ?_
  rw [List.length_map, List.length_range]
  refine draws_ok (ss := (List.range 18).map fun _ => 1000) (sizes_of (fun s hs => by obtain ⟨_, _, rfl⟩ := List.mem_map.mp hs; omega)) (by simp) fun ds hds => ?_
  have dl : ds.length = 18 := by rw [hds.1, List.length_map, List.length_range]
  push_cast [WpSs]
  refine splits_ok y2 ok dl idx_pos (idx_len ok) fun ss ssl sso => ?_
  push_cast [WpSs]
  refine k_subIl (h := h1) (j := 16) (by omega) ?_
  push_cast [List.length_map, k_max2]
  obtain ⟨mx, hmx, mx1⟩ : ∃ mx : Nat, (if (ss.length : Int) > 1 then (ss.length : Int) else 1) = (mx : Int) ∧ 0 < mx := by
    by_cases c : (ss.length : Int) > 1
    · exact ⟨ss.length, if_pos c, by omega⟩
    · exact ⟨1, if_neg c, by omega⟩
  rw [hmx]
  obtain ⟨at', hat, _⟩ := modI (x := ds[16]) (m := mx) mx1
  refine ⟨by omega, ?_⟩
  rw [hat]
  have e1 : cut (ss.map siv) (some (at' : Int)) none = (ss.drop at').map siv := (cut_sn _ _).trans (by rw [List.map_drop])
  have e2 : cut (ss.map siv) none (some (at' : Int)) = (ss.take at').map siv := (cut_ns _ _).trans (by rw [List.map_take])
  have e3 : (ss.drop at').map siv ++ (ss.take at').map siv = (ss.drop at' ++ ss.take at').map siv := by rw [List.map_append]
  have e4 : ∀ l : List SpI, cut (l.map siv) none (some 24) = (l.take 24).map siv := fun l => (cut_ns _ 24).trans (by rw [List.map_take])
  push_cast [view_lst, viewW_lst, viewT_lst, e1, e2, e3, e4, l10]
  refine ⟨by rw [List.length_map, List.length_map, List.length_drop, List.length_take]; omega, ?_⟩
  obtain ⟨st, hst⟩ : ∃ st, st = (ss.drop at' ++ ss.take at').take 24 := ⟨_, rfl⟩
  have sto : SOk K K.idx.length st := fun s hs => by
    rw [hst] at hs
    rcases List.mem_append.mp (List.mem_of_mem_take hs) with hs | hs
    · exact sso s (List.mem_of_mem_drop hs)
    · exact sso s (List.mem_of_mem_take hs)
  have stl : st.length ≤ 24 := by rw [hst, List.length_take]; omega
  rw [← hst]
  have hV : cells (h1 ++ [.lst (il w.vs)]) 10 = .lst (il w.vs) := by rw [← l10]; exact cells_at0
  have sw3 : Sw w w.vs.length (h1 ++ [.lst (il w.vs)]) := (Kn.cells_app (by omega)).trans sw2
  have x3 := x.app [.lst (il w.vs)]
  generalize h1 ++ [Cell.lst (il w.vs)] = h2 at *
  refine for_inv (fun i ρ h' => ∃ (K' : Kd) (vs' : List Int) (s11 s12 s13 s14 s15 s16 s17 s18 s19 : Slot), Ob h' 4 K' ∧ Sw w w.vs.length h' ∧ cells h' 10 = .lst (il vs') ∧ Good w K' vs' ∧ K'.Ok ∧ Gr (2 * i) K K' ∧ ρ = [.val (.ro (il ns)), .val (wdv 3 w), .val (.lst (K.fr.map fmv)), .val (.adr 3), .val (.adr 10), .val (.lst (w.rs.map rlv)), .val (.adr 4), .val (.lst (K.idx.map fmv)), .val (.lst (il ds)), .val (.lst ((ss.drop at' ++ ss.take at').map siv)), .val (.int (at' : Int)), s11, s12, s13, s14, s15, s16, s17, s18, s19]) ⟨K, w.vs, _, _, _, _, _, _, _, _, _, x3, sw3, hV, g, ok, Gr.refl, rfl⟩ (fun _ _ _ _ _ => by trivial) ?_ ?_
  · rintro i z _ h3 D' hx2 ⟨K', vs', s11, s12, s13, s14, s15, s16, s17, s18, s19, x, sw, hV, g, ok', gr, rfl⟩ kn kc kr kb
    obtain ⟨s, hs, rfl⟩ := items_map hx2
    have hi := (List.getElem?_eq_some_iff.mp hs).1
    obtain ⟨sp, f⟩ := sto s (List.mem_of_getElem? hs)
    have gm := gr.m; have gc := gr.c
    push_cast [siv]
    refine law_5_ok wo' x sw hV (by omega) g ok' (by omega) (by omega) hxo (fun f hf => (hx f hf).mono gm.1) (f.ext gr) fun h4 K4 vs4 s12 s13 s14 s15 s16 s17 s18 s19 x4 sw4 hV4 g4 ok4 gr4 => ?_
    exact kn _ _ ⟨K4, vs4, _, _, _, _, _, _, _, _, _, x4, sw4, hV4, g4, ok4, (gr.trans gr4).mono (by omega), rfl⟩
  · rintro _ h3 ⟨K', vs', s11, s12, s13, s14, s15, s16, s17, s18, s19, x, sw, hV, g, ok', gr, rfl⟩
    push_cast [b_law_6]
end
theorem law_pure : ∀ ns : List Int, ns.length ≤ 63 → callN P 24 229 [.ro (ns.map AV.int)] [] fun d _ => d = .bl true := fun ns _ => law_ok (P := P) (n := 16)
end K17

set_option maxRecDepth 100000
set_option maxHeartbeats 4000000
namespace K17
open PySem L2 VL
def T : Tab where
  fname := fun f => ([(194, ("shifted" : Str)), (191, ("less" : Str)), (192, ("at_most" : Str)), (193, ("opposite" : Str)), (167, ("_law_cell" : Str)), (168, ("_law_draws" : Str)), (169, ("_law_at_most" : Str)), (170, ("_law_of" : Str)), (171, ("_law_length" : Str)), (173, ("_law_form_for" : Str)), (174, ("_law_base" : Str)), (175, ("_law_there" : Str)), (176, ("_law_lists" : Str)), (149, ("_law_compared" : Str)), (177, ("_law_range" : Str)), (178, ("_law_true" : Str)), (200, ("sign_ways" : Str)), (201, ("equal" : Str)), (202, ("parted" : Str)), (203, ("outside" : Str)), (204, ("pair_ways" : Str)), (205, ("write_ways" : Str)), (206, ("all_ways" : Str)), (207, ("match_ways" : Str)), (208, ("sorted_ways" : Str)), (209, ("below_ways" : Str)), (210, ("is_row" : Str)), (211, ("fits" : Str)), (212, ("split_ways" : Str)), (172, ("_law_small" : Str)), (179, ("_law_loose" : Str)), (180, ("_law_promise" : Str)), (226, ("_law_world" : Str)), (185, ("_law_indexes" : Str)), (222, ("_law_made" : Str)), (227, ("_law_splits" : Str)), (228, ("_law_kept" : Str)), (229, ("law" : Str))] : List (Nat × Str)).lookup f
  gname := fun g => (([(9, ("GROUND" : Str)), (10, ("KINDS" : Str))] : List (Nat × Str)).lookup g).getD ""
  cname := fun c => ([(9, ("Known" : Str))] : List (Nat × Str)).lookup c
  dname := fun g => ([(10, ("KINDS" : Str))] : List (Nat × Str)).lookup g
  iname := fun c => ([] : List (Nat × Str)).lookup c
  ename := fun c => ([] : List (Nat × Str)).lookup c
  xname := fun c => ([] : List (Nat × Str)).lookup c
def top (i : Nat) : Stmt := PySem.Challenge.pw_swornrun_k17_ways_cover.main.body.getD i (.Pass ⟨0, 0, 0, 0⟩)
def t194 : FnT := ⟨"shifted", top 3, ["form", "plus"], ["form", "plus"]⟩
def t191 : FnT := ⟨"less", top 4, ["f", "g"], ["f", "g"]⟩
def t192 : FnT := ⟨"at_most", top 5, ["f", "g"], ["f", "g"]⟩
def t193 : FnT := ⟨"opposite", top 6, ["difference", "u", "v", "c"], ["difference"]⟩
def t195 : FnT := ⟨"__init__", inClass (top 7) 0, ["self", "many", "differences", "lists", "cells", "taken", "fresh"], ["self", "many", "differences", "lists", "cells", "taken", "fresh"]⟩
def t196 : FnT := ⟨"new_number", inClass (top 7) 1, ["self"], ["self"]⟩
def t197 : FnT := ⟨"length", inClass (top 7) 3, ["self", "number"], ["self", "number"]⟩
def t198 : FnT := ⟨"cell", inClass (top 7) 4, ["self", "number", "index", "at", "place", "value"], ["self", "number", "index"]⟩
def t167 : FnT := ⟨"_law_cell", top 24, ["_law_script", "_law_k"], ["_law_script", "_law_k"]⟩
def t168 : FnT := ⟨"_law_draws", top 25, ["_law_script", "_law_place", "_law_sizes", "_law_primes", "_law_cell_here", "_law_rest", "_law_draws_here", "_law_k", "_law_first", "_law_mixed"], ["_law_script", "_law_place", "_law_sizes"]⟩
def t169 : FnT := ⟨"_law_at_most", top 27, ["_law_f", "_law_g"], ["_law_f", "_law_g"]⟩
def t170 : FnT := ⟨"_law_of", top 30, ["_law_form", "_law_values"], ["_law_form", "_law_values"]⟩
def t171 : FnT := ⟨"_law_length", top 31, ["_law_lists_here", "_law_number", "_law_step"], ["_law_lists_here", "_law_number"]⟩
def t173 : FnT := ⟨"_law_form_for", top 35, ["_law_draw", "_law_values", "_law_target", "_law_j"], ["_law_draw", "_law_values", "_law_target"]⟩
def t174 : FnT := ⟨"_law_base", top 36, ["_law_rule", "_law_k", "_law_kind", "_law_table", "_law_slope"], ["_law_rule", "_law_k"]⟩
def t175 : FnT := ⟨"_law_there", top 37, ["_law_world_here", "_law_number", "_law_k", "_law_known", "_law_values", "_law_rules", "_law_step", "_law_one"], ["_law_world_here", "_law_number", "_law_k"]⟩
def t176 : FnT := ⟨"_law_lists", top 38, ["_law_script", "_law_count", "_law_values", "_law_lists_here", "_law_rules", "_law_begin", "_law_number", "_law_draws_here", "_law_index", "_law_length_here", "_law_table"], ["_law_script", "_law_count", "_law_values"]⟩
def t149 : FnT := ⟨"_law_compared", top 39, ["_law_sign", "_law_left", "_law_right", "_law_truths"], ["_law_sign", "_law_left", "_law_right"]⟩
def t177 : FnT := ⟨"_law_range", top 40, ["_law_world_here", "_law_number", "_law_lo", "_law_hi", "_law_known", "_law_values", "_law_rules", "_law_end"], ["_law_world_here", "_law_number", "_law_lo", "_law_hi"]⟩
def t178 : FnT := ⟨"_law_true", top 41, ["_law_world_here", "_law_promise_here", "_law_known", "_law_values", "_law_rules", "_law_way", "_law_number", "_law_lo", "_law_hi", "_law_cells", "_law_others", "_law_both", "_law_k", "_law_cell_here", "_law_u", "_law_v", "_law_c"], ["_law_world_here", "_law_promise_here"]⟩
def t200 : FnT := ⟨"sign_ways", top 10, ["sign", "left", "right"], ["sign", "left", "right"]⟩
def t201 : FnT := ⟨"equal", top 11, ["left", "right"], ["left", "right"]⟩
def t202 : FnT := ⟨"parted", top 12, ["tests", "last", "ways", "kept", "test", "way"], ["tests", "last"]⟩
def t203 : FnT := ⟨"outside", top 13, ["index", "length"], ["index", "length"]⟩
def t204 : FnT := ⟨"pair_ways", top 14, ["known", "m", "n", "f", "v", "g", "w"], ["known", "m", "n"]⟩
def t205 : FnT := ⟨"write_ways", top 15, ["known", "m", "number", "f", "v", "_", "before", "written", "value", "old", "kept"], ["known", "m"]⟩
def t206 : FnT := ⟨"all_ways", top 16, ["known", "promise", "f", "_", "number", "lo", "hi", "sign", "form", "tests"], ["known", "promise", "f"]⟩
def t207 : FnT := ⟨"match_ways", top 17, ["known", "promise", "f", "_", "number", "lo", "hi", "sign", "other", "plus", "tests", "left"], ["known", "promise", "f"]⟩
def t208 : FnT := ⟨"sorted_ways", top 18, ["known", "promise", "f", "g", "_", "number", "lo", "hi", "tests", "left"], ["known", "promise", "f", "g"]⟩
def t209 : FnT := ⟨"below_ways", top 19, ["known", "promise", "f", "g", "_", "number", "lo", "hi", "other", "low", "high", "tests", "left"], ["known", "promise", "f", "g"]⟩
def t210 : FnT := ⟨"is_row", top 20, ["numbers", "bounds", "number", "bound"], ["numbers", "bounds"]⟩
def t211 : FnT := ⟨"fits", top 21, ["known", "indexes", "split", "many", "m", "n", "bounds"], ["known", "indexes", "split"]⟩
def t212 : FnT := ⟨"split_ways", top 22, ["known", "indexes", "split", "kind", "promise"], ["known", "indexes", "split"]⟩
def t172 : FnT := ⟨"_law_small", top 34, ["_law_draw"], ["_law_draw"]⟩
def t179 : FnT := ⟨"_law_loose", top 42, ["_law_draws_here", "_law_values", "_law_ways", "_law_k", "_law_way", "_law_j", "_law_u", "_law_v", "_law_slack"], ["_law_draws_here", "_law_values"]⟩
def t180 : FnT := ⟨"_law_promise", top 43, ["_law_script", "_law_place", "_law_world_here", "_law_known", "_law_values", "_law_rules", "_law_draws_here", "_law_many", "_law_number", "_law_other", "_law_low", "_law_lo", "_law_hi", "_law_signs", "_law_found", "_law_first", "_law_last", "_law_length_here", "_law_begin", "_law_end", "_law_ends", "_law_promise_here", "_law_sign", "_law_k"], ["_law_script", "_law_place", "_law_world_here"]⟩
def t226 : FnT := ⟨"_law_world", top 44, ["_law_script", "_law_most", "_law_taken", "_law_shape", "_law_values", "_law_lists_here", "_law_rules", "_law_differences", "_law_known", "_law_world_here", "_law_cells", "_law_k", "_law_number", "_law_index", "_law_value", "_law_more", "_law_u", "_law_v", "_law_fresh", "_law_draw", "_law_cell_here"], ["_law_script", "_law_most", "_law_taken"]⟩
def t185 : FnT := ⟨"_law_indexes", top 33, ["_law_known", "_law_fresh", "_law_found", "_law_one", "_law_promise_here", "_law_once", "_law_form", "_law_cell_here"], ["_law_known", "_law_fresh"]⟩
def t222 : FnT := ⟨"_law_made", top 45, ["_law_world_here", "_law_fresh", "_law_known"], ["_law_world_here", "_law_fresh"]⟩
def t227 : FnT := ⟨"_law_splits", top 46, ["_law_known", "_law_indexes_here", "_law_draws_here", "_law_found", "_law_m", "_law_n", "_law_q", "_law_kind", "_law_s"], ["_law_known", "_law_indexes_here", "_law_draws_here"]⟩
def t228 : FnT := ⟨"_law_kept", top 47, ["_law_way", "_law_values", "_law_u", "_law_v", "_law_c"], ["_law_way", "_law_values"]⟩
def t229 : FnT := ⟨"law", top 48, ["_law_script", "_law_world_here", "_law_fresh", "_law_known", "_law_values", "_law_rules", "_law_made_here", "_law_indexes_here", "_law_draws_here", "_law_splits_here", "_law_at", "_law_split", "_law_many", "_law_ways", "_law_number", "_law_index", "_law_value", "_law_kept_here", "_law_k", "_law_way"], ["_law_script"]⟩
def ts (f : Nat) : Option FnT := ([(194, t194), (191, t191), (192, t192), (193, t193), (195, t195), (196, t196), (197, t197), (198, t198), (167, t167), (168, t168), (169, t169), (170, t170), (171, t171), (173, t173), (174, t174), (175, t175), (176, t176), (149, t149), (177, t177), (178, t178), (200, t200), (201, t201), (202, t202), (203, t203), (204, t204), (205, t205), (206, t206), (207, t207), (208, t208), (209, t209), (210, t210), (211, t211), (212, t212), (172, t172), (179, t179), (180, t180), (226, t226), (185, t185), (222, t222), (227, t227), (228, t228), (229, t229)] : List (Nat × FnT)).lookup f
theorem ag194 : agF T t194 ⟨2, 2, Kq.b_shifted⟩ = true := by decide +kernel
theorem ag191 : agF T t191 ⟨2, 2, Kq.b_less⟩ = true := by decide +kernel
theorem ag192 : agF T t192 ⟨2, 2, Kq.b_at_most⟩ = true := by decide +kernel
theorem ag193 : agF T t193 ⟨1, 4, Kq.b_opposite⟩ = true := by decide +kernel
theorem ag195 : agF T t195 ⟨7, 7, Kq.b_Known___init__⟩ = true := by decide +kernel
theorem ag196 : agF T t196 ⟨1, 1, Kq.b_Known_new_number⟩ = true := by decide +kernel
theorem ag197 : agF T t197 ⟨2, 2, Kq.b_Known_length⟩ = true := by decide +kernel
theorem ag198 : agF T t198 ⟨3, 6, Kq.b_Known_cell⟩ = true := by decide +kernel
theorem ag167 : agF T t167 ⟨2, 2, Kg.b_law_cell⟩ = true := by decide +kernel
theorem ag168 : agF T t168 ⟨3, 10, Kg.b_law_draws⟩ = true := by decide +kernel
theorem ag169 : agF T t169 ⟨2, 2, Kg.b_law_at_most⟩ = true := by decide +kernel
theorem ag170 : agF T t170 ⟨2, 2, Kg.b_law_of⟩ = true := by decide +kernel
theorem ag171 : agF T t171 ⟨2, 3, Kg.b_law_length⟩ = true := by decide +kernel
theorem ag173 : agF T t173 ⟨3, 4, Kg.b_law_form_for⟩ = true := by decide +kernel
theorem ag174 : agF T t174 ⟨2, 5, Kg.b_law_base⟩ = true := by decide +kernel
theorem ag175 : agF T t175 ⟨3, 8, Kg.b_law_there⟩ = true := by decide +kernel
theorem ag176 : agF T t176 ⟨3, 11, Kg.b_law_lists⟩ = true := by decide +kernel
theorem ag149 : agF T t149 ⟨3, 4, Kg.b_law_compared⟩ = true := by decide +kernel
theorem ag177 : agF T t177 ⟨4, 8, Kg.b_law_range⟩ = true := by decide +kernel
theorem ag178 : agF T t178 ⟨2, 17, Kg.b_law_true⟩ = true := by decide +kernel
theorem ag200 : agF T t200 ⟨3, 3, Sp.b_sign_ways⟩ = true := by decide +kernel
theorem ag201 : agF T t201 ⟨2, 2, Sp.b_equal⟩ = true := by decide +kernel
theorem ag202 : agF T t202 ⟨2, 6, Sp.b_parted⟩ = true := by decide +kernel
theorem ag203 : agF T t203 ⟨2, 2, Sp.b_outside⟩ = true := by decide +kernel
theorem ag204 : agF T t204 ⟨3, 7, Sp.b_pair_ways⟩ = true := by decide +kernel
theorem ag205 : agF T t205 ⟨2, 11, Sp.b_write_ways⟩ = true := by decide +kernel
theorem ag206 : agF T t206 ⟨3, 10, Sp.b_all_ways⟩ = true := by decide +kernel
theorem ag207 : agF T t207 ⟨3, 12, Sp.b_match_ways⟩ = true := by decide +kernel
theorem ag208 : agF T t208 ⟨4, 10, Sp.b_sorted_ways⟩ = true := by decide +kernel
theorem ag209 : agF T t209 ⟨4, 13, Sp.b_below_ways⟩ = true := by decide +kernel
theorem ag210 : agF T t210 ⟨2, 4, Sp.b_is_row⟩ = true := by decide +kernel
theorem ag211 : agF T t211 ⟨3, 7, Sp.b_fits⟩ = true := by decide +kernel
theorem ag212 : agF T t212 ⟨3, 5, Sp.b_split_ways⟩ = true := by decide +kernel
theorem ag172 : agF T t172 ⟨1, 1, Kx.b_law_small⟩ = true := by decide +kernel
theorem ag179 : agF T t179 ⟨2, 9, Kx.b_law_loose⟩ = true := by decide +kernel
theorem ag180 : agF T t180 ⟨3, 24, Kx.b_law_promise⟩ = true := by decide +kernel
theorem ag226 : agF T t226 ⟨3, 21, Kx.b_law_world⟩ = true := by decide +kernel
theorem ag185 : agF T t185 ⟨2, 8, Kk.b_law_indexes⟩ = true := by decide +kernel
theorem ag222 : agF T t222 ⟨2, 3, K17.b_law_made⟩ = true := by decide +kernel
theorem ag227 : agF T t227 ⟨3, 9, K17.b_law_splits⟩ = true := by decide +kernel
theorem ag228 : agF T t228 ⟨2, 5, K17.b_law_kept⟩ = true := by decide +kernel
theorem ag229 : agF T t229 ⟨1, 20, K17.b_law⟩ = true := by decide +kernel
end K17

namespace K17
open PySem L2 VL
theorem all_mk {w : World} {K : PySem.W.Frag} {h : Heap} {mg : Str → Option Value} {fa : Addr} (X : K.In h) (G : h.Ns mainGlobals mg) (hfa : mg "law" = some (.ref fa))
    {f194 f191 f192 f193 f195 f196 f197 f198 f167 f168 f169 f170 f171 f173 f174 f175 f176 f149 f177 f178 f200 f201 f202 f203 f204 f205 f206 f207 f208 f209 f210 f211 f212 f172 f179 f180 f226 f185 f222 f227 f228 f229 C9 : Addr} {od194 an194 od191 an191 od192 an192 od193 an193 od195 an195 od196 an196 od197 an197 od198 an198 od167 an167 od168 an168 od169 an169 od170 an170 od171 an171 od173 an173 od174 an174 od175 an175 od176 an176 od149 an149 od177 an177 od178 an178 od200 an200 od201 an201 od202 an202 od203 an203 od204 an204 od205 an205 od206 an206 od207 an207 od208 an208 od209 an209 od210 an210 od211 an211 od212 an212 od172 an172 od179 an179 od180 an180 od226 an226 od185 an185 od222 an222 od227 an227 od228 an228 od229 an229 : Option Addr} {sl194 sl191 sl192 sl193 sl195 sl196 sl197 sl198 sl167 sl168 sl169 sl170 sl171 sl173 sl174 sl175 sl176 sl149 sl177 sl178 sl200 sl201 sl202 sl203 sl204 sl205 sl206 sl207 sl208 sl209 sl210 sl211 sl212 sl172 sl179 sl180 sl226 sl185 sl222 sl227 sl228 sl229 : Array (Option Value)} {oc194 kV194 dc194 pm194 cd194 ct194 oc191 kV191 dc191 pm191 cd191 ct191 oc192 kV192 dc192 pm192 cd192 ct192 oc193 kV193 dc193 pm193 cd193 ct193 oc195 kV195 dc195 pm195 cd195 ct195 oc196 kV196 dc196 pm196 cd196 ct196 oc197 kV197 dc197 pm197 cd197 ct197 oc198 kV198 dc198 pm198 cd198 ct198 oc167 kV167 dc167 pm167 cd167 ct167 oc168 kV168 dc168 pm168 cd168 ct168 oc169 kV169 dc169 pm169 cd169 ct169 oc170 kV170 dc170 pm170 cd170 ct170 oc171 kV171 dc171 pm171 cd171 ct171 oc173 kV173 dc173 pm173 cd173 ct173 oc174 kV174 dc174 pm174 cd174 ct174 oc175 kV175 dc175 pm175 cd175 ct175 oc176 kV176 dc176 pm176 cd176 ct176 oc149 kV149 dc149 pm149 cd149 ct149 oc177 kV177 dc177 pm177 cd177 ct177 oc178 kV178 dc178 pm178 cd178 ct178 oc200 kV200 dc200 pm200 cd200 ct200 oc201 kV201 dc201 pm201 cd201 ct201 oc202 kV202 dc202 pm202 cd202 ct202 oc203 kV203 dc203 pm203 cd203 ct203 oc204 kV204 dc204 pm204 cd204 ct204 oc205 kV205 dc205 pm205 cd205 ct205 oc206 kV206 dc206 pm206 cd206 ct206 oc207 kV207 dc207 pm207 cd207 ct207 oc208 kV208 dc208 pm208 cd208 ct208 oc209 kV209 dc209 pm209 cd209 ct209 oc210 kV210 dc210 pm210 cd210 ct210 oc211 kV211 dc211 pm211 cd211 ct211 oc212 kV212 dc212 pm212 cd212 ct212 oc172 kV172 dc172 pm172 cd172 ct172 oc179 kV179 dc179 pm179 cd179 ct179 oc180 kV180 dc180 pm180 cd180 ct180 oc226 kV226 dc226 pm226 cd226 ct226 oc185 kV185 dc185 pm185 cd185 ct185 oc222 kV222 dc222 pm222 cd222 ct222 oc227 kV227 dc227 pm227 cd227 ct227 oc228 kV228 dc228 pm228 cd228 ct228 oc229 kV229 dc229 pm229 cd229 ct229 : Value} {ga9 : Addr} {gd9 : Option Addr} {gi9 : Array Value} {gn9 : Nat} {gs9 : Array (Option Value)} {ga10 : Addr} {gt10_0 gt10_1 gt10_2 gt10_3 gt10_4 gt10_5 gt10_6 : Tok}
    (a194 : PySem.W.nsIn K mainGlobals "shifted" = some (some (.ref f194)))
    (l194 : K.lookup f194 = some ⟨oc194, od194, .func (PySem.W.fnOf "shifted" "shifted" (defArgs t194.st) (defBody t194.st) (defScope t194.st) .none kV194 dc194 pm194 an194 cd194 ct194), sl194⟩)
    (c194 : PySem.W.codeIn K cd194 "shifted" = true)
    (k194 : PySem.W.keepIn K (.ref f194) = true)
    (a191 : PySem.W.nsIn K mainGlobals "less" = some (some (.ref f191)))
    (l191 : K.lookup f191 = some ⟨oc191, od191, .func (PySem.W.fnOf "less" "less" (defArgs t191.st) (defBody t191.st) (defScope t191.st) .none kV191 dc191 pm191 an191 cd191 ct191), sl191⟩)
    (c191 : PySem.W.codeIn K cd191 "less" = true)
    (k191 : PySem.W.keepIn K (.ref f191) = true)
    (a192 : PySem.W.nsIn K mainGlobals "at_most" = some (some (.ref f192)))
    (l192 : K.lookup f192 = some ⟨oc192, od192, .func (PySem.W.fnOf "at_most" "at_most" (defArgs t192.st) (defBody t192.st) (defScope t192.st) .none kV192 dc192 pm192 an192 cd192 ct192), sl192⟩)
    (c192 : PySem.W.codeIn K cd192 "at_most" = true)
    (k192 : PySem.W.keepIn K (.ref f192) = true)
    (a193 : PySem.W.nsIn K mainGlobals "opposite" = some (some (.ref f193)))
    (l193 : K.lookup f193 = some ⟨oc193, od193, .func (PySem.W.fnOf "opposite" "opposite" (defArgs t193.st) (defBody t193.st) (defScope t193.st) .none kV193 dc193 pm193 an193 cd193 ct193), sl193⟩)
    (c193 : PySem.W.codeIn K cd193 "opposite" = true)
    (k193 : PySem.W.keepIn K (.ref f193) = true)
    (a195 : PySem.W.findIn K (.ref C9) "__init__" = some (some (.ref f195)))
    (i195 : PySem.W.isFn K (.ref f195) = true)
    (l195 : K.lookup f195 = some ⟨oc195, od195, .func (PySem.W.fnOf "__init__" "Known.__init__" (defArgs t195.st) (defBody t195.st) (defScope t195.st) .none kV195 dc195 pm195 an195 cd195 ct195), sl195⟩)
    (c195 : PySem.W.codeIn K cd195 "Known.__init__" = true)
    (k195 : PySem.W.keepIn K (.ref f195) = true)
    (a196 : PySem.W.findIn K (.ref C9) "new_number" = some (some (.ref f196)))
    (i196 : PySem.W.isFn K (.ref f196) = true)
    (l196 : K.lookup f196 = some ⟨oc196, od196, .func (PySem.W.fnOf "new_number" "Known.new_number" (defArgs t196.st) (defBody t196.st) (defScope t196.st) .none kV196 dc196 pm196 an196 cd196 ct196), sl196⟩)
    (c196 : PySem.W.codeIn K cd196 "Known.new_number" = true)
    (k196 : PySem.W.keepIn K (.ref f196) = true)
    (a197 : PySem.W.findIn K (.ref C9) "length" = some (some (.ref f197)))
    (i197 : PySem.W.isFn K (.ref f197) = true)
    (l197 : K.lookup f197 = some ⟨oc197, od197, .func (PySem.W.fnOf "length" "Known.length" (defArgs t197.st) (defBody t197.st) (defScope t197.st) .none kV197 dc197 pm197 an197 cd197 ct197), sl197⟩)
    (c197 : PySem.W.codeIn K cd197 "Known.length" = true)
    (k197 : PySem.W.keepIn K (.ref f197) = true)
    (a198 : PySem.W.findIn K (.ref C9) "cell" = some (some (.ref f198)))
    (i198 : PySem.W.isFn K (.ref f198) = true)
    (l198 : K.lookup f198 = some ⟨oc198, od198, .func (PySem.W.fnOf "cell" "Known.cell" (defArgs t198.st) (defBody t198.st) (defScope t198.st) .none kV198 dc198 pm198 an198 cd198 ct198), sl198⟩)
    (c198 : PySem.W.codeIn K cd198 "Known.cell" = true)
    (k198 : PySem.W.keepIn K (.ref f198) = true)
    (a167 : PySem.W.nsIn K mainGlobals "_law_cell" = some (some (.ref f167)))
    (l167 : K.lookup f167 = some ⟨oc167, od167, .func (PySem.W.fnOf "_law_cell" "_law_cell" (defArgs t167.st) (defBody t167.st) (defScope t167.st) .none kV167 dc167 pm167 an167 cd167 ct167), sl167⟩)
    (c167 : PySem.W.codeIn K cd167 "_law_cell" = true)
    (k167 : PySem.W.keepIn K (.ref f167) = true)
    (a168 : PySem.W.nsIn K mainGlobals "_law_draws" = some (some (.ref f168)))
    (l168 : K.lookup f168 = some ⟨oc168, od168, .func (PySem.W.fnOf "_law_draws" "_law_draws" (defArgs t168.st) (defBody t168.st) (defScope t168.st) .none kV168 dc168 pm168 an168 cd168 ct168), sl168⟩)
    (c168 : PySem.W.codeIn K cd168 "_law_draws" = true)
    (k168 : PySem.W.keepIn K (.ref f168) = true)
    (a169 : PySem.W.nsIn K mainGlobals "_law_at_most" = some (some (.ref f169)))
    (l169 : K.lookup f169 = some ⟨oc169, od169, .func (PySem.W.fnOf "_law_at_most" "_law_at_most" (defArgs t169.st) (defBody t169.st) (defScope t169.st) .none kV169 dc169 pm169 an169 cd169 ct169), sl169⟩)
    (c169 : PySem.W.codeIn K cd169 "_law_at_most" = true)
    (k169 : PySem.W.keepIn K (.ref f169) = true)
    (a170 : PySem.W.nsIn K mainGlobals "_law_of" = some (some (.ref f170)))
    (l170 : K.lookup f170 = some ⟨oc170, od170, .func (PySem.W.fnOf "_law_of" "_law_of" (defArgs t170.st) (defBody t170.st) (defScope t170.st) .none kV170 dc170 pm170 an170 cd170 ct170), sl170⟩)
    (c170 : PySem.W.codeIn K cd170 "_law_of" = true)
    (k170 : PySem.W.keepIn K (.ref f170) = true)
    (a171 : PySem.W.nsIn K mainGlobals "_law_length" = some (some (.ref f171)))
    (l171 : K.lookup f171 = some ⟨oc171, od171, .func (PySem.W.fnOf "_law_length" "_law_length" (defArgs t171.st) (defBody t171.st) (defScope t171.st) .none kV171 dc171 pm171 an171 cd171 ct171), sl171⟩)
    (c171 : PySem.W.codeIn K cd171 "_law_length" = true)
    (k171 : PySem.W.keepIn K (.ref f171) = true)
    (a173 : PySem.W.nsIn K mainGlobals "_law_form_for" = some (some (.ref f173)))
    (l173 : K.lookup f173 = some ⟨oc173, od173, .func (PySem.W.fnOf "_law_form_for" "_law_form_for" (defArgs t173.st) (defBody t173.st) (defScope t173.st) .none kV173 dc173 pm173 an173 cd173 ct173), sl173⟩)
    (c173 : PySem.W.codeIn K cd173 "_law_form_for" = true)
    (k173 : PySem.W.keepIn K (.ref f173) = true)
    (a174 : PySem.W.nsIn K mainGlobals "_law_base" = some (some (.ref f174)))
    (l174 : K.lookup f174 = some ⟨oc174, od174, .func (PySem.W.fnOf "_law_base" "_law_base" (defArgs t174.st) (defBody t174.st) (defScope t174.st) .none kV174 dc174 pm174 an174 cd174 ct174), sl174⟩)
    (c174 : PySem.W.codeIn K cd174 "_law_base" = true)
    (k174 : PySem.W.keepIn K (.ref f174) = true)
    (a175 : PySem.W.nsIn K mainGlobals "_law_there" = some (some (.ref f175)))
    (l175 : K.lookup f175 = some ⟨oc175, od175, .func (PySem.W.fnOf "_law_there" "_law_there" (defArgs t175.st) (defBody t175.st) (defScope t175.st) .none kV175 dc175 pm175 an175 cd175 ct175), sl175⟩)
    (c175 : PySem.W.codeIn K cd175 "_law_there" = true)
    (k175 : PySem.W.keepIn K (.ref f175) = true)
    (a176 : PySem.W.nsIn K mainGlobals "_law_lists" = some (some (.ref f176)))
    (l176 : K.lookup f176 = some ⟨oc176, od176, .func (PySem.W.fnOf "_law_lists" "_law_lists" (defArgs t176.st) (defBody t176.st) (defScope t176.st) .none kV176 dc176 pm176 an176 cd176 ct176), sl176⟩)
    (c176 : PySem.W.codeIn K cd176 "_law_lists" = true)
    (k176 : PySem.W.keepIn K (.ref f176) = true)
    (a149 : PySem.W.nsIn K mainGlobals "_law_compared" = some (some (.ref f149)))
    (l149 : K.lookup f149 = some ⟨oc149, od149, .func (PySem.W.fnOf "_law_compared" "_law_compared" (defArgs t149.st) (defBody t149.st) (defScope t149.st) .none kV149 dc149 pm149 an149 cd149 ct149), sl149⟩)
    (c149 : PySem.W.codeIn K cd149 "_law_compared" = true)
    (k149 : PySem.W.keepIn K (.ref f149) = true)
    (a177 : PySem.W.nsIn K mainGlobals "_law_range" = some (some (.ref f177)))
    (l177 : K.lookup f177 = some ⟨oc177, od177, .func (PySem.W.fnOf "_law_range" "_law_range" (defArgs t177.st) (defBody t177.st) (defScope t177.st) .none kV177 dc177 pm177 an177 cd177 ct177), sl177⟩)
    (c177 : PySem.W.codeIn K cd177 "_law_range" = true)
    (k177 : PySem.W.keepIn K (.ref f177) = true)
    (a178 : PySem.W.nsIn K mainGlobals "_law_true" = some (some (.ref f178)))
    (l178 : K.lookup f178 = some ⟨oc178, od178, .func (PySem.W.fnOf "_law_true" "_law_true" (defArgs t178.st) (defBody t178.st) (defScope t178.st) .none kV178 dc178 pm178 an178 cd178 ct178), sl178⟩)
    (c178 : PySem.W.codeIn K cd178 "_law_true" = true)
    (k178 : PySem.W.keepIn K (.ref f178) = true)
    (a200 : PySem.W.nsIn K mainGlobals "sign_ways" = some (some (.ref f200)))
    (l200 : K.lookup f200 = some ⟨oc200, od200, .func (PySem.W.fnOf "sign_ways" "sign_ways" (defArgs t200.st) (defBody t200.st) (defScope t200.st) .none kV200 dc200 pm200 an200 cd200 ct200), sl200⟩)
    (c200 : PySem.W.codeIn K cd200 "sign_ways" = true)
    (k200 : PySem.W.keepIn K (.ref f200) = true)
    (a201 : PySem.W.nsIn K mainGlobals "equal" = some (some (.ref f201)))
    (l201 : K.lookup f201 = some ⟨oc201, od201, .func (PySem.W.fnOf "equal" "equal" (defArgs t201.st) (defBody t201.st) (defScope t201.st) .none kV201 dc201 pm201 an201 cd201 ct201), sl201⟩)
    (c201 : PySem.W.codeIn K cd201 "equal" = true)
    (k201 : PySem.W.keepIn K (.ref f201) = true)
    (a202 : PySem.W.nsIn K mainGlobals "parted" = some (some (.ref f202)))
    (l202 : K.lookup f202 = some ⟨oc202, od202, .func (PySem.W.fnOf "parted" "parted" (defArgs t202.st) (defBody t202.st) (defScope t202.st) .none kV202 dc202 pm202 an202 cd202 ct202), sl202⟩)
    (c202 : PySem.W.codeIn K cd202 "parted" = true)
    (k202 : PySem.W.keepIn K (.ref f202) = true)
    (a203 : PySem.W.nsIn K mainGlobals "outside" = some (some (.ref f203)))
    (l203 : K.lookup f203 = some ⟨oc203, od203, .func (PySem.W.fnOf "outside" "outside" (defArgs t203.st) (defBody t203.st) (defScope t203.st) .none kV203 dc203 pm203 an203 cd203 ct203), sl203⟩)
    (c203 : PySem.W.codeIn K cd203 "outside" = true)
    (k203 : PySem.W.keepIn K (.ref f203) = true)
    (a204 : PySem.W.nsIn K mainGlobals "pair_ways" = some (some (.ref f204)))
    (l204 : K.lookup f204 = some ⟨oc204, od204, .func (PySem.W.fnOf "pair_ways" "pair_ways" (defArgs t204.st) (defBody t204.st) (defScope t204.st) .none kV204 dc204 pm204 an204 cd204 ct204), sl204⟩)
    (c204 : PySem.W.codeIn K cd204 "pair_ways" = true)
    (k204 : PySem.W.keepIn K (.ref f204) = true)
    (a205 : PySem.W.nsIn K mainGlobals "write_ways" = some (some (.ref f205)))
    (l205 : K.lookup f205 = some ⟨oc205, od205, .func (PySem.W.fnOf "write_ways" "write_ways" (defArgs t205.st) (defBody t205.st) (defScope t205.st) .none kV205 dc205 pm205 an205 cd205 ct205), sl205⟩)
    (c205 : PySem.W.codeIn K cd205 "write_ways" = true)
    (k205 : PySem.W.keepIn K (.ref f205) = true)
    (a206 : PySem.W.nsIn K mainGlobals "all_ways" = some (some (.ref f206)))
    (l206 : K.lookup f206 = some ⟨oc206, od206, .func (PySem.W.fnOf "all_ways" "all_ways" (defArgs t206.st) (defBody t206.st) (defScope t206.st) .none kV206 dc206 pm206 an206 cd206 ct206), sl206⟩)
    (c206 : PySem.W.codeIn K cd206 "all_ways" = true)
    (k206 : PySem.W.keepIn K (.ref f206) = true)
    (a207 : PySem.W.nsIn K mainGlobals "match_ways" = some (some (.ref f207)))
    (l207 : K.lookup f207 = some ⟨oc207, od207, .func (PySem.W.fnOf "match_ways" "match_ways" (defArgs t207.st) (defBody t207.st) (defScope t207.st) .none kV207 dc207 pm207 an207 cd207 ct207), sl207⟩)
    (c207 : PySem.W.codeIn K cd207 "match_ways" = true)
    (k207 : PySem.W.keepIn K (.ref f207) = true)
    (a208 : PySem.W.nsIn K mainGlobals "sorted_ways" = some (some (.ref f208)))
    (l208 : K.lookup f208 = some ⟨oc208, od208, .func (PySem.W.fnOf "sorted_ways" "sorted_ways" (defArgs t208.st) (defBody t208.st) (defScope t208.st) .none kV208 dc208 pm208 an208 cd208 ct208), sl208⟩)
    (c208 : PySem.W.codeIn K cd208 "sorted_ways" = true)
    (k208 : PySem.W.keepIn K (.ref f208) = true)
    (a209 : PySem.W.nsIn K mainGlobals "below_ways" = some (some (.ref f209)))
    (l209 : K.lookup f209 = some ⟨oc209, od209, .func (PySem.W.fnOf "below_ways" "below_ways" (defArgs t209.st) (defBody t209.st) (defScope t209.st) .none kV209 dc209 pm209 an209 cd209 ct209), sl209⟩)
    (c209 : PySem.W.codeIn K cd209 "below_ways" = true)
    (k209 : PySem.W.keepIn K (.ref f209) = true)
    (a210 : PySem.W.nsIn K mainGlobals "is_row" = some (some (.ref f210)))
    (l210 : K.lookup f210 = some ⟨oc210, od210, .func (PySem.W.fnOf "is_row" "is_row" (defArgs t210.st) (defBody t210.st) (defScope t210.st) .none kV210 dc210 pm210 an210 cd210 ct210), sl210⟩)
    (c210 : PySem.W.codeIn K cd210 "is_row" = true)
    (k210 : PySem.W.keepIn K (.ref f210) = true)
    (a211 : PySem.W.nsIn K mainGlobals "fits" = some (some (.ref f211)))
    (l211 : K.lookup f211 = some ⟨oc211, od211, .func (PySem.W.fnOf "fits" "fits" (defArgs t211.st) (defBody t211.st) (defScope t211.st) .none kV211 dc211 pm211 an211 cd211 ct211), sl211⟩)
    (c211 : PySem.W.codeIn K cd211 "fits" = true)
    (k211 : PySem.W.keepIn K (.ref f211) = true)
    (a212 : PySem.W.nsIn K mainGlobals "split_ways" = some (some (.ref f212)))
    (l212 : K.lookup f212 = some ⟨oc212, od212, .func (PySem.W.fnOf "split_ways" "split_ways" (defArgs t212.st) (defBody t212.st) (defScope t212.st) .none kV212 dc212 pm212 an212 cd212 ct212), sl212⟩)
    (c212 : PySem.W.codeIn K cd212 "split_ways" = true)
    (k212 : PySem.W.keepIn K (.ref f212) = true)
    (a172 : PySem.W.nsIn K mainGlobals "_law_small" = some (some (.ref f172)))
    (l172 : K.lookup f172 = some ⟨oc172, od172, .func (PySem.W.fnOf "_law_small" "_law_small" (defArgs t172.st) (defBody t172.st) (defScope t172.st) .none kV172 dc172 pm172 an172 cd172 ct172), sl172⟩)
    (c172 : PySem.W.codeIn K cd172 "_law_small" = true)
    (k172 : PySem.W.keepIn K (.ref f172) = true)
    (a179 : PySem.W.nsIn K mainGlobals "_law_loose" = some (some (.ref f179)))
    (l179 : K.lookup f179 = some ⟨oc179, od179, .func (PySem.W.fnOf "_law_loose" "_law_loose" (defArgs t179.st) (defBody t179.st) (defScope t179.st) .none kV179 dc179 pm179 an179 cd179 ct179), sl179⟩)
    (c179 : PySem.W.codeIn K cd179 "_law_loose" = true)
    (k179 : PySem.W.keepIn K (.ref f179) = true)
    (a180 : PySem.W.nsIn K mainGlobals "_law_promise" = some (some (.ref f180)))
    (l180 : K.lookup f180 = some ⟨oc180, od180, .func (PySem.W.fnOf "_law_promise" "_law_promise" (defArgs t180.st) (defBody t180.st) (defScope t180.st) .none kV180 dc180 pm180 an180 cd180 ct180), sl180⟩)
    (c180 : PySem.W.codeIn K cd180 "_law_promise" = true)
    (k180 : PySem.W.keepIn K (.ref f180) = true)
    (a226 : PySem.W.nsIn K mainGlobals "_law_world" = some (some (.ref f226)))
    (l226 : K.lookup f226 = some ⟨oc226, od226, .func (PySem.W.fnOf "_law_world" "_law_world" (defArgs t226.st) (defBody t226.st) (defScope t226.st) .none kV226 dc226 pm226 an226 cd226 ct226), sl226⟩)
    (c226 : PySem.W.codeIn K cd226 "_law_world" = true)
    (k226 : PySem.W.keepIn K (.ref f226) = true)
    (a185 : PySem.W.nsIn K mainGlobals "_law_indexes" = some (some (.ref f185)))
    (l185 : K.lookup f185 = some ⟨oc185, od185, .func (PySem.W.fnOf "_law_indexes" "_law_indexes" (defArgs t185.st) (defBody t185.st) (defScope t185.st) .none kV185 dc185 pm185 an185 cd185 ct185), sl185⟩)
    (c185 : PySem.W.codeIn K cd185 "_law_indexes" = true)
    (k185 : PySem.W.keepIn K (.ref f185) = true)
    (a222 : PySem.W.nsIn K mainGlobals "_law_made" = some (some (.ref f222)))
    (l222 : K.lookup f222 = some ⟨oc222, od222, .func (PySem.W.fnOf "_law_made" "_law_made" (defArgs t222.st) (defBody t222.st) (defScope t222.st) .none kV222 dc222 pm222 an222 cd222 ct222), sl222⟩)
    (c222 : PySem.W.codeIn K cd222 "_law_made" = true)
    (k222 : PySem.W.keepIn K (.ref f222) = true)
    (a227 : PySem.W.nsIn K mainGlobals "_law_splits" = some (some (.ref f227)))
    (l227 : K.lookup f227 = some ⟨oc227, od227, .func (PySem.W.fnOf "_law_splits" "_law_splits" (defArgs t227.st) (defBody t227.st) (defScope t227.st) .none kV227 dc227 pm227 an227 cd227 ct227), sl227⟩)
    (c227 : PySem.W.codeIn K cd227 "_law_splits" = true)
    (k227 : PySem.W.keepIn K (.ref f227) = true)
    (a228 : PySem.W.nsIn K mainGlobals "_law_kept" = some (some (.ref f228)))
    (l228 : K.lookup f228 = some ⟨oc228, od228, .func (PySem.W.fnOf "_law_kept" "_law_kept" (defArgs t228.st) (defBody t228.st) (defScope t228.st) .none kV228 dc228 pm228 an228 cd228 ct228), sl228⟩)
    (c228 : PySem.W.codeIn K cd228 "_law_kept" = true)
    (k228 : PySem.W.keepIn K (.ref f228) = true)
    (a229 : PySem.W.nsIn K mainGlobals "law" = some (some (.ref f229)))
    (l229 : K.lookup f229 = some ⟨oc229, od229, .func (PySem.W.fnOf "law" "law" (defArgs t229.st) (defBody t229.st) (defScope t229.st) .none kV229 dc229 pm229 an229 cd229 ct229), sl229⟩)
    (c229 : PySem.W.codeIn K cd229 "law" = true)
    (k229 : PySem.W.keepIn K (.ref f229) = true)
    (aC9 : PySem.W.nsIn K mainGlobals "Known" = some (some (.ref C9)))
    (pg9 : PySem.W.plainGet K C9 Str.empty = true)
    (hd9 : PySem.W.hasDictIn K C9 = true)
    (po9 : PySem.W.plainOver K C9 = true)
    (sa9 : PySem.W.findIn K (.ref C9) "__setattr__" = some (some (.builtin "object.__setattr__")))
    (mk9 : PySem.W.makesIn K C9 = true)
    (kc9 : PySem.W.keepIn K (.ref C9) = true)
    (fl0 : PySem.W.findIn K (.ref C9) "many" = some none)
    (fl1 : PySem.W.findIn K (.ref C9) "differences" = some none)
    (fl2 : PySem.W.findIn K (.ref C9) "lists" = some none)
    (fl3 : PySem.W.findIn K (.ref C9) "cells" = some none)
    (fl4 : PySem.W.findIn K (.ref C9) "taken" = some none)
    (fl5 : PySem.W.findIn K (.ref C9) "fresh" = some none)
    (z0 : PySem.W.nsIn K mainGlobals "len" = some none)
    (z1 : PySem.W.nsIn K mainGlobals "abs" = some none)
    (z2 : PySem.W.nsIn K mainGlobals "int" = some none)
    (z3 : PySem.W.nsIn K mainGlobals "str" = some none)
    (z4 : PySem.W.nsIn K mainGlobals "max" = some none)
    (z5 : PySem.W.nsIn K mainGlobals "min" = some none)
    (z6 : PySem.W.nsIn K mainGlobals "sum" = some none)
    (z7 : PySem.W.nsIn K mainGlobals "all" = some none)
    (z8 : PySem.W.nsIn K mainGlobals "any" = some none)
    (z9 : PySem.W.nsIn K mainGlobals "tuple" = some none)
    (z10 : PySem.W.nsIn K mainGlobals "list" = some none)
    (z11 : PySem.W.nsIn K mainGlobals "range" = some none)
    (z12 : PySem.W.nsIn K mainGlobals "isinstance" = some none)
    (z13 : PySem.W.nsIn K mainGlobals "bool" = some none)
    (z14 : PySem.W.nsIn K mainGlobals "dict" = some none)
    (z15 : PySem.W.nsIn K mainGlobals "repr" = some none)
    (z16 : PySem.W.nsIn K mainGlobals "sorted" = some none)
    (z17 : PySem.W.nsIn K mainGlobals "zip" = some none)
    (z18 : PySem.W.nsIn K mainGlobals "enumerate" = some none)
    (z19 : PySem.W.nsIn K mainGlobals "reversed" = some none)
    (hg9 : PySem.W.nsIn K mainGlobals "GROUND" = some (some (.ref ga9)))
    (gl9 : K.lookup ga9 = some ⟨.type "tuple", gd9, .seq gi9 gn9, gs9⟩)
    (gv9 : ((valsOf gi9.toList).bind flatOf = some ([.int 0, .int 0])) ∧ gi9.size ≤ sizeLine)
    (hg10 : PySem.W.nsIn K mainGlobals "KINDS" = some (some (.ref ga10)))
    (gk10 : He.dicW K ga10 = some (He.keysIn w.params ["pair", "write", "either", "all", "match", "sorted", "below"]))
    (gv10_0 : PySem.W.nsIn K ga10 "pair" = some (some (.int 3 gt10_0)))
    (gv10_1 : PySem.W.nsIn K ga10 "write" = some (some (.int 2 gt10_1)))
    (gv10_2 : PySem.W.nsIn K ga10 "either" = some (some (.int 2 gt10_2)))
    (gv10_3 : PySem.W.nsIn K ga10 "all" = some (some (.int 3 gt10_3)))
    (gv10_4 : PySem.W.nsIn K ga10 "match" = some (some (.int 3 gt10_4)))
    (gv10_5 : PySem.W.nsIn K ga10 "sorted" = some (some (.int 4 gt10_5)))
    (gv10_6 : PySem.W.nsIn K ga10 "below" = some (some (.int 4 gt10_6))) :
    ∃ Cl : Nat → Addr, PFacts w P T Cl ts K mg ∧ ∃ fd : FuncData, (∀ (s : Shared) (v : Value), BindsTo s fd ⟨[v], []⟩ [("_law_script", v)]) ∧ Fun K "law" "law" t229.st fa fd := by
  have e := hfa.symm.trans (PySem.W.mg_of X G a229)
  cases e
  refine ⟨fun c => (([(9, C9)] : List (Nat × Addr)).lookup c).getD 0, ⟨fun x hx => ?_, fun g d hg => ?_, fun f F hf => ?_, fun f x hx => ?_, fun c x hx => ?_, fun c m f hx => ?_, fun c f hx => ?_, fun g x hx => ?_, fun c x hx => ?_, fun c x hx => ?_, fun f t hx => ?_, fun c d b hx => ?_, fun c x hx => ?_⟩, PySem.W.fnOf "law" "law" (defArgs t229.st) (defBody t229.st) (defScope t229.st) .none kV229 dc229 pm229 an229 cd229 ct229, fun s v => .of_eq rfl, fun_mk (st := t229.st) l229 c229 k229⟩
  · simp only [bltNames, List.mem_cons, List.not_mem_nil, or_false] at hx
    rcases hx with rfl | rfl | rfl | rfl | rfl | rfl | rfl | rfl | rfl | rfl | rfl | rfl | rfl | rfl | rfl | rfl | rfl | rfl | rfl | rfl
    · exact PySem.W.mg_none_of X G z0
    · exact PySem.W.mg_none_of X G z1
    · exact PySem.W.mg_none_of X G z2
    · exact PySem.W.mg_none_of X G z3
    · exact PySem.W.mg_none_of X G z4
    · exact PySem.W.mg_none_of X G z5
    · exact PySem.W.mg_none_of X G z6
    · exact PySem.W.mg_none_of X G z7
    · exact PySem.W.mg_none_of X G z8
    · exact PySem.W.mg_none_of X G z9
    · exact PySem.W.mg_none_of X G z10
    · exact PySem.W.mg_none_of X G z11
    · exact PySem.W.mg_none_of X G z12
    · exact PySem.W.mg_none_of X G z13
    · exact PySem.W.mg_none_of X G z14
    · exact PySem.W.mg_none_of X G z15
    · exact PySem.W.mg_none_of X G z16
    · exact PySem.W.mg_none_of X G z17
    · exact PySem.W.mg_none_of X G z18
    · exact PySem.W.mg_none_of X G z19
  · refine look_all (G := fun g d => ∃ u v, mg (T.gname g) = some u ∧ RelV v u ∧ ∀ cs F, Rep K cs F v d) ?_ hg
    have gg9 : ∃ u v, mg (T.gname 9) = some u ∧ RelV v u ∧ ∀ cs F, Rep K cs F v (.tup [.int 0, .int 0]) := (by obtain ⟨vs, h1, h2⟩ := Option.bind_eq_some_iff.mp gv9.1; exact ⟨_, .ref ga9, PySem.W.mg_of X G hg9, rfl, tup_glob gl9 gv9.2 h1 h2⟩)
    exact (And.intro gg9 trivial)
  · refine look_all (G := fun f F => ∃ t a fd qual, ts f = some t ∧ Fun K t.name qual t.st a fd ∧ agF T t F = true ∧ Binds K fd t.ps [] ∧ ∀ x, T.fname f = some x → mg x = some (.ref a) ∧ PySem.W.keepIn K (.ref a) = true) ?_ hf
    have g194 : (fun f F => ∃ t a fd qual, ts f = some t ∧ Fun K t.name qual t.st a fd ∧ agF T t F = true ∧ Binds K fd t.ps [] ∧ ∀ x, T.fname f = some x → mg x = some (.ref a) ∧ PySem.W.keepIn K (.ref a) = true) 194 ⟨2, 2, Kq.b_shifted⟩ := by
      have F := fun_mk (st := t194.st) l194 c194 k194
      exact ⟨t194, _, _, _, rfl, F, ag194, F.binds (ps := ["form", "plus"]) fun _ _ _ _ _ _ us hl => match us, hl with | [_, _], _ => rfl, fun x hx => by cases hx; exact ⟨PySem.W.mg_of X G a194, k194⟩⟩
    have g191 : (fun f F => ∃ t a fd qual, ts f = some t ∧ Fun K t.name qual t.st a fd ∧ agF T t F = true ∧ Binds K fd t.ps [] ∧ ∀ x, T.fname f = some x → mg x = some (.ref a) ∧ PySem.W.keepIn K (.ref a) = true) 191 ⟨2, 2, Kq.b_less⟩ := by
      have F := fun_mk (st := t191.st) l191 c191 k191
      exact ⟨t191, _, _, _, rfl, F, ag191, F.binds (ps := ["f", "g"]) fun _ _ _ _ _ _ us hl => match us, hl with | [_, _], _ => rfl, fun x hx => by cases hx; exact ⟨PySem.W.mg_of X G a191, k191⟩⟩
    have g192 : (fun f F => ∃ t a fd qual, ts f = some t ∧ Fun K t.name qual t.st a fd ∧ agF T t F = true ∧ Binds K fd t.ps [] ∧ ∀ x, T.fname f = some x → mg x = some (.ref a) ∧ PySem.W.keepIn K (.ref a) = true) 192 ⟨2, 2, Kq.b_at_most⟩ := by
      have F := fun_mk (st := t192.st) l192 c192 k192
      exact ⟨t192, _, _, _, rfl, F, ag192, F.binds (ps := ["f", "g"]) fun _ _ _ _ _ _ us hl => match us, hl with | [_, _], _ => rfl, fun x hx => by cases hx; exact ⟨PySem.W.mg_of X G a192, k192⟩⟩
    have g193 : (fun f F => ∃ t a fd qual, ts f = some t ∧ Fun K t.name qual t.st a fd ∧ agF T t F = true ∧ Binds K fd t.ps [] ∧ ∀ x, T.fname f = some x → mg x = some (.ref a) ∧ PySem.W.keepIn K (.ref a) = true) 193 ⟨1, 4, Kq.b_opposite⟩ := by
      have F := fun_mk (st := t193.st) l193 c193 k193
      exact ⟨t193, _, _, _, rfl, F, ag193, F.binds (ps := ["difference"]) fun _ _ _ _ _ _ us hl => match us, hl with | [_], _ => rfl, fun x hx => by cases hx; exact ⟨PySem.W.mg_of X G a193, k193⟩⟩
    have g195 : (fun f F => ∃ t a fd qual, ts f = some t ∧ Fun K t.name qual t.st a fd ∧ agF T t F = true ∧ Binds K fd t.ps [] ∧ ∀ x, T.fname f = some x → mg x = some (.ref a) ∧ PySem.W.keepIn K (.ref a) = true) 195 ⟨7, 7, Kq.b_Known___init__⟩ := by
      have F := fun_mk (st := t195.st) l195 c195 k195
      exact ⟨t195, _, _, _, rfl, F, ag195, F.binds (ps := ["self", "many", "differences", "lists", "cells", "taken", "fresh"]) fun _ _ _ _ _ _ us hl => match us, hl with | [_, _, _, _, _, _, _], _ => rfl, fun x hx => by cases hx⟩
    have g196 : (fun f F => ∃ t a fd qual, ts f = some t ∧ Fun K t.name qual t.st a fd ∧ agF T t F = true ∧ Binds K fd t.ps [] ∧ ∀ x, T.fname f = some x → mg x = some (.ref a) ∧ PySem.W.keepIn K (.ref a) = true) 196 ⟨1, 1, Kq.b_Known_new_number⟩ := by
      have F := fun_mk (st := t196.st) l196 c196 k196
      exact ⟨t196, _, _, _, rfl, F, ag196, F.binds (ps := ["self"]) fun _ _ _ _ _ _ us hl => match us, hl with | [_], _ => rfl, fun x hx => by cases hx⟩
    have g197 : (fun f F => ∃ t a fd qual, ts f = some t ∧ Fun K t.name qual t.st a fd ∧ agF T t F = true ∧ Binds K fd t.ps [] ∧ ∀ x, T.fname f = some x → mg x = some (.ref a) ∧ PySem.W.keepIn K (.ref a) = true) 197 ⟨2, 2, Kq.b_Known_length⟩ := by
      have F := fun_mk (st := t197.st) l197 c197 k197
      exact ⟨t197, _, _, _, rfl, F, ag197, F.binds (ps := ["self", "number"]) fun _ _ _ _ _ _ us hl => match us, hl with | [_, _], _ => rfl, fun x hx => by cases hx⟩
    have g198 : (fun f F => ∃ t a fd qual, ts f = some t ∧ Fun K t.name qual t.st a fd ∧ agF T t F = true ∧ Binds K fd t.ps [] ∧ ∀ x, T.fname f = some x → mg x = some (.ref a) ∧ PySem.W.keepIn K (.ref a) = true) 198 ⟨3, 6, Kq.b_Known_cell⟩ := by
      have F := fun_mk (st := t198.st) l198 c198 k198
      exact ⟨t198, _, _, _, rfl, F, ag198, F.binds (ps := ["self", "number", "index"]) fun _ _ _ _ _ _ us hl => match us, hl with | [_, _, _], _ => rfl, fun x hx => by cases hx⟩
    have g167 : (fun f F => ∃ t a fd qual, ts f = some t ∧ Fun K t.name qual t.st a fd ∧ agF T t F = true ∧ Binds K fd t.ps [] ∧ ∀ x, T.fname f = some x → mg x = some (.ref a) ∧ PySem.W.keepIn K (.ref a) = true) 167 ⟨2, 2, Kg.b_law_cell⟩ := by
      have F := fun_mk (st := t167.st) l167 c167 k167
      exact ⟨t167, _, _, _, rfl, F, ag167, F.binds (ps := ["_law_script", "_law_k"]) fun _ _ _ _ _ _ us hl => match us, hl with | [_, _], _ => rfl, fun x hx => by cases hx; exact ⟨PySem.W.mg_of X G a167, k167⟩⟩
    have g168 : (fun f F => ∃ t a fd qual, ts f = some t ∧ Fun K t.name qual t.st a fd ∧ agF T t F = true ∧ Binds K fd t.ps [] ∧ ∀ x, T.fname f = some x → mg x = some (.ref a) ∧ PySem.W.keepIn K (.ref a) = true) 168 ⟨3, 10, Kg.b_law_draws⟩ := by
      have F := fun_mk (st := t168.st) l168 c168 k168
      exact ⟨t168, _, _, _, rfl, F, ag168, F.binds (ps := ["_law_script", "_law_place", "_law_sizes"]) fun _ _ _ _ _ _ us hl => match us, hl with | [_, _, _], _ => rfl, fun x hx => by cases hx; exact ⟨PySem.W.mg_of X G a168, k168⟩⟩
    have g169 : (fun f F => ∃ t a fd qual, ts f = some t ∧ Fun K t.name qual t.st a fd ∧ agF T t F = true ∧ Binds K fd t.ps [] ∧ ∀ x, T.fname f = some x → mg x = some (.ref a) ∧ PySem.W.keepIn K (.ref a) = true) 169 ⟨2, 2, Kg.b_law_at_most⟩ := by
      have F := fun_mk (st := t169.st) l169 c169 k169
      exact ⟨t169, _, _, _, rfl, F, ag169, F.binds (ps := ["_law_f", "_law_g"]) fun _ _ _ _ _ _ us hl => match us, hl with | [_, _], _ => rfl, fun x hx => by cases hx; exact ⟨PySem.W.mg_of X G a169, k169⟩⟩
    have g170 : (fun f F => ∃ t a fd qual, ts f = some t ∧ Fun K t.name qual t.st a fd ∧ agF T t F = true ∧ Binds K fd t.ps [] ∧ ∀ x, T.fname f = some x → mg x = some (.ref a) ∧ PySem.W.keepIn K (.ref a) = true) 170 ⟨2, 2, Kg.b_law_of⟩ := by
      have F := fun_mk (st := t170.st) l170 c170 k170
      exact ⟨t170, _, _, _, rfl, F, ag170, F.binds (ps := ["_law_form", "_law_values"]) fun _ _ _ _ _ _ us hl => match us, hl with | [_, _], _ => rfl, fun x hx => by cases hx; exact ⟨PySem.W.mg_of X G a170, k170⟩⟩
    have g171 : (fun f F => ∃ t a fd qual, ts f = some t ∧ Fun K t.name qual t.st a fd ∧ agF T t F = true ∧ Binds K fd t.ps [] ∧ ∀ x, T.fname f = some x → mg x = some (.ref a) ∧ PySem.W.keepIn K (.ref a) = true) 171 ⟨2, 3, Kg.b_law_length⟩ := by
      have F := fun_mk (st := t171.st) l171 c171 k171
      exact ⟨t171, _, _, _, rfl, F, ag171, F.binds (ps := ["_law_lists_here", "_law_number"]) fun _ _ _ _ _ _ us hl => match us, hl with | [_, _], _ => rfl, fun x hx => by cases hx; exact ⟨PySem.W.mg_of X G a171, k171⟩⟩
    have g173 : (fun f F => ∃ t a fd qual, ts f = some t ∧ Fun K t.name qual t.st a fd ∧ agF T t F = true ∧ Binds K fd t.ps [] ∧ ∀ x, T.fname f = some x → mg x = some (.ref a) ∧ PySem.W.keepIn K (.ref a) = true) 173 ⟨3, 4, Kg.b_law_form_for⟩ := by
      have F := fun_mk (st := t173.st) l173 c173 k173
      exact ⟨t173, _, _, _, rfl, F, ag173, F.binds (ps := ["_law_draw", "_law_values", "_law_target"]) fun _ _ _ _ _ _ us hl => match us, hl with | [_, _, _], _ => rfl, fun x hx => by cases hx; exact ⟨PySem.W.mg_of X G a173, k173⟩⟩
    have g174 : (fun f F => ∃ t a fd qual, ts f = some t ∧ Fun K t.name qual t.st a fd ∧ agF T t F = true ∧ Binds K fd t.ps [] ∧ ∀ x, T.fname f = some x → mg x = some (.ref a) ∧ PySem.W.keepIn K (.ref a) = true) 174 ⟨2, 5, Kg.b_law_base⟩ := by
      have F := fun_mk (st := t174.st) l174 c174 k174
      exact ⟨t174, _, _, _, rfl, F, ag174, F.binds (ps := ["_law_rule", "_law_k"]) fun _ _ _ _ _ _ us hl => match us, hl with | [_, _], _ => rfl, fun x hx => by cases hx; exact ⟨PySem.W.mg_of X G a174, k174⟩⟩
    have g175 : (fun f F => ∃ t a fd qual, ts f = some t ∧ Fun K t.name qual t.st a fd ∧ agF T t F = true ∧ Binds K fd t.ps [] ∧ ∀ x, T.fname f = some x → mg x = some (.ref a) ∧ PySem.W.keepIn K (.ref a) = true) 175 ⟨3, 8, Kg.b_law_there⟩ := by
      have F := fun_mk (st := t175.st) l175 c175 k175
      exact ⟨t175, _, _, _, rfl, F, ag175, F.binds (ps := ["_law_world_here", "_law_number", "_law_k"]) fun _ _ _ _ _ _ us hl => match us, hl with | [_, _, _], _ => rfl, fun x hx => by cases hx; exact ⟨PySem.W.mg_of X G a175, k175⟩⟩
    have g176 : (fun f F => ∃ t a fd qual, ts f = some t ∧ Fun K t.name qual t.st a fd ∧ agF T t F = true ∧ Binds K fd t.ps [] ∧ ∀ x, T.fname f = some x → mg x = some (.ref a) ∧ PySem.W.keepIn K (.ref a) = true) 176 ⟨3, 11, Kg.b_law_lists⟩ := by
      have F := fun_mk (st := t176.st) l176 c176 k176
      exact ⟨t176, _, _, _, rfl, F, ag176, F.binds (ps := ["_law_script", "_law_count", "_law_values"]) fun _ _ _ _ _ _ us hl => match us, hl with | [_, _, _], _ => rfl, fun x hx => by cases hx; exact ⟨PySem.W.mg_of X G a176, k176⟩⟩
    have g149 : (fun f F => ∃ t a fd qual, ts f = some t ∧ Fun K t.name qual t.st a fd ∧ agF T t F = true ∧ Binds K fd t.ps [] ∧ ∀ x, T.fname f = some x → mg x = some (.ref a) ∧ PySem.W.keepIn K (.ref a) = true) 149 ⟨3, 4, Kg.b_law_compared⟩ := by
      have F := fun_mk (st := t149.st) l149 c149 k149
      exact ⟨t149, _, _, _, rfl, F, ag149, F.binds (ps := ["_law_sign", "_law_left", "_law_right"]) fun _ _ _ _ _ _ us hl => match us, hl with | [_, _, _], _ => rfl, fun x hx => by cases hx; exact ⟨PySem.W.mg_of X G a149, k149⟩⟩
    have g177 : (fun f F => ∃ t a fd qual, ts f = some t ∧ Fun K t.name qual t.st a fd ∧ agF T t F = true ∧ Binds K fd t.ps [] ∧ ∀ x, T.fname f = some x → mg x = some (.ref a) ∧ PySem.W.keepIn K (.ref a) = true) 177 ⟨4, 8, Kg.b_law_range⟩ := by
      have F := fun_mk (st := t177.st) l177 c177 k177
      exact ⟨t177, _, _, _, rfl, F, ag177, F.binds (ps := ["_law_world_here", "_law_number", "_law_lo", "_law_hi"]) fun _ _ _ _ _ _ us hl => match us, hl with | [_, _, _, _], _ => rfl, fun x hx => by cases hx; exact ⟨PySem.W.mg_of X G a177, k177⟩⟩
    have g178 : (fun f F => ∃ t a fd qual, ts f = some t ∧ Fun K t.name qual t.st a fd ∧ agF T t F = true ∧ Binds K fd t.ps [] ∧ ∀ x, T.fname f = some x → mg x = some (.ref a) ∧ PySem.W.keepIn K (.ref a) = true) 178 ⟨2, 17, Kg.b_law_true⟩ := by
      have F := fun_mk (st := t178.st) l178 c178 k178
      exact ⟨t178, _, _, _, rfl, F, ag178, F.binds (ps := ["_law_world_here", "_law_promise_here"]) fun _ _ _ _ _ _ us hl => match us, hl with | [_, _], _ => rfl, fun x hx => by cases hx; exact ⟨PySem.W.mg_of X G a178, k178⟩⟩
    have g200 : (fun f F => ∃ t a fd qual, ts f = some t ∧ Fun K t.name qual t.st a fd ∧ agF T t F = true ∧ Binds K fd t.ps [] ∧ ∀ x, T.fname f = some x → mg x = some (.ref a) ∧ PySem.W.keepIn K (.ref a) = true) 200 ⟨3, 3, Sp.b_sign_ways⟩ := by
      have F := fun_mk (st := t200.st) l200 c200 k200
      exact ⟨t200, _, _, _, rfl, F, ag200, F.binds (ps := ["sign", "left", "right"]) fun _ _ _ _ _ _ us hl => match us, hl with | [_, _, _], _ => rfl, fun x hx => by cases hx; exact ⟨PySem.W.mg_of X G a200, k200⟩⟩
    have g201 : (fun f F => ∃ t a fd qual, ts f = some t ∧ Fun K t.name qual t.st a fd ∧ agF T t F = true ∧ Binds K fd t.ps [] ∧ ∀ x, T.fname f = some x → mg x = some (.ref a) ∧ PySem.W.keepIn K (.ref a) = true) 201 ⟨2, 2, Sp.b_equal⟩ := by
      have F := fun_mk (st := t201.st) l201 c201 k201
      exact ⟨t201, _, _, _, rfl, F, ag201, F.binds (ps := ["left", "right"]) fun _ _ _ _ _ _ us hl => match us, hl with | [_, _], _ => rfl, fun x hx => by cases hx; exact ⟨PySem.W.mg_of X G a201, k201⟩⟩
    have g202 : (fun f F => ∃ t a fd qual, ts f = some t ∧ Fun K t.name qual t.st a fd ∧ agF T t F = true ∧ Binds K fd t.ps [] ∧ ∀ x, T.fname f = some x → mg x = some (.ref a) ∧ PySem.W.keepIn K (.ref a) = true) 202 ⟨2, 6, Sp.b_parted⟩ := by
      have F := fun_mk (st := t202.st) l202 c202 k202
      exact ⟨t202, _, _, _, rfl, F, ag202, F.binds (ps := ["tests", "last"]) fun _ _ _ _ _ _ us hl => match us, hl with | [_, _], _ => rfl, fun x hx => by cases hx; exact ⟨PySem.W.mg_of X G a202, k202⟩⟩
    have g203 : (fun f F => ∃ t a fd qual, ts f = some t ∧ Fun K t.name qual t.st a fd ∧ agF T t F = true ∧ Binds K fd t.ps [] ∧ ∀ x, T.fname f = some x → mg x = some (.ref a) ∧ PySem.W.keepIn K (.ref a) = true) 203 ⟨2, 2, Sp.b_outside⟩ := by
      have F := fun_mk (st := t203.st) l203 c203 k203
      exact ⟨t203, _, _, _, rfl, F, ag203, F.binds (ps := ["index", "length"]) fun _ _ _ _ _ _ us hl => match us, hl with | [_, _], _ => rfl, fun x hx => by cases hx; exact ⟨PySem.W.mg_of X G a203, k203⟩⟩
    have g204 : (fun f F => ∃ t a fd qual, ts f = some t ∧ Fun K t.name qual t.st a fd ∧ agF T t F = true ∧ Binds K fd t.ps [] ∧ ∀ x, T.fname f = some x → mg x = some (.ref a) ∧ PySem.W.keepIn K (.ref a) = true) 204 ⟨3, 7, Sp.b_pair_ways⟩ := by
      have F := fun_mk (st := t204.st) l204 c204 k204
      exact ⟨t204, _, _, _, rfl, F, ag204, F.binds (ps := ["known", "m", "n"]) fun _ _ _ _ _ _ us hl => match us, hl with | [_, _, _], _ => rfl, fun x hx => by cases hx; exact ⟨PySem.W.mg_of X G a204, k204⟩⟩
    have g205 : (fun f F => ∃ t a fd qual, ts f = some t ∧ Fun K t.name qual t.st a fd ∧ agF T t F = true ∧ Binds K fd t.ps [] ∧ ∀ x, T.fname f = some x → mg x = some (.ref a) ∧ PySem.W.keepIn K (.ref a) = true) 205 ⟨2, 11, Sp.b_write_ways⟩ := by
      have F := fun_mk (st := t205.st) l205 c205 k205
      exact ⟨t205, _, _, _, rfl, F, ag205, F.binds (ps := ["known", "m"]) fun _ _ _ _ _ _ us hl => match us, hl with | [_, _], _ => rfl, fun x hx => by cases hx; exact ⟨PySem.W.mg_of X G a205, k205⟩⟩
    have g206 : (fun f F => ∃ t a fd qual, ts f = some t ∧ Fun K t.name qual t.st a fd ∧ agF T t F = true ∧ Binds K fd t.ps [] ∧ ∀ x, T.fname f = some x → mg x = some (.ref a) ∧ PySem.W.keepIn K (.ref a) = true) 206 ⟨3, 10, Sp.b_all_ways⟩ := by
      have F := fun_mk (st := t206.st) l206 c206 k206
      exact ⟨t206, _, _, _, rfl, F, ag206, F.binds (ps := ["known", "promise", "f"]) fun _ _ _ _ _ _ us hl => match us, hl with | [_, _, _], _ => rfl, fun x hx => by cases hx; exact ⟨PySem.W.mg_of X G a206, k206⟩⟩
    have g207 : (fun f F => ∃ t a fd qual, ts f = some t ∧ Fun K t.name qual t.st a fd ∧ agF T t F = true ∧ Binds K fd t.ps [] ∧ ∀ x, T.fname f = some x → mg x = some (.ref a) ∧ PySem.W.keepIn K (.ref a) = true) 207 ⟨3, 12, Sp.b_match_ways⟩ := by
      have F := fun_mk (st := t207.st) l207 c207 k207
      exact ⟨t207, _, _, _, rfl, F, ag207, F.binds (ps := ["known", "promise", "f"]) fun _ _ _ _ _ _ us hl => match us, hl with | [_, _, _], _ => rfl, fun x hx => by cases hx; exact ⟨PySem.W.mg_of X G a207, k207⟩⟩
    have g208 : (fun f F => ∃ t a fd qual, ts f = some t ∧ Fun K t.name qual t.st a fd ∧ agF T t F = true ∧ Binds K fd t.ps [] ∧ ∀ x, T.fname f = some x → mg x = some (.ref a) ∧ PySem.W.keepIn K (.ref a) = true) 208 ⟨4, 10, Sp.b_sorted_ways⟩ := by
      have F := fun_mk (st := t208.st) l208 c208 k208
      exact ⟨t208, _, _, _, rfl, F, ag208, F.binds (ps := ["known", "promise", "f", "g"]) fun _ _ _ _ _ _ us hl => match us, hl with | [_, _, _, _], _ => rfl, fun x hx => by cases hx; exact ⟨PySem.W.mg_of X G a208, k208⟩⟩
    have g209 : (fun f F => ∃ t a fd qual, ts f = some t ∧ Fun K t.name qual t.st a fd ∧ agF T t F = true ∧ Binds K fd t.ps [] ∧ ∀ x, T.fname f = some x → mg x = some (.ref a) ∧ PySem.W.keepIn K (.ref a) = true) 209 ⟨4, 13, Sp.b_below_ways⟩ := by
      have F := fun_mk (st := t209.st) l209 c209 k209
      exact ⟨t209, _, _, _, rfl, F, ag209, F.binds (ps := ["known", "promise", "f", "g"]) fun _ _ _ _ _ _ us hl => match us, hl with | [_, _, _, _], _ => rfl, fun x hx => by cases hx; exact ⟨PySem.W.mg_of X G a209, k209⟩⟩
    have g210 : (fun f F => ∃ t a fd qual, ts f = some t ∧ Fun K t.name qual t.st a fd ∧ agF T t F = true ∧ Binds K fd t.ps [] ∧ ∀ x, T.fname f = some x → mg x = some (.ref a) ∧ PySem.W.keepIn K (.ref a) = true) 210 ⟨2, 4, Sp.b_is_row⟩ := by
      have F := fun_mk (st := t210.st) l210 c210 k210
      exact ⟨t210, _, _, _, rfl, F, ag210, F.binds (ps := ["numbers", "bounds"]) fun _ _ _ _ _ _ us hl => match us, hl with | [_, _], _ => rfl, fun x hx => by cases hx; exact ⟨PySem.W.mg_of X G a210, k210⟩⟩
    have g211 : (fun f F => ∃ t a fd qual, ts f = some t ∧ Fun K t.name qual t.st a fd ∧ agF T t F = true ∧ Binds K fd t.ps [] ∧ ∀ x, T.fname f = some x → mg x = some (.ref a) ∧ PySem.W.keepIn K (.ref a) = true) 211 ⟨3, 7, Sp.b_fits⟩ := by
      have F := fun_mk (st := t211.st) l211 c211 k211
      exact ⟨t211, _, _, _, rfl, F, ag211, F.binds (ps := ["known", "indexes", "split"]) fun _ _ _ _ _ _ us hl => match us, hl with | [_, _, _], _ => rfl, fun x hx => by cases hx; exact ⟨PySem.W.mg_of X G a211, k211⟩⟩
    have g212 : (fun f F => ∃ t a fd qual, ts f = some t ∧ Fun K t.name qual t.st a fd ∧ agF T t F = true ∧ Binds K fd t.ps [] ∧ ∀ x, T.fname f = some x → mg x = some (.ref a) ∧ PySem.W.keepIn K (.ref a) = true) 212 ⟨3, 5, Sp.b_split_ways⟩ := by
      have F := fun_mk (st := t212.st) l212 c212 k212
      exact ⟨t212, _, _, _, rfl, F, ag212, F.binds (ps := ["known", "indexes", "split"]) fun _ _ _ _ _ _ us hl => match us, hl with | [_, _, _], _ => rfl, fun x hx => by cases hx; exact ⟨PySem.W.mg_of X G a212, k212⟩⟩
    have g172 : (fun f F => ∃ t a fd qual, ts f = some t ∧ Fun K t.name qual t.st a fd ∧ agF T t F = true ∧ Binds K fd t.ps [] ∧ ∀ x, T.fname f = some x → mg x = some (.ref a) ∧ PySem.W.keepIn K (.ref a) = true) 172 ⟨1, 1, Kx.b_law_small⟩ := by
      have F := fun_mk (st := t172.st) l172 c172 k172
      exact ⟨t172, _, _, _, rfl, F, ag172, F.binds (ps := ["_law_draw"]) fun _ _ _ _ _ _ us hl => match us, hl with | [_], _ => rfl, fun x hx => by cases hx; exact ⟨PySem.W.mg_of X G a172, k172⟩⟩
    have g179 : (fun f F => ∃ t a fd qual, ts f = some t ∧ Fun K t.name qual t.st a fd ∧ agF T t F = true ∧ Binds K fd t.ps [] ∧ ∀ x, T.fname f = some x → mg x = some (.ref a) ∧ PySem.W.keepIn K (.ref a) = true) 179 ⟨2, 9, Kx.b_law_loose⟩ := by
      have F := fun_mk (st := t179.st) l179 c179 k179
      exact ⟨t179, _, _, _, rfl, F, ag179, F.binds (ps := ["_law_draws_here", "_law_values"]) fun _ _ _ _ _ _ us hl => match us, hl with | [_, _], _ => rfl, fun x hx => by cases hx; exact ⟨PySem.W.mg_of X G a179, k179⟩⟩
    have g180 : (fun f F => ∃ t a fd qual, ts f = some t ∧ Fun K t.name qual t.st a fd ∧ agF T t F = true ∧ Binds K fd t.ps [] ∧ ∀ x, T.fname f = some x → mg x = some (.ref a) ∧ PySem.W.keepIn K (.ref a) = true) 180 ⟨3, 24, Kx.b_law_promise⟩ := by
      have F := fun_mk (st := t180.st) l180 c180 k180
      exact ⟨t180, _, _, _, rfl, F, ag180, F.binds (ps := ["_law_script", "_law_place", "_law_world_here"]) fun _ _ _ _ _ _ us hl => match us, hl with | [_, _, _], _ => rfl, fun x hx => by cases hx; exact ⟨PySem.W.mg_of X G a180, k180⟩⟩
    have g226 : (fun f F => ∃ t a fd qual, ts f = some t ∧ Fun K t.name qual t.st a fd ∧ agF T t F = true ∧ Binds K fd t.ps [] ∧ ∀ x, T.fname f = some x → mg x = some (.ref a) ∧ PySem.W.keepIn K (.ref a) = true) 226 ⟨3, 21, Kx.b_law_world⟩ := by
      have F := fun_mk (st := t226.st) l226 c226 k226
      exact ⟨t226, _, _, _, rfl, F, ag226, F.binds (ps := ["_law_script", "_law_most", "_law_taken"]) fun _ _ _ _ _ _ us hl => match us, hl with | [_, _, _], _ => rfl, fun x hx => by cases hx; exact ⟨PySem.W.mg_of X G a226, k226⟩⟩
    have g185 : (fun f F => ∃ t a fd qual, ts f = some t ∧ Fun K t.name qual t.st a fd ∧ agF T t F = true ∧ Binds K fd t.ps [] ∧ ∀ x, T.fname f = some x → mg x = some (.ref a) ∧ PySem.W.keepIn K (.ref a) = true) 185 ⟨2, 8, Kk.b_law_indexes⟩ := by
      have F := fun_mk (st := t185.st) l185 c185 k185
      exact ⟨t185, _, _, _, rfl, F, ag185, F.binds (ps := ["_law_known", "_law_fresh"]) fun _ _ _ _ _ _ us hl => match us, hl with | [_, _], _ => rfl, fun x hx => by cases hx; exact ⟨PySem.W.mg_of X G a185, k185⟩⟩
    have g222 : (fun f F => ∃ t a fd qual, ts f = some t ∧ Fun K t.name qual t.st a fd ∧ agF T t F = true ∧ Binds K fd t.ps [] ∧ ∀ x, T.fname f = some x → mg x = some (.ref a) ∧ PySem.W.keepIn K (.ref a) = true) 222 ⟨2, 3, K17.b_law_made⟩ := by
      have F := fun_mk (st := t222.st) l222 c222 k222
      exact ⟨t222, _, _, _, rfl, F, ag222, F.binds (ps := ["_law_world_here", "_law_fresh"]) fun _ _ _ _ _ _ us hl => match us, hl with | [_, _], _ => rfl, fun x hx => by cases hx; exact ⟨PySem.W.mg_of X G a222, k222⟩⟩
    have g227 : (fun f F => ∃ t a fd qual, ts f = some t ∧ Fun K t.name qual t.st a fd ∧ agF T t F = true ∧ Binds K fd t.ps [] ∧ ∀ x, T.fname f = some x → mg x = some (.ref a) ∧ PySem.W.keepIn K (.ref a) = true) 227 ⟨3, 9, K17.b_law_splits⟩ := by
      have F := fun_mk (st := t227.st) l227 c227 k227
      exact ⟨t227, _, _, _, rfl, F, ag227, F.binds (ps := ["_law_known", "_law_indexes_here", "_law_draws_here"]) fun _ _ _ _ _ _ us hl => match us, hl with | [_, _, _], _ => rfl, fun x hx => by cases hx; exact ⟨PySem.W.mg_of X G a227, k227⟩⟩
    have g228 : (fun f F => ∃ t a fd qual, ts f = some t ∧ Fun K t.name qual t.st a fd ∧ agF T t F = true ∧ Binds K fd t.ps [] ∧ ∀ x, T.fname f = some x → mg x = some (.ref a) ∧ PySem.W.keepIn K (.ref a) = true) 228 ⟨2, 5, K17.b_law_kept⟩ := by
      have F := fun_mk (st := t228.st) l228 c228 k228
      exact ⟨t228, _, _, _, rfl, F, ag228, F.binds (ps := ["_law_way", "_law_values"]) fun _ _ _ _ _ _ us hl => match us, hl with | [_, _], _ => rfl, fun x hx => by cases hx; exact ⟨PySem.W.mg_of X G a228, k228⟩⟩
    have g229 : (fun f F => ∃ t a fd qual, ts f = some t ∧ Fun K t.name qual t.st a fd ∧ agF T t F = true ∧ Binds K fd t.ps [] ∧ ∀ x, T.fname f = some x → mg x = some (.ref a) ∧ PySem.W.keepIn K (.ref a) = true) 229 ⟨1, 20, K17.b_law⟩ := by
      have F := fun_mk (st := t229.st) l229 c229 k229
      exact ⟨t229, _, _, _, rfl, F, ag229, F.binds (ps := ["_law_script"]) fun _ _ _ _ _ _ us hl => match us, hl with | [_], _ => rfl, fun x hx => by cases hx; exact ⟨PySem.W.mg_of X G a229, k229⟩⟩
    exact (And.intro g194 (And.intro g191 (And.intro g192 (And.intro g193 (And.intro g195 (And.intro g196 (And.intro g197 (And.intro g198 (And.intro g167 (And.intro g168 (And.intro g169 (And.intro g170 (And.intro g171 (And.intro g173 (And.intro g174 (And.intro g175 (And.intro g176 (And.intro g149 (And.intro g177 (And.intro g178 (And.intro g200 (And.intro g201 (And.intro g202 (And.intro g203 (And.intro g204 (And.intro g205 (And.intro g206 (And.intro g207 (And.intro g208 (And.intro g209 (And.intro g210 (And.intro g211 (And.intro g212 (And.intro g172 (And.intro g179 (And.intro g180 (And.intro g226 (And.intro g185 (And.intro g222 (And.intro g227 (And.intro g228 (And.intro g229 trivial))))))))))))))))))))))))))))))))))))))))))
  · refine look_all (G := fun f x => (∃ F, P.fns.lookup f = some F) ∨ ∃ t, P.tryf.lookup f = some t) ?_ hx
    exact (And.intro (.inl ⟨_, rfl⟩) (And.intro (.inl ⟨_, rfl⟩) (And.intro (.inl ⟨_, rfl⟩) (And.intro (.inl ⟨_, rfl⟩) (And.intro (.inl ⟨_, rfl⟩) (And.intro (.inl ⟨_, rfl⟩) (And.intro (.inl ⟨_, rfl⟩) (And.intro (.inl ⟨_, rfl⟩) (And.intro (.inl ⟨_, rfl⟩) (And.intro (.inl ⟨_, rfl⟩) (And.intro (.inl ⟨_, rfl⟩) (And.intro (.inl ⟨_, rfl⟩) (And.intro (.inl ⟨_, rfl⟩) (And.intro (.inl ⟨_, rfl⟩) (And.intro (.inl ⟨_, rfl⟩) (And.intro (.inl ⟨_, rfl⟩) (And.intro (.inl ⟨_, rfl⟩) (And.intro (.inl ⟨_, rfl⟩) (And.intro (.inl ⟨_, rfl⟩) (And.intro (.inl ⟨_, rfl⟩) (And.intro (.inl ⟨_, rfl⟩) (And.intro (.inl ⟨_, rfl⟩) (And.intro (.inl ⟨_, rfl⟩) (And.intro (.inl ⟨_, rfl⟩) (And.intro (.inl ⟨_, rfl⟩) (And.intro (.inl ⟨_, rfl⟩) (And.intro (.inl ⟨_, rfl⟩) (And.intro (.inl ⟨_, rfl⟩) (And.intro (.inl ⟨_, rfl⟩) (And.intro (.inl ⟨_, rfl⟩) (And.intro (.inl ⟨_, rfl⟩) (And.intro (.inl ⟨_, rfl⟩) (And.intro (.inl ⟨_, rfl⟩) (And.intro (.inl ⟨_, rfl⟩) (And.intro (.inl ⟨_, rfl⟩) (And.intro (.inl ⟨_, rfl⟩) (And.intro (.inl ⟨_, rfl⟩) (And.intro (.inl ⟨_, rfl⟩) trivial))))))))))))))))))))))))))))))))))))))
  · refine look_all (G := fun c x => ∃ f F t a fd qual, P.init.lookup c = some f ∧ P.fns.lookup f = some F ∧ ts f = some t ∧ Fun K t.name qual t.st a fd ∧ agF T t F = true ∧ Binds K fd t.ps [] ∧ mg x = some (.ref ((([(9, C9)] : List (Nat × Addr)).lookup c).getD 0)) ∧ Mk K ((([(9, C9)] : List (Nat × Addr)).lookup c).getD 0) a) ?_ hx
    have g9 : (fun c x => ∃ f F t a fd qual, P.init.lookup c = some f ∧ P.fns.lookup f = some F ∧ ts f = some t ∧ Fun K t.name qual t.st a fd ∧ agF T t F = true ∧ Binds K fd t.ps [] ∧ mg x = some (.ref ((([(9, C9)] : List (Nat × Addr)).lookup c).getD 0)) ∧ Mk K ((([(9, C9)] : List (Nat × Addr)).lookup c).getD 0) a) 9 "Known" := ⟨195, _, t195, _, _, _, rfl, rfl, rfl, fun_mk (st := t195.st) l195 c195 k195, ag195, (fun_mk (st := t195.st) l195 c195 k195).binds (ps := ["self", "many", "differences", "lists", "cells", "taken", "fresh"]) fun _ _ _ _ _ _ us hl => match us, hl with | [_, _, _, _, _, _, _], _ => rfl, PySem.W.mg_of X G aC9, ⟨mk9, a195, i195, kc9⟩⟩
    exact (And.intro g9 trivial)
  · refine look_all (G := fun (cm : Nat × Str) f => ∃ F t a fd qual, P.fns.lookup f = some F ∧ ts f = some t ∧ Fun K t.name qual t.st a fd ∧ agF T t F = true ∧ Binds K fd t.ps [] ∧ Cls K ((([(9, C9)] : List (Nat × Addr)).lookup cm.1).getD 0) ∧ Meth K ((([(9, C9)] : List (Nat × Addr)).lookup cm.1).getD 0) cm.2 a) (k := (c, m)) ?_ hx
    have g0 : (fun (cm : Nat × Str) f => ∃ F t a fd qual, P.fns.lookup f = some F ∧ ts f = some t ∧ Fun K t.name qual t.st a fd ∧ agF T t F = true ∧ Binds K fd t.ps [] ∧ Cls K ((([(9, C9)] : List (Nat × Addr)).lookup cm.1).getD 0) ∧ Meth K ((([(9, C9)] : List (Nat × Addr)).lookup cm.1).getD 0) cm.2 a) (9, "new_number") 196 := ⟨_, t196, _, _, _, rfl, rfl, fun_mk (st := t196.st) l196 c196 k196, ag196, (fun_mk (st := t196.st) l196 c196 k196).binds (ps := ["self"]) fun _ _ _ _ _ _ us hl => match us, hl with | [_], _ => rfl, ⟨pg9, hd9, po9, sa9⟩, ⟨a196, i196, k196⟩⟩
    have g1 : (fun (cm : Nat × Str) f => ∃ F t a fd qual, P.fns.lookup f = some F ∧ ts f = some t ∧ Fun K t.name qual t.st a fd ∧ agF T t F = true ∧ Binds K fd t.ps [] ∧ Cls K ((([(9, C9)] : List (Nat × Addr)).lookup cm.1).getD 0) ∧ Meth K ((([(9, C9)] : List (Nat × Addr)).lookup cm.1).getD 0) cm.2 a) (9, "length") 197 := ⟨_, t197, _, _, _, rfl, rfl, fun_mk (st := t197.st) l197 c197 k197, ag197, (fun_mk (st := t197.st) l197 c197 k197).binds (ps := ["self", "number"]) fun _ _ _ _ _ _ us hl => match us, hl with | [_, _], _ => rfl, ⟨pg9, hd9, po9, sa9⟩, ⟨a197, i197, k197⟩⟩
    have g2 : (fun (cm : Nat × Str) f => ∃ F t a fd qual, P.fns.lookup f = some F ∧ ts f = some t ∧ Fun K t.name qual t.st a fd ∧ agF T t F = true ∧ Binds K fd t.ps [] ∧ Cls K ((([(9, C9)] : List (Nat × Addr)).lookup cm.1).getD 0) ∧ Meth K ((([(9, C9)] : List (Nat × Addr)).lookup cm.1).getD 0) cm.2 a) (9, "cell") 198 := ⟨_, t198, _, _, _, rfl, rfl, fun_mk (st := t198.st) l198 c198 k198, ag198, (fun_mk (st := t198.st) l198 c198 k198).binds (ps := ["self", "number", "index"]) fun _ _ _ _ _ _ us hl => match us, hl with | [_, _, _], _ => rfl, ⟨pg9, hd9, po9, sa9⟩, ⟨a198, i198, k198⟩⟩
    exact (And.intro g0 (And.intro g1 (And.intro g2 trivial)))
  · have hx := List.contains_iff_mem.mp hx
    simp only [P, List.mem_cons, List.not_mem_nil, or_false, Prod.mk.injEq] at hx
    rcases hx with ⟨rfl, rfl⟩ | ⟨rfl, rfl⟩ | ⟨rfl, rfl⟩ | ⟨rfl, rfl⟩ | ⟨rfl, rfl⟩ | ⟨rfl, rfl⟩
    · exact ⟨⟨pg9, hd9, po9, sa9⟩, fl0⟩
    · exact ⟨⟨pg9, hd9, po9, sa9⟩, fl1⟩
    · exact ⟨⟨pg9, hd9, po9, sa9⟩, fl2⟩
    · exact ⟨⟨pg9, hd9, po9, sa9⟩, fl3⟩
    · exact ⟨⟨pg9, hd9, po9, sa9⟩, fl4⟩
    · exact ⟨⟨pg9, hd9, po9, sa9⟩, fl5⟩
  · refine look_all (G := fun g x => ∃ kvs d, P.gdct.lookup g = some kvs ∧ mg x = some (.ref d) ∧ GDict K w d kvs) ?_ hx
    have g10 : (fun g x => ∃ kvs d, P.gdct.lookup g = some kvs ∧ mg x = some (.ref d) ∧ GDict K w d kvs) 10 "KINDS" := ⟨_, ga10, rfl, PySem.W.mg_of X G hg10, gdict_of gk10 (fun p hp => by
      simp only [List.mem_cons, List.not_mem_nil, or_false] at hp
      rcases hp with rfl | rfl | rfl | rfl | rfl | rfl | rfl
      · exact ⟨_, gv10_0⟩
      · exact ⟨_, gv10_1⟩
      · exact ⟨_, gv10_2⟩
      · exact ⟨_, gv10_3⟩
      · exact ⟨_, gv10_4⟩
      · exact ⟨_, gv10_5⟩
      · exact ⟨_, gv10_6⟩
      )⟩
    exact (And.intro g10 trivial)
  · refine look_all (G := fun c x => mg x = some (.ref ((([(9, C9)] : List (Nat × Addr)).lookup c).getD 0)) ∧ _root_.C8.InsC K ((([(9, C9)] : List (Nat × Addr)).lookup c).getD 0)) ?_ hx
    exact trivial
  · cases hx
  · cases hx
  · cases hx
  · cases hx
theorem walk {l : PySem.W.OpenLaw} {q : Program} {loose : List Str} {XP : (Str → Option Value) → Heap → Prop} {YP : World → Heap → Prop} {d : DefRec} {K : Params → PySem.W.Frag} (hn : l.most = some 63) (hdf : d.params.defaults = [])
    (hY : ∀ (w : World) (h : Heap), YP w h → (K w.params).In h)
    (F : ∀ (w : World) (mg : Str → Option Value) (fa : Addr) (h : Heap), (K w.params).In h → h.Ns mainGlobals mg → mg d.name = some (.ref fa) → ∃ Cl : Nat → Addr, PFacts w P T Cl ts (K w.params) mg ∧ ∃ fd : FuncData, (∀ (s : Shared) (v : Value), BindsTo s fd ⟨[v], []⟩ [("_law_script", v)]) ∧ Fun (K w.params) "law" "law" t229.st fa fd) :
    PySem.W.WalkO q loose XP YP l.row.toRowW d [] (fun f vs => PySem.call f vs) :=
  walk_G (n := 63) (k := 4 * 24) (x := "_law_script") hn (by decide) hdf ⟨rfl, by decide, by decide⟩ hY fun w mg fa h KX G hm => by
    obtain ⟨Cl, PF, fd, hb, hf⟩ := F w mg fa h KX G hm
    exact ⟨fd, _, hb, fun base _ _ => fn_all PF 24 229 ⟨1, 20, K17.b_law⟩ rfl t229 fa fd _ rfl hf ag229, law_sp law_pure⟩
end K17
open PySem PySem.W PyProof.Rows in
set_option maxRecDepth 100000 in
set_option maxHeartbeats 0 in
theorem PySem.Challenge.cw_swornrun_k17_ways_cover_holds : PySem.Challenge.rw_swornrun_k17_ways_cover.Holds := by
  w_on; o_law; k_head; (case hw => w_witness2)
  k_fill
  refine K17.walk (l := PySem.Challenge.rw_swornrun_k17_ways_cover) rfl rfl (fun w h Y => PySem.W.kIn_of Y) ?F
  case F =>
    intro w mg fa h KX G hmg
    refine' K17.all_mk KX G hmg ?a194 ?l194 ?c194 ?k194 ?a191 ?l191 ?c191 ?k191 ?a192 ?l192 ?c192 ?k192 ?a193 ?l193 ?c193 ?k193 ?a195 ?i195 ?l195 ?c195 ?k195 ?a196 ?i196 ?l196 ?c196 ?k196 ?a197 ?i197 ?l197 ?c197 ?k197 ?a198 ?i198 ?l198 ?c198 ?k198 ?a167 ?l167 ?c167 ?k167 ?a168 ?l168 ?c168 ?k168 ?a169 ?l169 ?c169 ?k169 ?a170 ?l170 ?c170 ?k170 ?a171 ?l171 ?c171 ?k171 ?a173 ?l173 ?c173 ?k173 ?a174 ?l174 ?c174 ?k174 ?a175 ?l175 ?c175 ?k175 ?a176 ?l176 ?c176 ?k176 ?a149 ?l149 ?c149 ?k149 ?a177 ?l177 ?c177 ?k177 ?a178 ?l178 ?c178 ?k178 ?a200 ?l200 ?c200 ?k200 ?a201 ?l201 ?c201 ?k201 ?a202 ?l202 ?c202 ?k202 ?a203 ?l203 ?c203 ?k203 ?a204 ?l204 ?c204 ?k204 ?a205 ?l205 ?c205 ?k205 ?a206 ?l206 ?c206 ?k206 ?a207 ?l207 ?c207 ?k207 ?a208 ?l208 ?c208 ?k208 ?a209 ?l209 ?c209 ?k209 ?a210 ?l210 ?c210 ?k210 ?a211 ?l211 ?c211 ?k211 ?a212 ?l212 ?c212 ?k212 ?a172 ?l172 ?c172 ?k172 ?a179 ?l179 ?c179 ?k179 ?a180 ?l180 ?c180 ?k180 ?a226 ?l226 ?c226 ?k226 ?a185 ?l185 ?c185 ?k185 ?a222 ?l222 ?c222 ?k222 ?a227 ?l227 ?c227 ?k227 ?a228 ?l228 ?c228 ?k228 ?a229 ?l229 ?c229 ?k229 ?aC9 ?pg9 ?hd9 ?po9 ?sa9 ?mk9 ?kc9 ?fl0 ?fl1 ?fl2 ?fl3 ?fl4 ?fl5 ?z0 ?z1 ?z2 ?z3 ?z4 ?z5 ?z6 ?z7 ?z8 ?z9 ?z10 ?z11 ?z12 ?z13 ?z14 ?z15 ?z16 ?z17 ?z18 ?z19 ?hg9 ?gl9 ?gv9 ?hg10 ?gk10 ?gv10_0 ?gv10_1 ?gv10_2 ?gv10_3 ?gv10_4 ?gv10_5 ?gv10_6
    (case aC9 => k_is)
    (case a194 => k_is)
    (case l194 => k_is)
    (case c194 => k_is)
    (case k194 => k_is)
    (case a191 => k_is)
    (case l191 => k_is)
    (case c191 => k_is)
    (case k191 => k_is)
    (case a192 => k_is)
    (case l192 => k_is)
    (case c192 => k_is)
    (case k192 => k_is)
    (case a193 => k_is)
    (case l193 => k_is)
    (case c193 => k_is)
    (case k193 => k_is)
    (case a195 => k_is)
    (case i195 => k_is)
    (case l195 => k_is)
    (case c195 => k_is)
    (case k195 => k_is)
    (case a196 => k_is)
    (case i196 => k_is)
    (case l196 => k_is)
    (case c196 => k_is)
    (case k196 => k_is)
    (case a197 => k_is)
    (case i197 => k_is)
    (case l197 => k_is)
    (case c197 => k_is)
    (case k197 => k_is)
    (case a198 => k_is)
    (case i198 => k_is)
    (case l198 => k_is)
    (case c198 => k_is)
    (case k198 => k_is)
    (case a167 => k_is)
    (case l167 => k_is)
    (case c167 => k_is)
    (case k167 => k_is)
    (case a168 => k_is)
    (case l168 => k_is)
    (case c168 => k_is)
    (case k168 => k_is)
    (case a169 => k_is)
    (case l169 => k_is)
    (case c169 => k_is)
    (case k169 => k_is)
    (case a170 => k_is)
    (case l170 => k_is)
    (case c170 => k_is)
    (case k170 => k_is)
    (case a171 => k_is)
    (case l171 => k_is)
    (case c171 => k_is)
    (case k171 => k_is)
    (case a173 => k_is)
    (case l173 => k_is)
    (case c173 => k_is)
    (case k173 => k_is)
    (case a174 => k_is)
    (case l174 => k_is)
    (case c174 => k_is)
    (case k174 => k_is)
    (case a175 => k_is)
    (case l175 => k_is)
    (case c175 => k_is)
    (case k175 => k_is)
    (case a176 => k_is)
    (case l176 => k_is)
    (case c176 => k_is)
    (case k176 => k_is)
    (case a149 => k_is)
    (case l149 => k_is)
    (case c149 => k_is)
    (case k149 => k_is)
    (case a177 => k_is)
    (case l177 => k_is)
    (case c177 => k_is)
    (case k177 => k_is)
    (case a178 => k_is)
    (case l178 => k_is)
    (case c178 => k_is)
    (case k178 => k_is)
    (case a200 => k_is)
    (case l200 => k_is)
    (case c200 => k_is)
    (case k200 => k_is)
    (case a201 => k_is)
    (case l201 => k_is)
    (case c201 => k_is)
    (case k201 => k_is)
    (case a202 => k_is)
    (case l202 => k_is)
    (case c202 => k_is)
    (case k202 => k_is)
    (case a203 => k_is)
    (case l203 => k_is)
    (case c203 => k_is)
    (case k203 => k_is)
    (case a204 => k_is)
    (case l204 => k_is)
    (case c204 => k_is)
    (case k204 => k_is)
    (case a205 => k_is)
    (case l205 => k_is)
    (case c205 => k_is)
    (case k205 => k_is)
    (case a206 => k_is)
    (case l206 => k_is)
    (case c206 => k_is)
    (case k206 => k_is)
    (case a207 => k_is)
    (case l207 => k_is)
    (case c207 => k_is)
    (case k207 => k_is)
    (case a208 => k_is)
    (case l208 => k_is)
    (case c208 => k_is)
    (case k208 => k_is)
    (case a209 => k_is)
    (case l209 => k_is)
    (case c209 => k_is)
    (case k209 => k_is)
    (case a210 => k_is)
    (case l210 => k_is)
    (case c210 => k_is)
    (case k210 => k_is)
    (case a211 => k_is)
    (case l211 => k_is)
    (case c211 => k_is)
    (case k211 => k_is)
    (case a212 => k_is)
    (case l212 => k_is)
    (case c212 => k_is)
    (case k212 => k_is)
    (case a172 => k_is)
    (case l172 => k_is)
    (case c172 => k_is)
    (case k172 => k_is)
    (case a179 => k_is)
    (case l179 => k_is)
    (case c179 => k_is)
    (case k179 => k_is)
    (case a180 => k_is)
    (case l180 => k_is)
    (case c180 => k_is)
    (case k180 => k_is)
    (case a226 => k_is)
    (case l226 => k_is)
    (case c226 => k_is)
    (case k226 => k_is)
    (case a185 => k_is)
    (case l185 => k_is)
    (case c185 => k_is)
    (case k185 => k_is)
    (case a222 => k_is)
    (case l222 => k_is)
    (case c222 => k_is)
    (case k222 => k_is)
    (case a227 => k_is)
    (case l227 => k_is)
    (case c227 => k_is)
    (case k227 => k_is)
    (case a228 => k_is)
    (case l228 => k_is)
    (case c228 => k_is)
    (case k228 => k_is)
    (case a229 => k_is)
    (case l229 => k_is)
    (case c229 => k_is)
    (case k229 => k_is)
    (case pg9 => k_is)
    (case hd9 => k_is)
    (case po9 => k_is)
    (case sa9 => k_is)
    (case mk9 => k_is)
    (case kc9 => k_is)
    (case fl0 => k_is)
    (case fl1 => k_is)
    (case fl2 => k_is)
    (case fl3 => k_is)
    (case fl4 => k_is)
    (case fl5 => k_is)
    (case z0 => k_is)
    (case z1 => k_is)
    (case z2 => k_is)
    (case z3 => k_is)
    (case z4 => k_is)
    (case z5 => k_is)
    (case z6 => k_is)
    (case z7 => k_is)
    (case z8 => k_is)
    (case z9 => k_is)
    (case z10 => k_is)
    (case z11 => k_is)
    (case z12 => k_is)
    (case z13 => k_is)
    (case z14 => k_is)
    (case z15 => k_is)
    (case z16 => k_is)
    (case z17 => k_is)
    (case z18 => k_is)
    (case z19 => k_is)
    (case hg9 => k_is)
    (case gl9 => k_is)
    (case gv9 => exact ⟨by rfl, by decide⟩)
    (case hg10 => k_is)
    (case gk10 => first | k_is | rfl)
    (case gv10_0 => k_is)
    (case gv10_1 => k_is)
    (case gv10_2 => k_is)
    (case gv10_3 => k_is)
    (case gv10_4 => k_is)
    (case gv10_5 => k_is)
    (case gv10_6 => k_is)

