import PyProof.Rows.All
import Wide.All
import OpenK.AllK
import Wide.FinOn
import HandS.ForMost
import HandS.Evl
import HandS.Wide
import HandS.IsInst
import HandS.Conv
import HandS.Codes
import HandS.Style
import HandS.TupAny
import HandS.Walk
import HandS.Text
import HandS.HeadHook3
import HandS.More
import HandS.SortInts
import HandS.NoneIn
import HandS.Iter
import PyProof.LongRange
import PyProof.ListRange
import HandS.ExcInit
import HandS.ExcField
import HandS.ExcOwn
import KE.KExcIs
import PySem.Challenge.RW_swornrun_k09_truths_and_values
set_option Elab.async false
set_option linter.all false
set_option maxRecDepth 100000
set_option maxHeartbeats 4000000
set_option maxRecDepth 100000
set_option maxHeartbeats 2000000
/-! VL: values without a heap, an own syntax of the defs, predicate transformers by recursion. -/
namespace VL
open PySem L2

/-- a value: immutable things as they are; what is changed stands in a cell -/
inductive AV where
  | non | bl (b : Bool) | int (i : Int) | str (s : Str)
  | tup (xs : List AV) | lst (xs : List AV) | ro (xs : List AV) | dct (kvs : List (Key × AV))
  | adr (n : Nat)
/-- what is changed -/
inductive Cell where
  | lst (xs : List AV) | dct (kvs : List (Key × AV)) | obj (c : Nat) (fs : List (Str × AV)) | dead
abbrev AHeap := List Cell
inductive Slot where
  | no | val (d : AV) | own (c : Cell)
abbrev Env := List Slot

inductive Tg where
  | nm (i : Nat) | tup (is : List Nat)
inductive Blt where
  | len | abs | int | str | max2 | min2 | maxL | minL | sum | all | any | tuple | repr
deriving DecidableEq
inductive Sm where
  | join
deriving DecidableEq
mutual
inductive E where
  | var (i : Nat) | vw (i : Nat)
  | cint (i : Int) | cstr (s : Str) | cbl (b : Bool) | cnon
  | glob (g : Nat)
  | bin (op : Operator) (a b : E)
  | neg (a : E)
  | cmp (op : CmpOp) (a b : E)
  | chain (o1 o2 : CmpOp) (a b c : E)
  | and (a b : E) | or (a b : E) | not (a : E)
  | ite (c a b : E)
  | tup (es : Es)
  | fz (n : Nw) | new (n : Nw)
  | sub (a i : E)
  | slice (a : E) (lo hi : Oe)
  | call (f : Nat) (es : Es)
  | blt (b : Blt) (es : Es)
  | isi (a : E) (t : String)
  | smt (m : Sm) (o : E) (a : E)
  | attr (a : E) (f : Str)
  | mcall (o : E) (m : Str) (es : Es)
  | make (c : Nat) (es : Es)
  | tru (a : E)
  | isC (a : E) (c : Nat)
  | gIn (neg : Bool) (a : E) (g : Nat)
  | gGet (g : Nat) (a : E)
  | idx (l a : E)
  | revT (a : E)
inductive Es where
  | nil | cons (e : E) (es : Es)
inductive Nw where
  | lst (es : Es)
  | comp (elt : E) (tg : Tg) (it : It) (cond : Oe) (own : List Nat)
  | slice (a : E) (lo hi : Oe)
  | listOf (a : E)
  | cat (a b : E)
  | rep (a b : E)
  | rev (a : E)
  | dct1 (k v : E)
  | split (o a : E)
  | dct0 | dictOf (a : E) | sorted (a : E) | rngL (a b : E)
inductive It where
  | rng1 (a : E) | rng2 (a b : E) | seq (a : E) | own (i : Nat) | chars (a : E)
  | keys (a : E) | zip (a b : E)
inductive Oe where
  | no | so (e : E)
end
mutual
inductive S where
  | asg (tg : Tg) (e : E)
  | asgO (i : Nat) (n : Nw)
  | frz (i : Nat)
  | par (i j : Nat) (a b : E)
  | aug (i : Nat) (op : Operator) (e : E)
  | app (i : Nat) (e : E)
  | appE (o e : E)
  | put (i : Nat) (k e : E)
  | putE (o k e : E)
  | fld (o : E) (f : Str) (e : E)
  | expr (e : E)
  | ret (e : E) | retN
  | ite (c : E) (a b : Ss)
  | wh (c : E) (b : Ss)
  | for (tg : Tg) (it : It) (b : Ss)
  | pass | brk | cont | bad
  | rse (c : Nat) (e : E)
inductive Ss where
  | nil | cons (s : S) (r : Ss)
end

/-! ### operations -/
abbrev KA := AV → Prop
def cells (h : AHeap) (n : Nat) : Cell := (h[n]?).getD .dead
/-- the items of a list -/
def view (h : AHeap) : AV → Option (List AV)
  | .lst xs => some xs
  | .ro xs => some xs
  | .adr n => match cells h n with
    | .lst xs => some xs
    | _ => none
  | _ => none
/-- a list that may be glued -/
def viewW (h : AHeap) : AV → Option (List AV)
  | .lst xs => some xs
  | .adr n => match cells h n with
    | .lst xs => some xs
    | _ => none
  | _ => none
def viewT (h : AHeap) : AV → Option (List AV)
  | .tup xs => some xs
  | x => view h x
def viewD (h : AHeap) : AV → Option (List (Key × AV))
  | .dct xs => some xs
  | .adr n => match cells h n with
    | .dct xs => some xs
    | _ => none
  | _ => none
def keyOf : AV → Option Key
  | .int i => some (.inl i)
  | .str s => some (.inr s)
  | _ => none
def keyA : Key → AV
  | .inl i => .int i
  | .inr s => .str s
def getD (kvs : List (Key × AV)) (k : Key) : Option AV := (kvs.find? fun kv => decide (kv.1 = k)).map (·.2)
def putD (kvs : List (Key × AV)) (k : Key) (v : AV) : List (Key × AV) :=
  if (kvs.any fun kv => decide (kv.1 = k)) = true then kvs.map (fun kv => if kv.1 = k then (kv.1, v) else kv) else kvs ++ [(k, v)]
def asInts : List AV → Option (List Int)
  | [] => some []
  | .int i :: r => (asInts r).map (i :: ·)
  | _ => none
def asBools : List AV → Option (List Bool)
  | [] => some []
  | .bl i :: r => (asBools r).map (i :: ·)
  | _ => none
def asStrs : List AV → Option (List Str)
  | [] => some []
  | .str i :: r => (asStrs r).map (i :: ·)
  | _ => none
def cut {α : Type} (xs : List α) (lo hi : Option Int) : List α := (xs.drop (HT.sIx xs.length 0 lo)).take (HT.sIx xs.length xs.length hi - HT.sIx xs.length 0 lo)

mutual
def pd : AV → Option PyData
  | .non => some .none
  | .bl b => some (.bool b)
  | .int i => some (.int i)
  | .str s => some (.str s)
  | .tup xs => (pds xs).map .tuple
  | .lst xs => (pds xs).map .list
  | .ro xs => (pds xs).map .list
  | .dct _ => none
  | .adr _ => none
def pds : List AV → Option (List PyData)
  | [] => some []
  | x :: r => (pd x).bind fun d => (pds r).map (d :: ·)
end
mutual
def pdH (h : AHeap) : AV → Option PyData
  | .non => some .none
  | .bl b => some (.bool b)
  | .int i => some (.int i)
  | .str s => some (.str s)
  | .tup xs => (pdHs h xs).map .tuple
  | .lst xs => (pdHs h xs).map .list
  | .ro xs => (pdHs h xs).map .list
  | .dct _ => none
  | .adr n => match cells h n with
    | .lst xs => (pds xs).map .list
    | _ => none
def pdHs (h : AHeap) : List AV → Option (List PyData)
  | [] => some []
  | x :: r => (pdH h x).bind fun d => (pdHs h r).map (d :: ·)
end

def isNon : AV → Bool
  | .non => true
  | _ => false
def eqGen (h : AHeap) (neg : Bool) (x y : AV) (Q : KA) : Prop :=
  match pdH h x, pdH h y with
  | some d, some e => SeqAt.shaped d = true ∧ SeqAt.shaped e = true ∧ Q (.bl (if neg then !PyData.eqv d e else PyData.eqv d e))
  | _, _ => False
/-- the same ints, or lists of them -/
def eqv1 (a b : AV) : Prop := (∃ i, a = .int i ∧ b = .int i) ∨ ∃ ns : List Int, a = .lst (ns.map .int) ∧ b = .lst (ns.map .int)
/-- equal dicts -/
def dEq (xs ys : List (Key × AV)) : Prop := xs.length = ys.length ∧ ∀ p ∈ xs, ∃ u, getD ys p.1 = some u ∧ eqv1 p.2 u
def eqK (h : AHeap) (x y : AV) (Q : KA) : Prop :=
  match x, y with
  | .int i, .int j => Q (.bl (decide (i = j)))
  | .str i, .str j => Q (.bl (decide (i = j)))
  | .bl i, .bl j => Q (.bl (decide (i = j)))
  | .non, .non => Q (.bl true)
  | .int _, .str _ => Q (.bl false)
  | .str _, .int _ => Q (.bl false)
  | .dct xs, .dct ys => dEq xs ys ∧ Q (.bl true)
  | x, y => eqGen h false x y Q
def neK (h : AHeap) (x y : AV) (Q : KA) : Prop :=
  match x, y with
  | .int i, .int j => Q (.bl (!decide (i = j)))
  | .str i, .str j => Q (.bl (!decide (i = j)))
  | .bl i, .bl j => Q (.bl (!decide (i = j)))
  | .non, .non => Q (.bl false)
  | .int _, .str _ => Q (.bl true)
  | .str _, .int _ => Q (.bl true)
  | .dct xs, .dct ys => dEq xs ys ∧ Q (.bl false)
  | x, y => eqGen h true x y Q
def flatA : AV → Bool
  | .non => true
  | .bl _ => true
  | .int _ => true
  | .str _ => true
  | _ => false
def eqF : AV → AV → Bool
  | .non, .non => true
  | .bl a, .bl b => a == b
  | .bl a, .int b => (if a then 1 else 0) == b
  | .int a, .bl b => a == (if b then 1 else 0)
  | .int a, .int b => a == b
  | .str a, .str b => a == b
  | _, _ => false
def inK (h : AHeap) (neg : Bool) (x y : AV) (Q : KA) : Prop :=
  match y with
  | .str z => match x with
    | .str w => match w.cps.toList with
      | [c] => Q (.bl (if neg then !decide (c ∈ z.cps.toList) else decide (c ∈ z.cps.toList)))
      | _ => False
    | _ => False
  | y => match viewT h y with
    | some xs => flatA x = true ∧ xs.all flatA = true ∧ Q (.bl (if neg then !(xs.any fun y => eqF y x) else xs.any fun y => eqF y x))
    | none => match viewD h y, keyOf x with
      | some kvs, some k => Q (.bl (if neg then !(getD kvs k).isSome else (getD kvs k).isSome))
      | _, _ => False
def cmpK (h : AHeap) (op : CmpOp) (x y : AV) (Q : KA) : Prop :=
  match op with
  | .Eq => eqK h x y Q
  | .NotEq => neK h x y Q
  | .Lt => match x, y with
    | .int i, .int j => Q (.bl (decide (i < j)))
    | _, _ => False
  | .LtE => match x, y with
    | .int i, .int j => Q (.bl (decide (i ≤ j)))
    | _, _ => False
  | .Gt => match x, y with
    | .int i, .int j => Q (.bl (decide (j < i)))
    | _, _ => False
  | .GtE => match x, y with
    | .int i, .int j => Q (.bl (decide (j ≤ i)))
    | _, _ => False
  | .Is => match y with
    | .non => Q (.bl (isNon x))
    | .bl k => match x with
      | .bl j => Q (.bl (decide (j = k)))
      | _ => False
    | _ => False
  | .IsNot => match y with
    | .non => Q (.bl (!isNon x))
    | .bl k => match x with
      | .bl j => Q (.bl (!decide (j = k)))
      | _ => False
    | _ => False
  | .In => inK h false x y Q
  | .NotIn => inK h true x y Q
def CDivA (j : Int) : Prop := 0 < j ∧ j.natAbs.log2 < 9000
def CMulA (i j : Int) : Prop := CMul i j ∨ CMulW i j
def addK (h : AHeap) (x y : AV) (Q : KA) : Prop :=
  match x, y with
  | .int i, .int j => Q (.int (i + j))
  | .str i, .str j => i.length + j.length ≤ sizeLine ∧ Q (.str (i ++ j))
  | .tup xs, .tup ys => xs.length + ys.length ≤ sizeLine ∧ Q (.tup (xs ++ ys))
  | _, _ => False
def strRep (x : Str) (n : Int) : Str := if n < 1 then Str.empty else if (n == 1 || x.length == 0) = true then x else ⟨(List.replicate n.toNat x.cps).foldl (· ++ ·) #[]⟩
def binK (h : AHeap) (op : Operator) (x y : AV) (Q : KA) : Prop :=
  match op with
  | .Add => addK h x y Q
  | .Sub => match x, y with
    | .int i, .int j => Q (.int (i - j))
    | _, _ => False
  | .Mult => match x, y with
    | .int i, .int j => CMulA i j ∧ Q (.int (i * j))
    | .str z, .int j => (-(2 ^ 60) < j ∧ j < 2 ^ 60 ∧ z.length * j.toNat ≤ 1000000) ∧ Q (.str (strRep z j))
    | _, _ => False
  | .FloorDiv => match x, y with
    | .int i, .int j => CDivA j ∧ Q (.int (i / j))
    | _, _ => False
  | .Mod => match x, y with
    | .int i, .int j => 0 < j ∧ Q (.int (i % j))
    | _, _ => False
  | .Pow => match x, y with
    | .int i, .int j => CPow i j ∧ Q (.int (i ^ j.toNat))
    | _, _ => False
  | _ => False
def negK (x : AV) (Q : KA) : Prop :=
  match x with
  | .int i => Q (.int (-i))
  | _ => False
def subK (h : AHeap) (x y : AV) (Q : KA) : Prop :=
  match x with
  | .str z => match y with
    | .int i => z.length ≤ sizeLine ∧ match atI z.cps.toList i with
      | some c => Q (.str ⟨#[c]⟩)
      | none => False
    | _ => False
  | x => match viewT h x with
    | some xs => match y with
      | .int i => match atI xs i with
        | some d => Q d
        | none => False
      | _ => False
    | none => match viewD h x, keyOf y with
      | some kvs, some k => match getD kvs k with
        | some d => Q d
        | none => False
      | _, _ => False
def sliceK (h : AHeap) (x : AV) (lo hi : Option Int) (Q : KA) : Prop :=
  match x with
  | .str z => z.length ≤ sizeLine ∧ Q (.str (cutS z lo hi))
  | .tup xs => Q (.tup (cut xs lo hi))
  | _ => False
def truK (h : AHeap) (x : AV) (Q : Bool → Prop) : Prop :=
  match x with
  | .bl b => Q b
  | .non => Q false
  | .int i => Q (i != 0)
  | .str y => y.length ≤ sizeLine ∧ Q ((y.length : Int) != 0)
  | x => match viewT h x with
    | some xs => Q (!xs.isEmpty)
    | none => False
def bltK (h : AHeap) (b : Blt) (vs : List AV) (Q : KA) : Prop :=
  match b, vs with
  | .len, [.str z] => z.length ≤ sizeLine ∧ Q (.int z.length)
  | .len, [x] => match viewT h x with
    | some xs => Q (.int xs.length)
    | none => match viewD h x with
      | some kvs => Q (.int kvs.length)
      | none => False
  | .abs, [.int i] => Q (.int (if i < 0 then -i else i))
  | .int, [.int i] => Q (.int i)
  | .int, [.bl k] => Q (.int (if k then 1 else 0))
  | .int, [.str z] => match PySem.intText? z with
    | some n => z.length ≤ 640 ∧ Q (.int n)
    | none => False
  | .str, [.int i] => i.natAbs.log2 < 1920 ∧ Q (.str (toString i))
  | .max2, [.int i, .int j] => Q (.int (if j > i then j else i))
  | .min2, [.int i, .int j] => Q (.int (if j < i then j else i))
  | .maxL, [x] => match (view h x).bind asInts with
    | some ns => 0 < ns.length ∧ ∀ m, m ∈ ns → (∀ y, y ∈ ns → y ≤ m) → Q (.int m)
    | none => False
  | .minL, [x] => match (view h x).bind asInts with
    | some ns => 0 < ns.length ∧ ∀ m, m ∈ ns → (∀ y, y ∈ ns → m ≤ y) → Q (.int m)
    | none => False
  | .sum, [x] => match (view h x).bind asInts with
    | some ns => Q (.int ns.sum)
    | none => False
  | .all, [x] => match (view h x).bind asBools with
    | some bs => Q (.bl (bs.all id))
    | none => False
  | .any, [x] => match (view h x).bind asBools with
    | some bs => Q (.bl (bs.any id))
    | none => False
  | .repr, [x] => match pdH h x with
    | some d => (d.showable = true ∧ d.hasDict = false ∧ d.depth ≤ 50 ∧ d.shown.length ≤ sizeLine) ∧ Q (.str d.shown)
    | none => False
  | .tuple, [.tup xs] => Q (.tup xs)
  | .tuple, [x] => match view h x with
    | some xs => Q (.tup xs)
    | none => False
  | _, _ => False
/-- isinstance against a built-in type -/
def isiK (x : AV) (t : String) (h : AHeap) (Q : KA) : Prop :=
  match x with
  | .non => (t = "int" ∨ t = "bool" ∨ t = "str" ∨ t = "list" ∨ t = "tuple") ∧ Q (.bl false)
  | .bl _ => (t = "int" ∧ Q (.bl true)) ∨ (t = "bool" ∧ Q (.bl true)) ∨ ((t = "str" ∨ t = "list" ∨ t = "tuple") ∧ Q (.bl false))
  | .int _ => (t = "int" ∧ Q (.bl true)) ∨ ((t = "bool" ∨ t = "str" ∨ t = "list" ∨ t = "tuple") ∧ Q (.bl false))
  | .str _ => (t = "str" ∧ Q (.bl true)) ∨ ((t = "bool" ∨ t = "int" ∨ t = "list" ∨ t = "tuple") ∧ Q (.bl false))
  | .tup _ => (t = "tuple" ∧ Q (.bl true)) ∨ ((t = "bool" ∨ t = "int" ∨ t = "list" ∨ t = "str") ∧ Q (.bl false))
  | .dct _ => False
  | x => match view h x with
    | some _ => (t = "list" ∧ Q (.bl true)) ∨ ((t = "bool" ∨ t = "int" ∨ t = "tuple" ∨ t = "str") ∧ Q (.bl false))
    | none => False
def smtK (h : AHeap) (m : Sm) (z : Str) (a : AV) (Q : KA) : Prop :=
  match m with
  | .join => match (viewT h a).bind asStrs with
    | some ys => (ys.map (·.length)).sum + ys.length * z.length ≤ 16777216 ∧ Q (.str (Txt.join z ys))
    | none => False

/-- the place of an item in a list -/
def idxK (h : AHeap) (x y : AV) (Q : KA) : Prop :=
  match view h x with
  | some xs => flatA y = true ∧ xs.all flatA = true ∧ match xs.findIdx? (fun z => eqF z y) with
    | some j => Q (.int (j : Int))
    | none => False
  | none => False
/-- a key of a dict of the module -/
def gInK (kvs : Option (List (Str × Int))) (neg : Bool) (x : AV) (Q : Bool → Prop) : Prop :=
  match kvs with
  | some kvs => match x with
    | .str z => Q (if neg then !(kvs.lookup z).isSome else (kvs.lookup z).isSome)
    | _ => False
  | none => False
def gGetK (kvs : Option (List (Str × Int))) (x : AV) (Q : KA) : Prop :=
  match kvs with
  | some kvs => match x with
    | .str z => match kvs.lookup z with
      | some i => Q (.int i)
      | none => False
    | _ => False
  | none => False
def isCK (h : AHeap) (c : Nat) (x : AV) (Q : KA) : Prop :=
  match x with
  | .adr n => match cells h n with
    | .obj c' _ => c' = c ∧ Q (.bl true)
    | _ => False
  | _ => False

/-! ### the transformers -/
structure Ctx where
  glob : Nat → Option AV
  call : Nat → List AV → AHeap → (AV → AHeap → Prop) → Prop
  meth : Nat → Str → Option Nat
  init : Nat → Option Nat
  fld : Nat → Str → Bool
  gdct : Nat → Option (List (Str × Int))

def getS : Env → Nat → Slot
  | [], _ => .no
  | x :: _, 0 => x
  | _ :: r, n + 1 => getS r n
def setS : Env → Nat → Slot → Env
  | [], _, _ => []
  | _ :: r, 0, v => v :: r
  | x :: r, n + 1, v => x :: setS r n v
def wipeS (ρ : Env) : List Nat → Env
  | [] => ρ
  | v :: vs => setS (wipeS ρ vs) v .no
def setsS : Env → List Nat → List AV → Option Env
  | ρ, [], [] => some ρ
  | ρ, i :: is, x :: xs => setsS (setS ρ i (.val x)) is xs
  | _, _, _ => none
def tgK (tg : Tg) (x : AV) (ρ : Env) (Q : Env → Prop) : Prop :=
  match tg with
  | .nm i => Q (setS ρ i (.val x))
  | .tup is => match x with
    | .tup xs => match setsS ρ is xs with
      | some ρ' => Q ρ'
      | none => False
    | .lst xs => match setsS ρ is xs with
      | some ρ' => Q ρ'
      | none => False
    | _ => False

/-- a comprehension's loop: B gives an item, or none -/
def compL (B : AV → AHeap → (Option AV → AHeap → Prop) → Prop) (chk : AHeap → Prop) : List AV → List AV → AHeap → (List AV → AHeap → Prop) → Prop
  | [], acc, h, Q => chk h ∧ Q acc h
  | x :: xs, acc, h, Q => chk h ∧ B x h fun r h' => compL B chk xs (match r with | some y => acc ++ [y] | none => acc) h' Q

mutual
def WpE (C : Ctx) : Bool → E → Env → AHeap → (AV → AHeap → Prop) → Prop
  | _, .var i, ρ, h, Q => match getS ρ i with
    | .val d => Q d h
    | _ => False
  | true, .vw i, ρ, h, Q => match getS ρ i with
    | .own (.lst xs) => Q (.lst xs) h
    | .own (.dct xs) => Q (.dct xs) h
    | _ => False
  | false, .vw _, _, _, _ => False
  | _, .tru _, _, _, _ => False
  | _, .cint i, _, h, Q => Q (.int i) h
  | _, .cstr s, _, h, Q => Q (.str s) h
  | _, .cbl b, _, h, Q => Q (.bl b) h
  | _, .cnon, _, h, Q => Q .non h
  | _, .glob g, _, h, Q => match C.glob g with
    | some d => Q d h
    | none => False
  | _, .bin op a b, ρ, h, Q => WpE C false a ρ h fun x h1 => WpE C false b ρ h1 fun y h2 => binK h2 op x y fun z => Q z h2
  | _, .neg a, ρ, h, Q => WpE C false a ρ h fun x h1 => negK x fun z => Q z h1
  | _, .cmp op a b, ρ, h, Q => WpE C true a ρ h fun x h1 => WpE C true b ρ h1 fun y h2 => cmpK h2 op x y fun z => Q z h2
  | _, .chain o1 o2 a b c, ρ, h, Q => WpE C false a ρ h fun x h1 => WpE C false b ρ h1 fun y h2 => cmpK h2 o1 x y fun z => match z with
    | .bl true => WpE C false c ρ h2 fun w h3 => cmpK h3 o2 y w fun z => Q z h3
    | .bl false => Q (.bl false) h2
    | _ => False
  | _, .and a b, ρ, h, Q => WpE C false a ρ h fun x h1 => match x with
    | .bl true => WpE C false b ρ h1 Q
    | .bl false => Q (.bl false) h1
    | _ => False
  | _, .or a b, ρ, h, Q => WpE C false a ρ h fun x h1 => match x with
    | .bl false => WpE C false b ρ h1 Q
    | .bl true => Q (.bl true) h1
    | _ => False
  | _, .not a, ρ, h, Q => WpE C false a ρ h fun x h1 => match x with
    | .bl b => Q (.bl (!b)) h1
    | _ => False
  | _, .ite c a b, ρ, h, Q => WpT C c ρ h fun k h1 => if k = true then WpE C false a ρ h1 Q else WpE C false b ρ h1 Q
  | _, .tup es, ρ, h, Q => WpEs C es ρ h fun xs h1 => xs.length ≤ sizeLine ∧ Q (.tup xs) h1
  | _, .fz n, ρ, h, Q => WpN C n ρ h fun c h1 => match c with
    | .lst xs => Q (.lst xs) h1
    | .dct xs => Q (.dct xs) h1
    | _ => False
  | _, .new n, ρ, h, Q => WpN C n ρ h fun c h1 => Q (.adr h1.length) (h1 ++ [c])
  | _, .sub a i, ρ, h, Q => WpE C true a ρ h fun x h1 => WpE C false i ρ h1 fun y h2 => subK h2 x y fun z => Q z h2
  | _, .slice a lo hi, ρ, h, Q => WpE C false a ρ h fun x h1 => WpO C lo ρ h1 fun l h2 => WpO C hi ρ h2 fun u h3 => sliceK h3 x l u fun z => Q z h3
  | _, .call f es, ρ, h, Q => WpEs C es ρ h fun xs h1 => C.call f xs h1 Q
  | _, .blt b es, ρ, h, Q => WpBs C es ρ h fun xs h1 => bltK h1 b xs fun z => Q z h1
  | _, .isi a t, ρ, h, Q => WpE C true a ρ h fun x h1 => isiK x t h1 fun z => Q z h1
  | _, .smt m o a, ρ, h, Q => WpE C false o ρ h fun x h1 => match x with
    | .str z => WpE C true a ρ h1 fun y h2 => smtK h2 m z y fun z => Q z h2
    | _ => False
  | _, .attr a f, ρ, h, Q => WpE C false a ρ h fun x h1 => match x with
    | .adr n => match cells h1 n with
      | .obj c fs => C.fld c f = true ∧ match fs.lookup f with
        | some d => Q d h1
        | none => False
      | _ => False
    | _ => False
  | _, .mcall o m es, ρ, h, Q => WpE C false o ρ h fun x h1 => match x with
    | .adr n => match cells h1 n with
      | .obj c fs => match fs.lookup m with
        | some _ => False
        | none => match C.meth c m with
          | some f => WpEs C es ρ h1 fun xs h2 => C.call f (x :: xs) h2 Q
          | none => False
      | _ => False
    | _ => False
  | _, .make c es, ρ, h, Q => WpEs C es ρ h fun xs h1 => match C.init c with
    | some f => C.call f (.adr h1.length :: xs) (h1 ++ [.obj c []]) fun r h2 => match r with
      | .non => Q (.adr h1.length) h2
      | _ => False
    | none => False
  | _, .isC a c, ρ, h, Q => WpE C false a ρ h fun x h1 => isCK h1 c x fun z => Q z h1
  | _, .gIn neg a g, ρ, h, Q => WpE C false a ρ h fun x h1 => gInK (C.gdct g) neg x fun k => Q (.bl k) h1
  | _, .gGet g a, ρ, h, Q => WpE C false a ρ h fun x h1 => gGetK (C.gdct g) x fun z => Q z h1
  | _, .idx l a, ρ, h, Q => WpE C true l ρ h fun x h1 => (view h1 x).isSome = true ∧ WpE C false a ρ h1 fun y h2 => idxK h2 x y fun z => Q z h2
  | _, .revT a, ρ, h, Q => WpE C false a ρ h fun x h1 => match x with
    | .tup xs => Q (.tup xs.reverse) h1
    | _ => False
def WpEs (C : Ctx) : Es → Env → AHeap → (List AV → AHeap → Prop) → Prop
  | .nil, _, h, Q => Q [] h
  | .cons e es, ρ, h, Q => WpE C false e ρ h fun x h1 => WpEs C es ρ h1 fun xs h2 => Q (x :: xs) h2
def WpBs (C : Ctx) : Es → Env → AHeap → (List AV → AHeap → Prop) → Prop
  | .nil, _, h, Q => Q [] h
  | .cons e es, ρ, h, Q => WpE C true e ρ h fun x h1 => WpBs C es ρ h1 fun xs h2 => Q (x :: xs) h2
def WpO (C : Ctx) : Oe → Env → AHeap → (Option Int → AHeap → Prop) → Prop
  | .no, _, h, Q => Q none h
  | .so e, ρ, h, Q => WpE C false e ρ h fun x h1 => match x with
    | .int i => Q (some i) h1
    | _ => False
def WpN (C : Ctx) : Nw → Env → AHeap → (Cell → AHeap → Prop) → Prop
  | .lst es, ρ, h, Q => WpEs C es ρ h fun xs h1 => xs.length ≤ sizeLine ∧ Q (.lst xs) h1
  | .comp elt tg it cond own, ρ, h, Q => WpI C it ρ h fun xs chk h1 => xs.length ≤ sizeLine ∧ compL (fun x h2 R => tgK tg x (wipeS ρ own) fun ρ2 => WpC C cond ρ2 h2 fun k h3 => if k = true then WpE C false elt ρ2 h3 fun y h4 => R (some y) h4 else R none h3) chk xs [] h1 fun acc h2 => Q (.lst acc) h2
  | .slice a lo hi, ρ, h, Q => WpE C true a ρ h fun x h1 => WpO C lo ρ h1 fun l h2 => WpO C hi ρ h2 fun u h3 => match view h3 x with
    | some xs => Q (.lst (cut xs l u)) h3
    | none => False
  | .listOf a, ρ, h, Q => WpE C true a ρ h fun x h1 => match viewT h1 x with
    | some xs => Q (.lst xs) h1
    | none => False
  | .cat a b, ρ, h, Q => WpE C true a ρ h fun x h1 => WpE C true b ρ h1 fun y h2 => match viewW h2 x, viewW h2 y with
    | some xs, some ys => xs.length + ys.length ≤ sizeLine ∧ Q (.lst (xs ++ ys)) h2
    | _, _ => False
  | .rep a b, ρ, h, Q => WpE C true a ρ h fun x h1 => WpE C false b ρ h1 fun y h2 => match viewW h2 x, y with
    | some xs, .int k => (-(2 ^ 63) ≤ k ∧ k < 2 ^ 63) ∧ xs.length * k.toNat ≤ sizeLine ∧ Q (.lst (List.replicate k.toNat xs).flatten) h2
    | _, _ => False
  | .rev a, ρ, h, Q => WpE C true a ρ h fun x h1 => match view h1 x with
    | some xs => Q (.lst xs.reverse) h1
    | none => False
  | .dct1 k v, ρ, h, Q => WpE C false k ρ h fun x h1 => WpE C false v ρ h1 fun y h2 => match keyOf x with
    | some k => Q (.dct [(k, y)]) h2
    | none => False
  | .split o a, ρ, h, Q => WpE C false o ρ h fun x h1 => match x with
    | .str z => WpE C false a ρ h1 fun y h2 => match y with
      | .str s => (s.length == 0) = false ∧ z.length + 2 ≤ sizeLine ∧ Q (.lst ((Txt.split z s).map .str)) h2
      | _ => False
    | _ => False
  | .dct0, _, h, Q => Q (.dct []) h
  | .dictOf a, ρ, h, Q => WpE C false a ρ h fun x h1 => match viewD h1 x with
    | some kvs => Q (.dct kvs) h1
    | none => False
  | .sorted a, ρ, h, Q => WpE C false a ρ h fun x h1 => match (view h1 x).bind asInts with
    | some ns => ∀ ns' : List Int, ns'.Perm ns → ns'.Pairwise (· ≤ ·) → Q (.lst (ns'.map .int)) h1
    | none => False
  | .rngL a b, ρ, h, Q => WpE C false a ρ h fun x h1 => WpE C false b ρ h1 fun y h2 => match x, y with
    | .int i, .int n => (n - i).toNat ≤ 16777216 ∧ Q (.lst ((List.range (n - i).toNat).map fun (k : Nat) => .int (i + (k : Int)))) h2
    | _, _ => False
/-- what is walked: the items; what must stay so while they are -/
def WpI (C : Ctx) : It → Env → AHeap → (List AV → (AHeap → Prop) → AHeap → Prop) → Prop
  | .rng1 a, ρ, h, Q => WpE C false a ρ h fun x h1 => match x with
    | .int n => (-(2 ^ 62) ≤ n ∧ n < 2 ^ 62) ∧ Q ((List.range n.toNat).map fun (k : Nat) => .int (k : Int)) (fun _ => True) h1
    | _ => False
  | .rng2 a b, ρ, h, Q => WpE C false a ρ h fun x h1 => WpE C false b ρ h1 fun y h2 => match x, y with
    | .int i, .int n => (n ≤ i ∨ (-(2 ^ 62) ≤ i ∧ i < 2 ^ 62 ∧ -(2 ^ 62) ≤ n ∧ n < 2 ^ 62)) ∧ Q ((List.range (n - i).toNat).map fun (k : Nat) => .int (i + (k : Int))) (fun _ => True) h2
    | _, _ => False
  | .own i, ρ, h, Q => match getS ρ i with
    | .own (.lst xs) => Q xs (fun _ => True) h
    | _ => False
  | .seq a, ρ, h, Q => WpE C false a ρ h fun x h1 => match viewT h1 x with
    | some xs => Q xs (fun h' => viewT h' x = some xs) h1
    | none => False
  | .chars a, ρ, h, Q => WpE C false a ρ h fun x h1 => match x with
    | .str z => Q (z.cps.toList.map fun c => .str ⟨#[c]⟩) (fun _ => True) h1
    | _ => False
  | .keys a, ρ, h, Q => WpE C false a ρ h fun x h1 => match x with
    | .dct kvs => Q (kvs.map fun kv => keyA kv.1) (fun _ => True) h1
    | _ => False
  | .zip a b, ρ, h, Q => WpE C false a ρ h fun x h1 => WpE C false b ρ h1 fun y h2 => match x, y with
    | .lst xs, .lst ys => Q ((xs.zip ys).map fun p => .tup [p.1, p.2]) (fun _ => True) h2
    | _, _ => False
def WpC (C : Ctx) : Oe → Env → AHeap → (Bool → AHeap → Prop) → Prop
  | .no, _, h, Q => Q true h
  | .so e, ρ, h, Q => WpT C e ρ h Q
/-- a test -/
def WpT (C : Ctx) : E → Env → AHeap → (Bool → AHeap → Prop) → Prop
  | .and a b, ρ, h, Q => WpT C a ρ h fun k h1 => if k = true then WpT C b ρ h1 Q else Q false h1
  | .or a b, ρ, h, Q => WpT C a ρ h fun k h1 => if k = true then Q true h1 else WpT C b ρ h1 Q
  | .not a, ρ, h, Q => WpT C a ρ h fun k h1 => Q (!k) h1
  | .cmp op a b, ρ, h, Q => WpE C true a ρ h fun x h1 => WpE C true b ρ h1 fun y h2 => cmpK h2 op x y fun z => match z with
    | .bl k => Q k h2
    | _ => False
  | .chain o1 o2 a b c, ρ, h, Q => WpE C false a ρ h fun x h1 => WpE C false b ρ h1 fun y h2 => cmpK h2 o1 x y fun z => match z with
    | .bl true => WpE C false c ρ h2 fun w h3 => cmpK h3 o2 y w fun z => match z with
      | .bl k => Q k h3
      | _ => False
    | .bl false => Q false h2
    | _ => False
  | .cbl b, _, h, Q => Q b h
  | .gIn neg a g, ρ, h, Q => WpE C false a ρ h fun x h1 => gInK (C.gdct g) neg x fun k => Q k h1
  | .tru e, ρ, h, Q => WpE C false e ρ h fun x h1 => truK h1 x fun k => Q k h1
  | _, _, _, _ => False
end

/-! ### statements -/
structure Kt where
  nx : Env → AHeap → Prop
  rt : AV → AHeap → Prop
  bk : Env → AHeap → Prop := fun _ _ => False
  ct : Env → AHeap → Prop := fun _ _ => False
  ex : Nat → Int → AHeap → Prop := fun _ _ _ => False
def forL (B : AV → Kt → Env → AHeap → Prop) (chk : AHeap → Prop) (D : Kt) : List AV → Env → AHeap → Prop
  | [], ρ, h => chk h ∧ D.nx ρ h
  | x :: xs, ρ, h => chk h ∧ B x { D with nx := forL B chk D xs, ct := forL B chk D xs, bk := D.nx } ρ h
def whL (T : Env → AHeap → (Bool → AHeap → Prop) → Prop) (B : Kt → Env → AHeap → Prop) (D : Kt) (ρ : Env) (h : AHeap) : Prop :=
  ∃ W : Nat → Env → AHeap → Prop, (∃ m, W m ρ h) ∧ ∀ m ρ h, W m ρ h → T ρ h fun b h1 =>
    if b = true then B { D with nx := fun ρ' h' => ∃ m', m' < m ∧ W m' ρ' h', ct := fun ρ' h' => ∃ m', m' < m ∧ W m' ρ' h', bk := D.nx } ρ h1 else D.nx ρ h1
def putFA (f : Str) (v : AV) : List (Str × AV) → List (Str × AV)
  | [] => [(f, v)]
  | (g, u) :: r => if g = f then (g, v) :: r else (g, u) :: putFA f v r
/-- a cell's item stored: o[k] = d -/
def putC (c : Cell) (k d : AV) (Q : Cell → Prop) : Prop :=
  match c with
  | .lst xs => match k with
    | .int i => match ixN xs.length i with
      | some j => Q (.lst (xs.set j d))
      | none => False
    | _ => False
  | .dct kvs => match keyOf k with
    | some k => kvs.length < 100000 ∧ Q (.dct (putD kvs k d))
    | none => False
  | _ => False
def appC (c : Cell) (d : AV) (Q : Cell → Prop) : Prop :=
  match c with
  | .lst xs => xs.length < sizeLine ∧ Q (.lst (xs ++ [d]))
  | _ => False
def augK (op : Operator) (x y : AV) (Q : KA) : Prop :=
  match op, x, y with
  | .Add, .int i, .int j => Q (.int (i + j))
  | .Sub, .int i, .int j => Q (.int (i - j))
  | _, _, _ => False
mutual
def WpS (C : Ctx) : S → Kt → Env → AHeap → Prop
  | .asg tg e, D, ρ, h => WpE C false e ρ h fun x h1 => tgK tg x ρ fun ρ' => D.nx ρ' h1
  | .asgO i n, D, ρ, h => WpN C n ρ h fun c h1 => D.nx (setS ρ i (.own c)) h1
  | .frz i, D, ρ, h => match getS ρ i with
    | .own (.lst xs) => D.nx (setS ρ i (.val (.lst xs))) h
    | .own (.dct xs) => D.nx (setS ρ i (.val (.dct xs))) h
    | _ => False
  | .par i j a b, D, ρ, h => WpE C false a ρ h fun x h1 => WpE C false b ρ h1 fun y h2 => D.nx (setS (setS ρ i (.val x)) j (.val y)) h2
  | .aug i op e, D, ρ, h => match getS ρ i with
    | .val x => WpE C false e ρ h fun y h1 => augK op x y fun z => D.nx (setS ρ i (.val z)) h1
    | _ => False
  | .app i e, D, ρ, h => match getS ρ i with
    | .own (.lst xs) => WpE C false e ρ h fun d h1 => xs.length < sizeLine ∧ D.nx (setS ρ i (.own (.lst (xs ++ [d])))) h1
    | _ => False
  | .appE o e, D, ρ, h => WpE C false o ρ h fun x h1 => match x with
    | .adr n => match cells h1 n with
      | .lst _ => WpE C false e ρ h1 fun d h2 => appC (cells h2 n) d fun c' => D.nx ρ (h2.set n c')
      | _ => False
    | _ => False
  | .put i k e, D, ρ, h => match getS ρ i with
    | .own c => WpE C false e ρ h fun d h1 => WpE C false k ρ h1 fun y h2 => putC c y d fun c' => D.nx (setS ρ i (.own c')) h2
    | _ => False
  | .putE o k e, D, ρ, h => WpE C false e ρ h fun d h1 => WpE C false o ρ h1 fun x h2 => WpE C false k ρ h2 fun y h3 => match x with
    | .adr n => putC (cells h3 n) y d fun c' => D.nx ρ (h3.set n c')
    | _ => False
  | .fld o f e, D, ρ, h => WpE C false e ρ h fun d h1 => WpE C false o ρ h1 fun x h2 => match x with
    | .adr n => match cells h2 n with
      | .obj c fs => C.fld c f = true ∧ fs.length < 1000 ∧ D.nx ρ (h2.set n (.obj c (putFA f d fs)))
      | _ => False
    | _ => False
  | .expr e, D, ρ, h => WpE C false e ρ h fun _ h1 => D.nx ρ h1
  | .ret e, D, ρ, h => WpE C false e ρ h fun d h1 => D.rt d h1
  | .retN, D, _, h => D.rt .non h
  | .ite c a b, D, ρ, h => WpT C c ρ h fun k h1 => if k = true then WpSs C a D ρ h1 else WpSs C b D ρ h1
  | .wh c b, D, ρ, h => whL (WpT C c) (WpSs C b) D ρ h
  | .for tg it b, D, ρ, h => WpI C it ρ h fun xs chk h1 => forL (fun x D ρ h => tgK tg x ρ fun ρ' => WpSs C b D ρ' h) chk D xs ρ h1
  | .pass, D, ρ, h => D.nx ρ h
  | .brk, D, ρ, h => D.bk ρ h
  | .cont, D, ρ, h => D.ct ρ h
  | .bad, _, _, _ => False
  | .rse c e, D, ρ, h => WpE C false e ρ h fun x h1 => match x with
    | .int n => D.ex c n h1
    | _ => False
def WpSs (C : Ctx) : Ss → Kt → Env → AHeap → Prop
  | .nil, D, ρ, h => D.nx ρ h
  | .cons s r, D, ρ, h => WpS C s { D with nx := WpSs C r D } ρ h
end

/-! ### a program -/
structure Fn where
  np : Nat
  ns : Nat
  body : Ss
/-! a def that tries a call: what the clause tells of the exception -/
inductive HB where
  | isC (c : Nat) | isT (cs : List Nat) | isVE | row
  | and (a b : HB) | or (a b : HB) | not (a : HB)
inductive HE where
  | non | bl (b : Bool) | row | hb (b : HB) | pair (s : Str)
inductive AT where
  | v (i : Nat) | s (z : Str)
structure TryF where
  g : Nat
  np : Nat
  ns : Nat
  args : List AT
  c : Nat
  i : Nat
  ok : Option (Option Str)
  gs : List (HB × HE)
  fin : Option HE
  aft : Option AV
structure Prg where
  fns : List (Nat × Fn)
  glob : List (Nat × AV) := []
  meth : List ((Nat × Str) × Nat) := []
  init : List (Nat × Nat) := []
  flds : List (Nat × Str) := []
  gdct : List (Nat × List (Str × Int)) := []
  tryf : List (Nat × TryF) := []
  sub : List ((Nat × Nat) × Bool) := []
def startS (F : Fn) (args : List AV) : Env := args.map .val ++ List.replicate (F.ns - args.length) .no
def ctxOf (P : Prg) (call : Nat → List AV → AHeap → (AV → AHeap → Prop) → Prop) : Ctx where
  glob g := P.glob.lookup g
  call := call
  meth c m := P.meth.lookup (c, m)
  init c := P.init.lookup c
  fld c f := P.flds.contains (c, f)
  gdct g := P.gdct.lookup g
/-- what the clause's tests say of an exception of the class c -/
def hbV (P : Prg) (c : Nat) : HB → Option Bool
  | .isC d => P.sub.lookup (c, d)
  | .isT ds => anyT P c ds
  | .isVE => some true
  | .row => some false
  | .and a b => match hbV P c a with
    | some true => hbV P c b
    | some false => some false
    | none => none
  | .or a b => match hbV P c a with
    | some true => some true
    | some false => hbV P c b
    | none => none
  | .not a => (hbV P c a).map (!·)
where anyT (P : Prg) (c : Nat) : List Nat → Option Bool
  | [] => some false
  | d :: r => match P.sub.lookup (c, d) with
    | some true => some true
    | some false => anyT P c r
    | none => none
def heV (P : Prg) (c : Nat) (n : Int) : HE → Option AV
  | .non => some .non
  | .bl b => some (.bl b)
  | .row => some (.int n)
  | .hb b => (hbV P c b).map .bl
  | .pair s => some (.tup [.str s, .int n])
def gsV (P : Prg) (c : Nat) (n : Int) (t : TryF) : List (HB × HE) → Option AV
  | [] => match t.fin with
    | some e => heV P c n e
    | none => t.aft
  | (b, e) :: r => match hbV P c b with
    | some true => heV P c n e
    | some false => gsV P c n t r
    | none => none
/-- what the clause returns -/
def tryV (P : Prg) (c : Nat) (n : Int) (t : TryF) : Option AV := match P.sub.lookup (c, t.c) with
  | some true => gsV P c n t t.gs
  | _ => none
def okV (t : TryF) (v : AV) : Option AV := match t.ok with
  | none => t.aft
  | some none => some v
  | some (some s) => some (.tup [.str s, v])
def argV (ds : List AV) : List AT → Option (List AV)
  | [] => some []
  | .v i :: r => match ds[i]?, argV ds r with
    | some d, some xs => some (d :: xs)
    | _, _ => none
  | .s z :: r => (argV ds r).map (.str z :: ·)
def bodyW (P : Prg) (rec : Nat → List AV → AHeap → (AV → AHeap → Prop) → Prop) (g : Nat) (args : List AV) (h : AHeap) (Q : AV → AHeap → Prop) (E : Nat → Int → AHeap → Prop) : Prop :=
  match P.fns.lookup g with
  | none => False
  | some F => args.length = F.np ∧ WpSs (ctxOf P rec) F.body { nx := fun _ h => Q .non h, rt := Q, ex := E } (startS F args) h
def tryW (P : Prg) (rec : Nat → List AV → AHeap → (AV → AHeap → Prop) → Prop) (t : TryF) (args : List AV) (h : AHeap) (Q : AV → AHeap → Prop) : Prop :=
  args.length = t.np ∧ match argV args t.args with
    | some xs => bodyW P rec t.g xs h (fun v h2 => match okV t v with
      | some d => Q d h2
      | none => False) (fun c n h2 => match tryV P c n t with
      | some d => Q d h2
      | none => False)
    | none => False
def callN (P : Prg) : Nat → Nat → List AV → AHeap → (AV → AHeap → Prop) → Prop
  | 0, _, _, _, _ => False
  | n + 1, f, args, h, Q => match P.fns.lookup f with
    | none => match P.tryf.lookup f with
      | some t => tryW P (callN P n) t args h Q
      | none => False
    | some F => args.length = F.np ∧ WpSs (ctxOf P (callN P n)) F.body { nx := fun _ h => Q .non h, rt := Q } (startS F args) h
end VL

set_option maxRecDepth 100000
set_option maxHeartbeats 2000000
/-! VL: how values stand in the heap. -/
namespace VL
open PySem L2 Evl

mutual
inductive Rep (K : PySem.W.Frag) (cs : List Addr) (F : Hp) : V → AV → Prop
  | non : Rep K cs F .non .non
  | bl (b : Bool) : Rep K cs F (.bl b) (.bl b)
  | int (i : Int) : Rep K cs F (.int i) (.int i)
  | str (s : Str) : Rep K cs F (.str s) (.str s)
  | tup {a : Addr} {vs : List V} {xs : List AV} : SqT K F a vs → Reps K cs F vs xs → Rep K cs F (.ref a) (.tup xs)
  | lst {a : Addr} {vs : List V} {xs : List AV} : F a = some (.lst vs) → Reps K cs F vs xs → Rep K cs F (.ref a) (.lst xs)
  | ro {a : Addr} {vs : List V} {xs : List AV} : SqL K F a vs → Reps K cs F vs xs → Rep K cs F (.ref a) (.ro xs)
  | dct {a : Addr} {o : Obj} {us : List (Key × V)} {xs : List (Key × AV)} : F a = some (.frz o (.dK us)) → RepK K cs F us xs → Rep K cs F (.ref a) (.dct xs)
  | adr {n : Nat} {a : Addr} : cs[n]? = some a → Rep K cs F (.ref a) (.adr n)
inductive Reps (K : PySem.W.Frag) (cs : List Addr) (F : Hp) : List V → List AV → Prop
  | nil : Reps K cs F [] []
  | cons {v : V} {vs : List V} {d : AV} {ds : List AV} : Rep K cs F v d → Reps K cs F vs ds → Reps K cs F (v :: vs) (d :: ds)
inductive RepK (K : PySem.W.Frag) (cs : List Addr) (F : Hp) : List (Key × V) → List (Key × AV) → Prop
  | nil : RepK K cs F [] []
  | cons {k : Key} {v : V} {vs : List (Key × V)} {d : AV} {ds : List (Key × AV)} : Rep K cs F v d → RepK K cs F vs ds → RepK K cs F ((k, v) :: vs) ((k, d) :: ds)
end
inductive RepF (K : PySem.W.Frag) (cs : List Addr) (F : Hp) : List (Str × V) → List (Str × AV) → Prop
  | nil : RepF K cs F [] []
  | cons {k : Str} {v : V} {vs : List (Str × V)} {d : AV} {ds : List (Str × AV)} : Rep K cs F v d → RepF K cs F vs ds → RepF K cs F ((k, v) :: vs) ((k, d) :: ds)

section
variable {K : PySem.W.Frag} {cs cs' : List Addr} {F F' : Hp}
theorem get_pre {r : List Addr} (hc : cs' = cs ++ r) {n : Nat} {a : Addr} (h : cs[n]? = some a) : cs'[n]? = some a := by
  subst hc
  rw [List.getElem?_append_left (List.getElem?_eq_some_iff.mp h).1]
  exact h
mutual
theorem Rep.mono (e : Ex F F') (hc : ∃ r, cs' = cs ++ r) : ∀ {v : V} {d : AV}, Rep K cs F v d → Rep K cs' F' v d
  | _, _, .non => .non
  | _, _, .bl b => .bl b
  | _, _, .int i => .int i
  | _, _, .str s => .str s
  | _, _, .tup h r => .tup (ex_t e h) (Reps.mono e hc r)
  | _, _, .lst h r => .lst (e _ _ h) (Reps.mono e hc r)
  | _, _, .ro h r => .ro (ex_l e h) (Reps.mono e hc r)
  | _, _, .dct h r => .dct (e _ _ h) (RepK.mono e hc r)
  | _, _, .adr h => .adr (let ⟨_, q⟩ := hc; get_pre q h)
theorem Reps.mono (e : Ex F F') (hc : ∃ r, cs' = cs ++ r) : ∀ {v : List V} {d : List AV}, Reps K cs F v d → Reps K cs' F' v d
  | _, _, .nil => .nil
  | _, _, .cons h r => .cons (Rep.mono e hc h) (Reps.mono e hc r)
theorem RepK.mono (e : Ex F F') (hc : ∃ r, cs' = cs ++ r) : ∀ {v : List (Key × V)} {d : List (Key × AV)}, RepK K cs F v d → RepK K cs' F' v d
  | _, _, .nil => .nil
  | _, _, .cons h r => .cons (Rep.mono e hc h) (RepK.mono e hc r)
end
theorem RepF.mono (e : Ex F F') (hc : ∃ r, cs' = cs ++ r) {v : List (Str × V)} {d : List (Str × AV)} (h : RepF K cs F v d) : RepF K cs' F' v d := by
  induction h with
  | nil => exact .nil
  | cons h _ ih => exact .cons (h.mono e hc) ih
theorem Reps.length {vs : List V} {xs : List AV} (h : Reps K cs F vs xs) : vs.length = xs.length := by
  revert xs
  induction vs with
  | nil => intro xs h; cases h; rfl
  | cons v vs ih => intro xs h; cases h with | cons h r => simp [ih r]
theorem Reps.get {vs : List V} {xs : List AV} (h : Reps K cs F vs xs) {i : Nat} {d : AV} (e : xs[i]? = some d) : ∃ v, vs[i]? = some v ∧ Rep K cs F v d := by
  revert xs i
  induction vs with
  | nil => intro xs h i e; cases h; simp at e
  | cons v vs ih =>
    intro xs h i e
    cases h with
    | cons h r =>
      cases i with
      | zero => simp at e; subst e; exact ⟨v, rfl, h⟩
      | succ i => simpa using ih r (by simpa using e)
theorem Reps.get' {vs : List V} {xs : List AV} (h : Reps K cs F vs xs) {i : Nat} {v : V} (e : vs[i]? = some v) : ∃ d, xs[i]? = some d ∧ Rep K cs F v d := by
  revert xs i
  induction vs with
  | nil => intro xs h i e; cases h; simp at e
  | cons w vs ih =>
    intro xs h i e
    cases h with
    | cons h r =>
      cases i with
      | zero => simp at e; subst e; exact ⟨_, rfl, h⟩
      | succ i => simpa using ih r (by simpa using e)
theorem Reps.append {vs ws : List V} {xs ys : List AV} (h : Reps K cs F vs xs) (g : Reps K cs F ws ys) : Reps K cs F (vs ++ ws) (xs ++ ys) := by
  revert xs
  induction vs with
  | nil => intro xs h; cases h; exact g
  | cons v vs ih => intro xs h; cases h with | cons h r => exact .cons h (ih r)
theorem Reps.drop {vs : List V} {xs : List AV} (h : Reps K cs F vs xs) (n : Nat) : Reps K cs F (vs.drop n) (xs.drop n) := by
  induction n generalizing vs xs with
  | zero => exact h
  | succ n ih => cases h with
    | nil => exact .nil
    | cons h r => exact ih r
theorem Reps.take {vs : List V} {xs : List AV} (h : Reps K cs F vs xs) (n : Nat) : Reps K cs F (vs.take n) (xs.take n) := by
  induction n generalizing vs xs with
  | zero => exact .nil
  | succ n ih => cases h with
    | nil => exact .nil
    | cons h r => exact .cons h (ih r)
theorem Reps.rev {vs : List V} {xs : List AV} (h : Reps K cs F vs xs) : Reps K cs F vs.reverse xs.reverse := by
  induction vs generalizing xs with
  | nil => cases h; exact .nil
  | cons v vs ih => cases h with
    | cons h r =>
      rw [List.reverse_cons, List.reverse_cons]
      exact (ih r).append (.cons h .nil)
theorem Reps.cut {vs : List V} {xs : List AV} (h : Reps K cs F vs xs) (lo hi : Option Int) : Reps K cs F (cutV vs lo hi) (cut xs lo hi) := by
  unfold cutV VL.cut
  rw [h.length]
  exact (h.drop _).take _
theorem Reps.set {vs : List V} {xs : List AV} (h : Reps K cs F vs xs) {v : V} {d : AV} (r : Rep K cs F v d) (i : Nat) : Reps K cs F (vs.set i v) (xs.set i d) := by
  induction i generalizing vs xs with
  | zero => cases h with
    | nil => exact .nil
    | cons h t => exact .cons r t
  | succ n ih => cases h with
    | nil => exact .nil
    | cons h t => exact .cons h (ih t)
theorem Reps.at {vs : List V} {xs : List AV} (h : Reps K cs F vs xs) {i : Int} {d : AV} (e : atI xs i = some d) : ∃ v, atI vs i = some v ∧ Rep K cs F v d := by
  unfold atI at e ⊢
  rw [h.length]
  cases q : ixN xs.length i with
  | none => rw [q] at e; cases e
  | some j => rw [q] at e; exact h.get e
theorem RepK.length {vs : List (Key × V)} {xs : List (Key × AV)} (h : RepK K cs F vs xs) : vs.length = xs.length := by
  revert xs
  induction vs with
  | nil => intro xs h; cases h; rfl
  | cons v vs ih => intro xs h; cases h with | cons h r => simp [ih r]
theorem RepK.get {vs : List (Key × V)} {xs : List (Key × AV)} (h : RepK K cs F vs xs) {k : Key} : (∃ v d, valV vs k = some v ∧ getD xs k = some d ∧ Rep K cs F v d) ∨ (valV vs k = none ∧ getD xs k = none) := by
  revert xs
  induction vs with
  | nil => intro xs h; cases h; exact .inr ⟨rfl, rfl⟩
  | cons v vs ih =>
    intro xs h
    cases h with
    | cons h r =>
      rename_i k' v' d' ds'
      unfold valV getD
      by_cases q : k' = k
      · subst q
        exact .inl ⟨v', d', by simp [List.find?_cons], by simp [List.find?_cons], h⟩
      · have := ih r
        unfold valV getD at this
        simpa [List.find?_cons, q] using this
theorem RepK.any {vs : List (Key × V)} {xs : List (Key × AV)} (h : RepK K cs F vs xs) {k : Key} : (vs.any fun kv => decide (kv.1 = k)) = (xs.any fun kv => decide (kv.1 = k)) := by
  revert xs
  induction vs with
  | nil => intro xs h; cases h; rfl
  | cons v vs ih =>
    intro xs h
    cases h with
    | cons h r => simp [ih r]
theorem RepK.append {vs ws : List (Key × V)} {xs ys : List (Key × AV)} (h : RepK K cs F vs xs) (g : RepK K cs F ws ys) : RepK K cs F (vs ++ ws) (xs ++ ys) := by
  revert xs
  induction vs with
  | nil => intro xs h; cases h; exact g
  | cons v vs ih => intro xs h; cases h with | cons h r => exact .cons h (ih r)
theorem RepK.mapPut {vs : List (Key × V)} {xs : List (Key × AV)} (h : RepK K cs F vs xs) {k : Key} {v : V} {d : AV} (r : Rep K cs F v d) :
    RepK K cs F (vs.map fun kv => if kv.1 = k then (kv.1, v) else kv) (xs.map fun kv => if kv.1 = k then (kv.1, d) else kv) := by
  revert xs
  induction vs with
  | nil => intro xs h; cases h; exact .nil
  | cons w vs ih =>
    intro xs h
    cases h with
    | cons h t =>
      rename_i k' v' d' ds'
      simp only [List.map_cons]
      by_cases q : k' = k
      · rw [if_pos q, if_pos q]; exact .cons r (ih t)
      · rw [if_neg q, if_neg q]; exact .cons h (ih t)
theorem RepK.put {vs : List (Key × V)} {xs : List (Key × AV)} (h : RepK K cs F vs xs) {k : Key} {v : V} {d : AV} (r : Rep K cs F v d) : RepK K cs F (putK vs k v) (putD xs k d) := by
  unfold putK putD
  rw [h.any]
  split
  · exact h.mapPut r
  · exact h.append (.cons r .nil)
theorem RepF.get {vs : List (Str × V)} {xs : List (Str × AV)} (h : RepF K cs F vs xs) {k : Str} {d : AV} (e : xs.lookup k = some d) : ∃ v, vs.lookup k = some v ∧ Rep K cs F v d := by
  induction h with
  | nil => simp at e
  | cons h r ih =>
    rw [List.lookup_cons] at e ⊢
    split at e
    · cases e
      exact ⟨_, rfl, h⟩
    · exact ih e
theorem RepF.none {vs : List (Str × V)} {xs : List (Str × AV)} (h : RepF K cs F vs xs) {k : Str} (e : xs.lookup k = none) : vs.lookup k = none := by
  induction h with
  | nil => rfl
  | cons h r ih =>
    rw [List.lookup_cons] at e ⊢
    split at e
    · cases e
    · exact ih e
theorem RepF.length {vs : List (Str × V)} {xs : List (Str × AV)} (h : RepF K cs F vs xs) : vs.length = xs.length := by
  induction h with
  | nil => rfl
  | cons h r ih => simp [ih]
theorem RepF.put {vs : List (Str × V)} {xs : List (Str × AV)} (h : RepF K cs F vs xs) {f : Str} {v : V} {d : AV} (r : Rep K cs F v d) : RepF K cs F (putF f v vs) (putFA f d xs) := by
  induction h with
  | nil => exact .cons r .nil
  | cons h t ih =>
    rename_i k v' vs' d' ds'
    show RepF K cs F (if k = f then (k, v) :: vs' else (k, v') :: putF f v vs') (if k = f then (k, d) :: ds' else (k, d') :: putFA f d ds')
    by_cases q : k = f
    · rw [if_pos q, if_pos q]; exact .cons r t
    · rw [if_neg q, if_neg q]; exact .cons h ih
theorem Reps.ints {vs : List V} {xs : List AV} (h : Reps K cs F vs xs) {ns : List Int} (e : asInts xs = some ns) : vs = ns.map V.int := by
  revert xs ns
  induction vs with
  | nil => intro xs h ns e; cases h; simp [asInts] at e; subst e; rfl
  | cons v vs ih =>
    intro xs h ns e
    cases h with
    | cons h r =>
      cases h <;> simp [asInts] at e
      obtain ⟨l, e1, e2⟩ := e
      subst e2
      rw [ih r e1]; rfl
theorem Reps.bools {vs : List V} {xs : List AV} (h : Reps K cs F vs xs) {ns : List Bool} (e : asBools xs = some ns) : vs = ns.map V.bl := by
  revert xs ns
  induction vs with
  | nil => intro xs h ns e; cases h; simp [asBools] at e; subst e; rfl
  | cons v vs ih =>
    intro xs h ns e
    cases h with
    | cons h r =>
      cases h <;> simp [asBools] at e
      obtain ⟨l, e1, e2⟩ := e
      subst e2
      rw [ih r e1]; rfl
theorem Reps.strs {vs : List V} {xs : List AV} (h : Reps K cs F vs xs) {ns : List Str} (e : asStrs xs = some ns) : vs = ns.map V.str := by
  revert xs ns
  induction vs with
  | nil => intro xs h ns e; cases h; simp [asStrs] at e; subst e; rfl
  | cons v vs ih =>
    intro xs h ns e
    cases h with
    | cons h r =>
      cases h <;> simp [asStrs] at e
      obtain ⟨l, e1, e2⟩ := e
      subst e2
      rw [ih r e1]; rfl
mutual
theorem Rep.dp {H : Hp} (e : Ex F H) : ∀ {v : V} {d : AV}, Rep K cs F v d → ∀ {p : PyData}, pd d = some p → Dp K H v p
  | _, _, .non, _, q => by simp [pd] at q; subst q; exact .non
  | _, _, .bl b, _, q => by simp [pd] at q; subst q; exact .bl b
  | _, _, .int i, _, q => by simp [pd] at q; subst q; exact .int i
  | _, _, .str s, _, q => by simp [pd] at q; subst q; exact .str s
  | _, _, .tup h r, _, q => by
    simp [pd] at q
    obtain ⟨l, e1, e2⟩ := q
    subst e2
    exact .tup (ex_t e h) (Reps.dp e r e1)
  | _, _, .lst h r, _, q => by
    simp [pd] at q
    obtain ⟨l, e1, e2⟩ := q
    subst e2
    exact .lst (sq_of (e _ _ h)) (Reps.dp e r e1)
  | _, _, .ro h r, _, q => by
    simp [pd] at q
    obtain ⟨l, e1, e2⟩ := q
    subst e2
    exact .lst (ex_l e h) (Reps.dp e r e1)
  | _, _, .dct h r, _, q => by simp [pd] at q
  | _, _, .adr h, _, q => by simp [pd] at q
theorem Reps.dp {H : Hp} (e : Ex F H) : ∀ {v : List V} {d : List AV}, Reps K cs F v d → ∀ {p : List PyData}, pds d = some p → DpAll K H v p
  | _, _, .nil, _, q => by simp [pds] at q; subst q; exact .nil
  | _, _, .cons h r, _, q => by
    simp [pds, Option.bind_eq_some_iff] at q
    obtain ⟨d1, e1, l, e2, e3⟩ := q
    subst e3
    exact .cons (Rep.dp e h e1) (Reps.dp e r e2)
end
end

/-! ### states -/
def COk (K : PySem.W.Frag) (Cl : Nat → Addr) (cs : List Addr) (F H : Hp) (a : Addr) : Cell → Prop
  | .lst xs => ∃ vs, H a = some (.lst vs) ∧ Reps K cs F vs xs
  | .dct xs => ∃ us, H a = some (.dK us) ∧ RepK K cs F us xs
  | .obj c fs => ∃ dx fvs, H a = some (.ins (Cl c) dx fvs) ∧ RepF K cs F fvs fs
  | .dead => H a ≠ none
structure StOk (K : PySem.W.Frag) (Cl : Nat → Addr) (cs : List Addr) (F H : Hp) (h : AHeap) : Prop where
  sub : Ex F H
  len : cs.length = h.length
  nd : cs.Nodup
  cell : ∀ n a, cs[n]? = some a → COk K Cl cs F H a (cells h n)
  free : ∀ a, a ∈ cs → F a = none
structure Stp (cs : List Addr) (F H : Hp) (cs' : List Addr) (F' H' : Hp) : Prop where
  f : Ex F F'
  c : ∃ r, cs' = cs ++ r
  k : ∀ b o, H b = some o → b ∉ cs → H' b = some o
  d : ∀ b, H b ≠ none → H' b ≠ none
  n : ∀ b, F b = none → F' b ≠ none → H b = none
  m : ∀ b, b ∈ cs' → b ∉ cs → H b = none
structure EnvOk (K : PySem.W.Frag) (Cl : Nat → Addr) (cs : List Addr) (F H : Hp) (σ : L2.St) (ρ : Env) : Prop where
  len : ρ.length = σ.length
  val : ∀ i d, getS ρ i = .val d → ∃ v, σ[i]? = some (some v) ∧ Rep K cs F v d
  own : ∀ i c, getS ρ i = .own c → ∃ a, σ[i]? = some (some (.ref a)) ∧ a ∉ cs ∧ F a = none ∧ COk K Cl cs F H a c
  dis : ∀ i j c c' a, i ≠ j → getS ρ i = .own c → getS ρ j = .own c' → σ[i]? = some (some (.ref a)) → σ[j]? ≠ some (some (.ref a))

section
variable {K : PySem.W.Frag} {Cl : Nat → Addr} {cs cs' cs'' : List Addr} {F F' F'' H H' H'' : Hp} {σ : L2.St} {ρ : Env} {h h' : AHeap} {a : Addr} {c : Cell}
theorem COk.some (x : COk K Cl cs F H a c) : H a ≠ none := by
  cases c with
  | lst xs => obtain ⟨vs, e, _⟩ := x; rw [e]; simp
  | dct xs => obtain ⟨vs, e, _⟩ := x; rw [e]; simp
  | obj c fs => obtain ⟨dx, vs, e, _⟩ := x; rw [e]; simp
  | dead => exact x
/-- the object at a as it was -/
theorem COk.mono (x : COk K Cl cs F H a c) (e : Ex F F') (hc : ∃ r, cs' = cs ++ r) (k : ∀ o, H a = Option.some o → H' a = Option.some o) : COk K Cl cs' F' H' a c := by
  cases c with
  | lst xs => obtain ⟨vs, q, r⟩ := x; exact ⟨vs, k _ q, r.mono e hc⟩
  | dct xs => obtain ⟨vs, q, r⟩ := x; exact ⟨vs, k _ q, r.mono e hc⟩
  | obj c fs => obtain ⟨dx, vs, q, r⟩ := x; exact ⟨dx, vs, k _ q, r.mono e hc⟩
  | dead =>
    show H' a ≠ none
    have x' : H a ≠ none := x
    cases q : H a with
    | none => exact absurd q x'
    | some o => rw [k o q]; simp
theorem Stp.refl : Stp cs F H cs F H := ⟨fun _ _ h => h, ⟨[], by simp⟩, fun _ _ h _ => h, fun _ h => h, fun b h1 h2 => absurd h1 h2, fun b h1 h2 => absurd h1 h2⟩
theorem Stp.trans (x : Stp cs F H cs' F' H') (y : Stp cs' F' H' cs'' F'' H'') : Stp cs F H cs'' F'' H'' where
  f := x.f.trans y.f
  c := by
    obtain ⟨r, e⟩ := x.c
    obtain ⟨s, e2⟩ := y.c
    exact ⟨r ++ s, by rw [e2, e, List.append_assoc]⟩
  k := fun b o e n => y.k b o (x.k b o e n) fun z => by
    have := x.m b z n
    rw [e] at this; cases this
  d := fun b e => y.d b (x.d b e)
  n := fun b e1 e2 => by
    by_cases q : F' b = none
    · have z := y.n b q e2
      cases w : H b with
      | none => rfl
      | some o => exact absurd z (x.d b (by rw [w]; simp))
    · exact x.n b e1 q
  m := fun b e1 e2 => by
    by_cases q : b ∈ cs'
    · exact x.m b q e2
    · have z := y.m b e1 q
      cases w : H b with
      | none => rfl
      | some o => exact absurd z (x.d b (by rw [w]; simp))
theorem Stp.fresh (x : Stp cs F H cs' F' H') {b : Addr} (h : H' b = none) : H b = none := by
  cases w : H b with
  | none => rfl
  | some o => exact absurd h (x.d b (by rw [w]; simp))
theorem EnvOk.step (E : EnvOk K Cl cs F H σ ρ) (x : Stp cs F H cs' F' H') : EnvOk K Cl cs' F' H' σ ρ where
  len := E.len
  val := fun i d e => by
    obtain ⟨v, q, r⟩ := E.val i d e
    exact ⟨v, q, r.mono x.f x.c⟩
  own := fun i c e => by
    obtain ⟨a, q, n1, n2, r⟩ := E.own i c e
    have hs := r.some
    refine ⟨a, q, fun z => hs (x.m a z n1), ?_, r.mono x.f x.c fun o ho => x.k a o ho n1⟩
    cases w : F' a with
    | none => rfl
    | some o => exact absurd (x.n a n2 (by rw [w]; simp)) hs
  dis := E.dis

/-! ### cells, slots -/
theorem cells_app {n : Nat} (hn : n < h.length) : cells (h ++ h') n = cells h n := by
  unfold cells
  rw [List.getElem?_append_left hn]
theorem cells_new : cells (h ++ [c]) h.length = c := by
  unfold cells
  simp
theorem cells_set_same {n : Nat} (hn : n < h.length) : cells (h.set n c) n = c := by
  unfold cells
  simp [hn]
theorem cells_set_ne {n m : Nat} (hn : n ≠ m) : cells (h.set n c) m = cells h m := by
  unfold cells
  rw [List.getElem?_set_ne hn]
theorem getS_set_same {i : Nat} {v : Slot} (hi : i < ρ.length) : getS (setS ρ i v) i = v := by
  induction ρ generalizing i with
  | nil => cases hi
  | cons x r ih => cases i with
    | zero => rfl
    | succ i => exact ih (by simpa using hi)
theorem getS_set_ne {i j : Nat} {v : Slot} (hi : i ≠ j) : getS (setS ρ i v) j = getS ρ j := by
  induction ρ generalizing i j with
  | nil => rfl
  | cons x r ih => cases i with
    | zero => cases j with
      | zero => exact absurd rfl hi
      | succ j => rfl
    | succ i => cases j with
      | zero => rfl
      | succ j => exact ih (fun e => hi (by rw [e]))
theorem setS_length {i : Nat} {v : Slot} : (setS ρ i v).length = ρ.length := by
  induction ρ generalizing i with
  | nil => rfl
  | cons x r ih => cases i with
    | zero => rfl
    | succ i => simp [setS, ih]
theorem getS_lt {i : Nat} (h : getS ρ i ≠ .no) : i < ρ.length := by
  induction ρ generalizing i with
  | nil => exact absurd rfl h
  | cons x r ih => cases i with
    | zero => simp
    | succ i => simpa using ih h
theorem setS_out {i : Nat} {v : Slot} (hi : ρ.length ≤ i) : setS ρ i v = ρ := by
  induction ρ generalizing i with
  | nil => rfl
  | cons x r ih => cases i with
    | zero => simp at hi
    | succ i => simp only [setS]; rw [ih (by simpa using hi)]
/-- a slot is given a value -/
theorem EnvOk.setV (E : EnvOk K Cl cs F H σ ρ) {i : Nat} {v : V} {d : AV} (r : Rep K cs F v d) : EnvOk K Cl cs F H (σ.set i (some v)) (setS ρ i (.val d)) := by
  by_cases hi : i < ρ.length
  · have hs : i < σ.length := by rw [← E.len]; exact hi
    refine ⟨by rw [setS_length, List.length_set, E.len], fun j e h => ?_, fun j c h => ?_, fun j k c c' a ne h1 h2 h3 => ?_⟩
    · by_cases hj : i = j
      · subst hj
        rw [getS_set_same hi] at h
        cases h
        exact ⟨v, by rw [List.getElem?_set_self hs], r⟩
      · rw [getS_set_ne hj] at h
        rw [List.getElem?_set_ne hj]
        exact E.val j e h
    · by_cases hj : i = j
      · subst hj
        rw [getS_set_same hi] at h
        cases h
      · rw [getS_set_ne hj] at h
        rw [List.getElem?_set_ne hj]
        exact E.own j c h
    · have n1 : i ≠ j := fun z => by subst z; rw [getS_set_same hi] at h1; cases h1
      have n2 : i ≠ k := fun z => by subst z; rw [getS_set_same hi] at h2; cases h2
      rw [getS_set_ne n1] at h1
      rw [getS_set_ne n2] at h2
      rw [List.getElem?_set_ne n1] at h3
      rw [List.getElem?_set_ne n2]
      exact E.dis j k c c' a ne h1 h2 h3
  · have hi' : ρ.length ≤ i := by omega
    have hs : σ.length ≤ i := by rw [← E.len]; exact hi'
    rw [setS_out hi', List.set_eq_of_length_le hs]
    exact E
/-- a slot is forgotten -/
theorem EnvOk.setN (E : EnvOk K Cl cs F H σ ρ) {i : Nat} {v : Option V} : EnvOk K Cl cs F H (σ.set i v) (setS ρ i .no) := by
  by_cases hi : i < ρ.length
  · refine ⟨by rw [setS_length, List.length_set, E.len], fun j e h => ?_, fun j c h => ?_, fun j k c c' a ne h1 h2 h3 => ?_⟩
    · by_cases hj : i = j
      · subst hj
        rw [getS_set_same hi] at h
        cases h
      · rw [getS_set_ne hj] at h
        rw [List.getElem?_set_ne hj]
        exact E.val j e h
    · by_cases hj : i = j
      · subst hj
        rw [getS_set_same hi] at h
        cases h
      · rw [getS_set_ne hj] at h
        rw [List.getElem?_set_ne hj]
        exact E.own j c h
    · have n1 : i ≠ j := fun z => by subst z; rw [getS_set_same hi] at h1; cases h1
      have n2 : i ≠ k := fun z => by subst z; rw [getS_set_same hi] at h2; cases h2
      rw [getS_set_ne n1] at h1
      rw [getS_set_ne n2] at h2
      rw [List.getElem?_set_ne n1] at h3
      rw [List.getElem?_set_ne n2]
      exact E.dis j k c c' a ne h1 h2 h3
  · have hi' : ρ.length ≤ i := by omega
    have hs : σ.length ≤ i := by rw [← E.len]; exact hi'
    rw [setS_out hi', List.set_eq_of_length_le hs]
    exact E
theorem EnvOk.wipe (E : EnvOk K Cl cs F H σ ρ) (vs : List Nat) : EnvOk K Cl cs F H (wipe σ vs) (wipeS ρ vs) := by
  induction vs with
  | nil => exact E
  | cons v vs ih => exact ih.setN
/-- a slot's own cell: new, or changed -/
theorem EnvOk.setO (E : EnvOk K Cl cs F H σ ρ) {i : Nat} {a : Addr} {c : Cell} {o : HO} (n1 : a ∉ cs) (n2 : F a = none) (r : COk K Cl cs F (upd H a o) a c)
    (old : ∀ j c', j ≠ i → getS ρ j = .own c' → σ[j]? ≠ some (some (.ref a))) : EnvOk K Cl cs F (upd H a o) (σ.set i (some (.ref a))) (setS ρ i (.own c)) := by
  have key : ∀ {j c'} , j ≠ i → getS ρ j = .own c' → ∃ b, σ[j]? = some (some (.ref b)) ∧ b ∉ cs ∧ F b = none ∧ COk K Cl cs F (upd H a o) b c' := fun {j c'} hj h => by
    obtain ⟨b, e1, e2, e3, e4⟩ := E.own j c' h
    refine ⟨b, e1, e2, e3, e4.mono (fun _ _ q => q) ⟨[], by simp⟩ fun u hu => ?_⟩
    rw [upd_ne]
    · exact hu
    · intro z
      subst z
      exact old j c' hj h e1
  by_cases hi : i < ρ.length
  · have hs : i < σ.length := by rw [← E.len]; exact hi
    refine ⟨by rw [setS_length, List.length_set, E.len], fun j e h => ?_, fun j c h => ?_, fun j k c1 c2 b ne h1 h2 h3 => ?_⟩
    · by_cases hj : i = j
      · subst hj
        rw [getS_set_same hi] at h
        cases h
      · rw [getS_set_ne hj] at h
        rw [List.getElem?_set_ne hj]
        exact E.val j e h
    · by_cases hj : i = j
      · subst hj
        rw [getS_set_same hi] at h
        cases h
        exact ⟨a, by rw [List.getElem?_set_self hs], n1, n2, r⟩
      · rw [getS_set_ne hj] at h
        rw [List.getElem?_set_ne hj]
        exact key (Ne.symm hj) h
    · by_cases hj : i = j
      · subst hj
        rw [List.getElem?_set_self hs] at h3
        cases h3
        rw [getS_set_ne ne] at h2
        rw [List.getElem?_set_ne ne]
        exact old k c2 (Ne.symm ne) h2
      · by_cases hk : i = k
        · subst hk
          rw [List.getElem?_set_self hs]
          rw [getS_set_ne hj] at h1
          rw [List.getElem?_set_ne hj] at h3
          intro z
          cases z
          exact old j c1 (Ne.symm hj) h1 h3
        · rw [getS_set_ne hj] at h1
          rw [getS_set_ne hk] at h2
          rw [List.getElem?_set_ne hj] at h3
          rw [List.getElem?_set_ne hk]
          exact E.dis j k c1 c2 b ne h1 h2 h3
  · have hi' : ρ.length ≤ i := by omega
    have hs : σ.length ≤ i := by rw [← E.len]; exact hi'
    rw [setS_out hi', List.set_eq_of_length_le hs]
    refine ⟨E.len, E.val, fun j c h => ?_, E.dis⟩
    have hj : j ≠ i := fun z => by
      subst z
      exact absurd (getS_lt (ρ := ρ) (i := j) (by rw [h]; simp)) hi
    exact key hj h
end
end VL

set_option maxRecDepth 100000
set_option maxHeartbeats 2000000
/-! VL: ranges whose ends are of any size. -/
namespace PySem
section
variable {prog : Program} {w : World} {A : Around} {E : Value → Shared → Prop} {s : Shared}
theorem vl_extend_long {R : Result → Shared → Prop} {r : Addr} {a b c : Int} {t u v : Tok} {n : Nat} (hh : A.handled = none) (hr : IsRange s.heap r a b c t u v) (hbig : Builtin.Range.small a b c = false)
    (hn : Builtin.Range.rangeSize a b c = n) (hlen : n ≤ 2 ^ 24) (S : Addr) (res : Value) (c₀ : Nat) (hS : s.heap.get? S = some { cls := .type "list", data := .seq #[] c₀ })
    (hR : ∀ h' tk acc' c', (∀ b o, b ≠ S → s.heap.get? b = some o → h'.get? b = some o) → h'.get? S = some { cls := .type "list", dict := none, data := .seq acc' c', slots := #[] } →
      ItemsOf (fun i v => ∃ t, v = .int (a + i * c) t) acc' n → R (.ok (.ret res)) { s with heap := h', toks := tk }) :
    wpAny (model prog w) A.in1 (Builtin.List.listExtendWith (.ref S) (.ref r) res)
      (fun fin s' => match fin with | .done f => R (.ok f) s' | .again c' => c'.quiet = true ∧ codeAny (model prog w) A c' R s') (fun e s' => R (.error e) s') s := by
  have hSr : S ≠ r := fun e => by rw [e, hr] at hS; simp at hS
  have hSlt : S < s.heap.objs.size := Heap.lt_size hS
  have hSI : S ≠ s.heap.objs.size := Nat.ne_of_lt hSlt
  have hSf : S ∉ [s.heap.objs.size] := fun hm => hSI (List.mem_singleton.mp hm)
  have W := (Walks.longrange (prog := prog) (w := w) (A := A.in1) hh s.heap.objs.size a c n).toS
  have key : ∀ (h : Heap) (c₁ tk : Nat), IsLongIter h s.heap.objs.size (a + ((0 : Nat) : Int) * c) ((n : Int) - ((0 : Nat) : Int)) c → (∀ b o, b ≠ S → s.heap.get? b = some o → h.get? b = some o) →
      h.get? S = some { cls := .type "list", data := .seq #[] c₁ } → codeAny (model prog w) A (.builtin "list.extend.loop" ⟨[.ref S, .ref s.heap.objs.size, res], []⟩) R { s with heap := h, toks := tk } := by
    intro h c₁ tk hit hk hS₁
    refine codeAny_extend_loopS W (by rw [sizeLine_eq]; omega) S hSf res n 0 _ #[] c₁ rfl (Nat.zero_le _) hit hS₁ (ItemsOf.nil _) fun s' acc' c' hm hS' hacc => ?_
    rw [Moved.eq_with hm]
    refine hR s'.heap s'.toks acc' c' (fun b o hb e => hm.heap b o (fun hmem => ?_) (hk b o hb e)) hS' hacc
    rcases List.mem_cons.mp hmem with e' | hmem
    · exact hb e'
    · exact absurd (Heap.lt_size e) (by rw [List.mem_singleton.mp hmem]; exact Nat.lt_irrefl _)
  unfold Builtin.List.listExtendWith
  refine wpAny_bind (wpAny_typeOf (T := "range") ⟨_, hr, rfl⟩ ?_)
  have h1 : Builtin.List.listSameRef (.ref S) (.ref r) = false := by simp [Builtin.List.listSameRef, hSr]
  have h2 : (Value.type "range" == Value.type "list") = false := by decide
  have h3 : (Value.type "range" == Value.type "tuple") = false := by decide
  simp only [h1, h2, h3, Bool.or_false, Bool.false_eq_true, if_false]
  refine wpAny_bind (wpAny_pyIter_longrange hr hbig ?_)
  refine wpAny_bind (wpAny_holding (wpAny_hint_range (n := n) (Heap.get?_push_of_some _ hr) hn hlen ?_))
  have hit₁ : IsLongIter (s.heap.push { cls := .type "longrange_iterator", data := .fields #[rawInt a, rawInt (Builtin.Range.rangeSize a b c), rawInt c] }) s.heap.objs.size (a + ((0 : Nat) : Int) * c) ((n : Int) - ((0 : Nat) : Int)) c := by
    show IsLongIter _ _ _ _ _; rw [hn]; simpa using Heap.get?_push_size _ rfl
  have hS₁ := Heap.get?_push_of_some { cls := .type "longrange_iterator", data := .fields #[rawInt a, rawInt (Builtin.Range.rangeSize a b c), rawInt c] } hS
  refine wpAny_ite_split (fun _ => ?_) (fun _ => wpAny_pure ⟨plainId_quiet F.plain_extend_loop _, key _ c₀ _ hit₁ (fun b o _ e => Heap.get?_push_of_some _ e) hS₁⟩)
  refine wpAny_bind (wpAny_rule ?_)
  refine wpAny_bind ?_
  show wpAny _ _ (updateSeq S (·.push .none) >>= fun _ => updateSeq S (·.pop)) _ _ _
  refine wpAny_bind (wpAny_updateSeq hS₁ rfl ?_)
  have hS₂ := Heap.get?_update_self (Obj.mapSeq (·.push Value.none)) hS₁ rfl
  refine wpAny_updateSeq (hz := by seq_fits) hS₂ rfl ?_
  have hS₃ := Heap.get?_update_self (Obj.mapSeq (·.pop)) hS₂ rfl
  refine wpAny_pure ⟨plainId_quiet F.plain_extend_loop _, key _ _ _ ?_ (fun b o hb e => ?_) hS₃⟩
  · exact (Heap.get?_update_other _ _ hSI).trans ((Heap.get?_update_other _ _ hSI).trans hit₁)
  · exact (Heap.get?_update_other _ _ (Ne.symm hb)).trans ((Heap.get?_update_other _ _ (Ne.symm hb)).trans (Heap.get?_push_of_some _ e))
theorem vl_init_long {R : Result → Shared → Prop} {r : Addr} {a b c : Int} {t u v : Tok} {n : Nat} (hh : A.handled = none) (hr : IsRange s.heap r a b c t u v) (hbig : Builtin.Range.small a b c = false)
    (hn : Builtin.Range.rangeSize a b c = n) (hlen : n ≤ 2 ^ 24) (S : Addr) (hS : s.heap.get? S = some { cls := .type "list", data := .seq #[] })
    (hR : ∀ h' tk acc' c', (∀ b o, b ≠ S → s.heap.get? b = some o → h'.get? b = some o) → h'.get? S = some { cls := .type "list", dict := none, data := .seq acc' c', slots := #[] } →
      ItemsOf (fun i v => ∃ t, v = .int (a + i * c) t) acc' n → R (.ok (.ret .none)) { s with heap := h', toks := tk }) :
    wpAny (model prog w) A.in1 (Builtin.«list.__init__» ⟨[.ref S, .ref r], []⟩)
      (fun fin s' => match fin with | .done f => R (.ok f) s' | .again c' => c'.quiet = true ∧ codeAny (model prog w) A c' R s') (fun e s' => R (.error e) s') s := by
  have hSr : S ≠ r := fun e => by rw [e, hr] at hS; simp at hS
  show wpAny _ _ (do let old ← Builtin.List.listItems (.ref S); Builtin.List.listUpdate (.ref S) (fun _ => #[]); letGo old.toList.reverse; Builtin.List.listExtendWith (.ref S) (.ref r) .none) _ _ s
  refine wpAny_bind ?_
  unfold Builtin.List.listItems
  refine wpAny_bind (wpAny_seqItems hS rfl (wpAny_pure ?_))
  show wpAny _ _ (updateSeq S (fun _ => #[]) >>= fun _ => letGo (#[] : Array Value).toList.reverse >>= fun _ => Builtin.List.listExtendWith (.ref S) (.ref r) .none) _ _ s
  refine wpAny_bind (wpAny_updateSeq hS rfl ?_)
  have hS₂ := Heap.get?_update_self (Obj.mapSeq (fun _ => (#[] : Array Value))) hS rfl
  have oth : ∀ b o, b ≠ S → s.heap.get? b = some o → (s.heap.update S (Obj.mapSeq (fun _ => (#[] : Array Value)))).get? b = some o :=
    fun b o hb e => (Heap.get?_update_other _ _ (Ne.symm hb)).trans e
  refine wpAny_bind (wpAny_letGo ?_)
  refine vl_extend_long hh (oth r _ (Ne.symm hSr) hr) hbig hn hlen S .none _ hS₂ fun h' tk acc' c' hk hS' hacc => ?_
  exact hR h' tk acc' c' (fun b o hb e => hk b o hb (oth b o hb e)) hS' hacc
theorem vl_list_range {Q : Value → Shared → Prop} {r : Addr} {a b c : Int} {t u v : Tok} {n : Nat} (hh : A.handled = none) (hr : IsRange s.heap r a b c t u v) (hn : Builtin.Range.rangeSize a b c = n) (hlen : n ≤ 2 ^ 24)
    (hQ : ∀ h' tk acc' c', (∀ b o, s.heap.get? b = some o → h'.get? b = some o) →
      h'.get? s.heap.objs.size = some { cls := .type "list", dict := none, data := .seq acc' c', slots := #[] } → ItemsOf (fun i v => ∃ t, v = .int (a + i * c) t) acc' n → Q (.ref s.heap.objs.size) { s with heap := h', toks := tk }) :
    wpAny (model prog w) A (call (.type "list") [.ref r]) Q E s := by
  cases sm : Builtin.Range.small a b c with
  | true => exact call_list_range hh hr sm hn hlen hQ
  | false =>
    refine callType_codes (Q₁ := fun obj s₁ => obj = .ref s.heap.objs.size ∧ s₁ = { s with heap := s.heap.push { cls := .type "list", data := .seq #[] } }) F.called_list (F.typeCall_list_1 _) F.entry_list_init
      (code_list_new _ ⟨rfl, rfl⟩) fun obj s₁ h₁ => ?_
    obtain ⟨rfl, rfl⟩ := h₁
    have hS : (s.heap.push { cls := .type "list", data := .seq #[] }).get? s.heap.objs.size = some { cls := .type "list", data := .seq #[] } := Heap.get?_push_size _ rfl
    refine ⟨⟨_, hS, rfl⟩, F.args_list_init_2 _ _, vl_init_long (A := A.in1) hh (Heap.get?_push_of_some _ hr) sm hn hlen _ hS fun h' tk acc' c' hk hS' hacc => ?_⟩
    exact ⟨rfl, hQ h' tk acc' c' (fun b o e => hk b o (Nat.ne_of_lt (Heap.lt_size e)) (Heap.get?_push_of_some _ e)) hS' hacc⟩
end
end PySem
namespace L2
open PySem PySem.Spec PyProof.Rows
theorem vl_turn_long {P : Program} {w : World} {K : PySem.W.Frag} {tg : Expr} (it : Addr) (lo : Int) (n : Nat) : Turn P w K tg (Itr lo n) [it] it (fun i h => IsLongIter h it (lo + (i : Nat) * 1) ((n : Int) - (i : Nat)) 1) where
  mem := by simp
  obj := fun i h st b hb => by
    have e : b = it := by simpa using hb
    subst e
    exact ⟨_, st, fun v z => by
      have z' : Data.fields _ = Data.cell v := z
      cases z'⟩
  keep := fun i h h' st k => k it (by simp) _ st
  item := by
    intro X hP hw hK hc i pins s σ H E I hf st hg
    subst hP hw hK
    obtain ⟨f0, f1, f2, f3, f4, f5⟩ := hf it (by simp)
    have W := Walks.longrange (prog := X.prog) (w := X.w) (I.ok.hd hc) it lo 1 n
    refine W.item i s _ _ hg st fun v h' tk hv st' kk => ?_
    obtain ⟨t, rfl⟩ := hv
    have I1 : Inv X pins σ H { s with heap := h', toks := tk } := I.turned (fun b o hb e => kk b o (by simpa using hb) e) f0 f1 f3 f4 f5
    refine ⟨_, rfl, go_of (s := { s with heap := h', toks := tk }) (n := "longrange_iterator") st' rfl rfl (by decide) ⟨.int (lo + i), H, I1, ⟨t, ?_⟩, ⟨rfl, rfl⟩, st', fun b hb => (hf b hb).1⟩⟩
    rw [Int.mul_one]
  done := by
    intro X hP hw hK hc i pins s σ H E I hf st hg
    subst hP hw hK
    obtain ⟨f0, f1, f2, f3, f4, f5⟩ := hf it (by simp)
    exact wpAny_pyNext_long_end (I.ok.hd hc) st (by have : n ≤ i := hg; omega) fun h' eb => ⟨rfl, I.turned (t' := s.toks) (fun b o hb e => eb b o hb e) f0 f1 f3 f4 f5⟩
  self := fun _ _ _ _ _ st h => wpAny_pyIter_longiter st h
section
variable {X : Cx} {tg : Expr}
/-- a range object just made, walked, its ends of any size -/
theorem vl_range_it {pins : List (Addr × Obj)} {σ : St} {H : Hp} {s : Shared} {R : It → Hp → Prop} {E : Value → Shared → Prop} {lo hi : Int} {t u v : Tok} {tk : Nat} (I : Inv X pins σ H s)
    (q : R (Itr lo (hi - lo).toNat) H) : wpAny (model X.prog X.w) X.A (pyIter (.ref s.heap.objs.size)) (PIE X pins σ tg R) E { s with heap := s.heap.push { cls := .type "range", data := .fields #[.int lo t, .int hi u, .int 1 v] }, toks := tk } := by
  have e1 : lo + ((0 : Nat) : Int) * 1 = lo := by simp
  have e2 : (((hi - lo).toNat : Nat) : Int) - ((0 : Nat) : Int) = Builtin.Range.rangeSize lo hi 1 := by rw [rangeSize_one]; split <;> omega
  have I1 : Inv X pins σ H { s with heap := s.heap.push { cls := .type "range", data := .fields #[.int lo t, .int hi u, .int 1 v] }, toks := tk } := I.kept fun b o e => Heap.get?_push_of_some _ e
  cases sm : Builtin.Range.small lo hi 1 with
  | true =>
    refine wpAny_pyIter_range (IsRange.new ..) sm ?_
    refine ⟨(s.heap.push { cls := .type "range", data := .fields #[.int lo t, .int hi u, .int 1 v] }).objs.size, [(s.heap.push { cls := .type "range", data := .fields #[.int lo t, .int hi u, .int 1 v] }).objs.size], _, _, H, rfl,
      I1.kept (t' := tk) fun b o e => Heap.get?_push_of_some _ e, turn_range _ lo (hi - lo).toNat, ?_, fun b hb => ?_, q⟩
    · show IsRangeIter _ _ (lo + ((0 : Nat) : Int) * 1) ((((hi - lo).toNat : Nat) : Int) - ((0 : Nat) : Int)) 1
      rw [e1, e2]
      exact Heap.get?_push_size _ rfl
    · have e : b = (s.heap.push { cls := .type "range", data := .fields #[.int lo t, .int hi u, .int 1 v] }).objs.size := by simpa using hb
      subst e
      exact I1.fpOk (Nat.le_refl _) (I1.hok.fresh (Nat.le_refl _))
  | false =>
    refine wpAny_pyIter_longrange (IsRange.new ..) sm ?_
    refine ⟨(s.heap.push { cls := .type "range", data := .fields #[.int lo t, .int hi u, .int 1 v] }).objs.size, [(s.heap.push { cls := .type "range", data := .fields #[.int lo t, .int hi u, .int 1 v] }).objs.size], _, _, H, rfl,
      I1.kept (t' := tk) fun b o e => Heap.get?_push_of_some _ e, vl_turn_long _ lo (hi - lo).toNat, ?_, fun b hb => ?_, q⟩
    · show IsLongIter _ _ (lo + ((0 : Nat) : Int) * 1) ((((hi - lo).toNat : Nat) : Int) - ((0 : Nat) : Int)) 1
      rw [e1, e2]
      exact Heap.get?_push_size _ rfl
    · have e : b = (s.heap.push { cls := .type "range", data := .fields #[.int lo t, .int hi u, .int 1 v] }).objs.size := by simpa using hb
      subst e
      exact I1.fpOk (Nat.le_refl _) (I1.hok.fresh (Nat.le_refl _))
def iRng2W (ta : TA) : TI := fun σ H R => ta σ H fun vs H1 => ∃ i j : Int, vs = [.int i, .int j] ∧ R (Itr i (j - i).toNat) H1
theorem pi_range2W {a b : Expr} {ta : TA} {p pos : Pos} (hg : Gl X "range") (hm : X.mg "range" = none) (ha : PA X [a, b] ta) (hs : starEach [a, b] X.env = [(false, eval a X.env), (false, eval b X.env)] := by rfl) (hs2 : starEach [b] X.env = [(false, eval b X.env)] := by rfl) :
    PI X tg (.Call (.Name "range" p) [a, b] [] pos) (iRng2W ta) := by
  refine ⟨fun pins s σ H R I h => ?_⟩
  refine Call_ (ld_blt I hg hm boot_range (PyProof.Rows.callWith_type1 (thn (ha.run pos pins s σ H _ I h) fun us s1 ⟨vs, H1, I1, r1, q1⟩ => ?_) (by rw [hs, hs2]) (by rw [hs2]; rfl)))
  obtain ⟨i, j, e, q⟩ := q1
  subst e
  cases r1 with
  | cons r rr =>
    cases rr with
    | cons r' rr =>
      cases rr
      obtain ⟨t, rfl⟩ := r
      obtain ⟨t', rfl⟩ := r'
      exact call_range_2 (vl_range_it I1 q)
def tLstRgW (te : St → Hp → (Int → Int → Hp → Prop) → Prop) : TE := fun σ H Q => te σ H fun a b H1 => (b - a).toNat ≤ 2 ^ 24 ∧ ∀ q, H1 q = none → Q (.ref q) (upd H1 q (.lst (rgV a b)))
theorem pe_listRgW {e : Expr} {te : St → Hp → (Int → Int → Hp → Prop) → Prop} {p pos : Pos} (hc : X.calm = true) (hg : Gl X "list") (hm : X.mg "list" = none) (he : PRg X e te) (na : starEach [e] X.env = (false, eval e X.env) :: starEach [] X.env := by rfl) : PE X (.Call (.Name "list" p) [e] [] pos) (tLstRgW te) := by
  refine ⟨fun pins s σ H Q I h => ?_⟩
  refine Call_ (ld_blt I hg hm boot_list (PyProof.Rows.callWith_type1 (args_cons (thn (he pins s σ H _ I h) fun x s1 ⟨r, a, b, t, u, v, H1, ex, hr, I1, ok, q⟩ => args_nil ?_) na) na))
  subst ex
  refine vl_list_range (n := (b - a).toNat) (I1.ok.hd hc) hr (rangeSize_nat a b) ok fun h' tk acc c' hk e' hi => ?_
  refine ⟨.ref s1.heap.objs.size, upd H1 s1.heap.objs.size (.lst (rgV a b)), I1.laid hk (Nat.le_refl _) (show ObjOk X.prog X.w _ _ _ (.lst (rgV a b)) from ⟨?_, acc.toList, c', vals_rg hi, ?_⟩), rfl, q _ (I1.hok.fresh (Nat.le_refl _))⟩
  · rw [rgV_length, sizeLine_eq]; omega
  · rw [Array.toArray_toList]; exact e'
end
end L2

set_option maxRecDepth 100000
set_option maxHeartbeats 2000000
/-! VL: the operations. -/
namespace VL
open PySem L2 Evl PyProof.Rows PySem.Spec

theorem nd_inj {α : Type} {l : List α} (nd : l.Nodup) {i j : Nat} {x : α} (h : l[i]? = some x) (h2 : l[j]? = some x) : i = j :=
  (List.getElem?_inj (List.getElem?_eq_some_iff.mp h).1 nd).mp (h.trans h2.symm)
section
variable {K : PySem.W.Frag} {Cl : Nat → Addr} {cs cs' : List Addr} {F F' H H' : Hp} {σ : L2.St} {ρ : Env} {h h' : AHeap} {a p : Addr} {c : Cell} {o : HO}
/-- a new frozen object -/
theorem StOk.newF (S : StOk K Cl cs F H h) (hp : H p = none) : StOk K Cl cs (upd F p o) (upd H p o) h := by
  have hF : F p = none := by
    cases q : F p with
    | none => rfl
    | some u => rw [S.sub _ _ q] at hp; cases hp
  have e : Ex F (upd F p o) := Ex.new hF
  refine ⟨fun b u q => ?_, S.len, S.nd, fun n a q => ?_, fun a q => ?_⟩
  · by_cases hb : b = p
    · subst hb; rw [upd_same] at q ⊢; exact q
    · rw [upd_ne hb] at q ⊢; exact S.sub _ _ q
  · refine (S.cell n a q).mono e ⟨[], by simp⟩ fun u hu => ?_
    rw [upd_ne (ne_of_none hu hp)]
    exact hu
  · have hs := (List.mem_iff_getElem?.mp q)
    obtain ⟨n, hn⟩ := hs
    have hne : a ≠ p := fun z => by
      subst z
      exact (S.cell n a hn).some hp
    rw [upd_ne hne]
    exact S.free a q
theorem Stp.newF (S : StOk K Cl cs F H h) (hp : H p = none) : Stp cs F H cs (upd F p o) (upd H p o) := by
  have hF : F p = none := by
    cases q : F p with
    | none => rfl
    | some u => rw [S.sub _ _ q] at hp; cases hp
  refine ⟨Ex.new hF, ⟨[], by simp⟩, fun b u q _ => ?_, fun b q => ?_, fun b q1 q2 => ?_, fun b q1 q2 => absurd q1 q2⟩
  · rw [upd_ne (ne_of_none q hp)]; exact q
  · by_cases hb : b = p
    · subst hb; rw [upd_same]; simp
    · rw [upd_ne hb]; exact q
  · by_cases hb : b = p
    · subst hb; exact hp
    · rw [upd_ne hb] at q2; exact absurd q1 q2
/-- a new object that is nobody's yet -/
theorem StOk.newN (S : StOk K Cl cs F H h) (hp : H p = none) : StOk K Cl cs F (upd H p o) h := by
  refine ⟨fun b u q => ?_, S.len, S.nd, fun n a q => ?_, S.free⟩
  · rw [upd_ne (ne_of_none (S.sub _ _ q) hp)]; exact S.sub _ _ q
  · refine (S.cell n a q).mono (fun _ _ z => z) ⟨[], by simp⟩ fun u hu => ?_
    rw [upd_ne (ne_of_none hu hp)]
    exact hu
theorem Stp.newN (hp : H p = none) : Stp cs F H cs F (upd H p o) := by
  refine ⟨fun _ _ z => z, ⟨[], by simp⟩, fun b u q _ => ?_, fun b q => ?_, fun b q1 q2 => absurd q1 q2, fun b q1 q2 => absurd q1 q2⟩
  · rw [upd_ne (ne_of_none q hp)]; exact q
  · by_cases hb : b = p
    · subst hb; rw [upd_same]; simp
    · rw [upd_ne hb]; exact q
/-- nobody's object is changed -/
theorem StOk.chgN (S : StOk K Cl cs F H h) (hF : F p = none) (hc : p ∉ cs) : StOk K Cl cs F (upd H p o) h := by
  refine ⟨fun b u q => ?_, S.len, S.nd, fun n a q => ?_, S.free⟩
  · have hb : b ≠ p := fun z => by subst z; rw [hF] at q; cases q
    rw [upd_ne hb]; exact S.sub _ _ q
  · refine (S.cell n a q).mono (fun _ _ z => z) ⟨[], by simp⟩ fun u hu => ?_
    have hb : a ≠ p := fun z => by subst z; exact hc (List.mem_of_getElem? q)
    rw [upd_ne hb]
    exact hu
/-- nobody's object is frozen -/
theorem StOk.freeze (S : StOk K Cl cs F H h) (hF : F p = none) (hc : p ∉ cs) (hH : H p = some o) : StOk K Cl cs (upd F p o) H h := by
  refine ⟨fun b u q => ?_, S.len, S.nd, fun n a q => ?_, fun a q => ?_⟩
  · by_cases hb : b = p
    · subst hb; rw [upd_same] at q; rw [← q]; exact hH
    · rw [upd_ne hb] at q; exact S.sub _ _ q
  · exact (S.cell n a q).mono (Ex.new hF) ⟨[], by simp⟩ fun u hu => hu
  · have hb : a ≠ p := fun z => by subst z; exact hc q
    rw [upd_ne hb]; exact S.free a q
/-- nobody's object becomes a cell -/
theorem StOk.cellNew (S : StOk K Cl cs F H h) (hF : F p = none) (hc : p ∉ cs) (r : COk K Cl (cs ++ [p]) F H p c) : StOk K Cl (cs ++ [p]) F H (h ++ [c]) := by
  refine ⟨S.sub, by simp [S.len], ?_, fun n a q => ?_, fun a q => ?_⟩
  · rw [List.nodup_append]
    refine ⟨S.nd, by simp, fun x hx y hy => ?_⟩
    simp at hy
    subst hy
    exact fun z => hc (z ▸ hx)
  · by_cases hn : n < cs.length
    · rw [List.getElem?_append_left hn] at q
      rw [cells_app (by rw [← S.len]; exact hn)]
      exact (S.cell n a q).mono (fun _ _ z => z) ⟨[p], rfl⟩ fun _ z => z
    · have hn2 : n = cs.length := by
        have := (List.getElem?_eq_some_iff.mp q).1
        simp at this
        omega
      subst hn2
      rw [List.getElem?_append_right (Nat.le_refl _)] at q
      simp at q
      subst q
      rw [S.len, cells_new]
      exact r
  · simp at q
    rcases q with q | q
    · exact S.free a q
    · subst q; exact hF
/-- a cell is changed -/
theorem StOk.cellSet (S : StOk K Cl cs F H h) {n : Nat} (e : cs[n]? = some p) (r : COk K Cl cs F (upd H p o) p c) : StOk K Cl cs F (upd H p o) (h.set n c) := by
  have hn : n < h.length := by rw [← S.len]; exact (List.getElem?_eq_some_iff.mp e).1
  refine ⟨fun b u q => ?_, by simp [S.len], S.nd, fun m a q => ?_, S.free⟩
  · have hb : b ≠ p := fun z => by
      subst z
      rw [S.free b (List.mem_of_getElem? e)] at q
      cases q
    rw [upd_ne hb]; exact S.sub _ _ q
  · by_cases hm : n = m
    · subst hm
      rw [e] at q
      cases q
      rw [cells_set_same hn]
      exact r
    · rw [cells_set_ne hm]
      refine (S.cell m a q).mono (fun _ _ z => z) ⟨[], by simp⟩ fun u hu => ?_
      have hb : a ≠ p := fun z => by
        subst z
        have h1 := (List.getElem?_eq_some_iff.mp e)
        have h2 := (List.getElem?_eq_some_iff.mp q)
        exact hm (nd_inj S.nd e q)
      rw [upd_ne hb]
      exact hu
theorem Stp.chg {F H : Hp} (hc : p ∈ cs) : Stp cs F H cs F (upd H p o) := by
  refine ⟨fun _ _ z => z, ⟨[], by simp⟩, fun b u q n => ?_, fun b q => ?_, fun b q1 q2 => absurd q1 q2, fun b q1 q2 => absurd q1 q2⟩
  · rw [upd_ne fun z => by subst z; exact n hc]; exact q
  · by_cases hb : b = p
    · subst hb; rw [upd_same]; simp
    · rw [upd_ne hb]; exact q
end

/-- a container as it may be read -/
def RepB (K : PySem.W.Frag) (cs : List Addr) (F H : Hp) (b : Bool) (v : V) (d : AV) : Prop :=
  Rep K cs F v d ∨ (b = true ∧ ∃ a, v = .ref a ∧ a ∉ cs ∧ F a = none ∧ ((∃ vs xs, d = .lst xs ∧ H a = some (.lst vs) ∧ Reps K cs F vs xs) ∨ ∃ us xs, d = .dct xs ∧ H a = some (.dK us) ∧ RepK K cs F us xs))
section
variable {K : PySem.W.Frag} {Cl : Nat → Addr} {cs cs' : List Addr} {F F' H H' : Hp} {σ : L2.St} {ρ : Env} {h h' : AHeap} {b : Bool} {v : V} {d : AV}
theorem RepB.step (r : RepB K cs F H b v d) (x : Stp cs F H cs' F' H') : RepB K cs' F' H' b v d := by
  rcases r with r | ⟨hb, a, e, n1, n2, r⟩
  · exact .inl (r.mono x.f x.c)
  · have hs : H a ≠ none := by
      rcases r with ⟨vs, xs, _, q, _⟩ | ⟨vs, xs, _, q, _⟩ <;> rw [q] <;> simp
    have h1 : a ∉ cs' := fun z => hs (x.m a z n1)
    have h2 : F' a = none := by
      cases w : F' a with
      | none => rfl
      | some o => exact absurd (x.n a n2 (by rw [w]; simp)) hs
    refine .inr ⟨hb, a, e, h1, h2, ?_⟩
    rcases r with ⟨vs, xs, e1, q, r⟩ | ⟨vs, xs, e1, q, r⟩
    · exact .inl ⟨vs, xs, e1, x.k _ _ q n1, r.mono x.f x.c⟩
    · exact .inr ⟨vs, xs, e1, x.k _ _ q n1, r.mono x.f x.c⟩
theorem RepB.plain (r : RepB K cs F H false v d) : Rep K cs F v d := by
  rcases r with r | ⟨hb, _⟩
  · exact r
  · cases hb
theorem cell_at {n : Nat} {a : Addr} {xs : List AV} (S : StOk K Cl cs F H h) (e : cs[n]? = some a) (q : cells h n = .lst xs) : ∃ vs, H a = some (.lst vs) ∧ Reps K cs F vs xs := by
  have := S.cell n a e
  rw [q] at this
  exact this
theorem cell_atD {n : Nat} {a : Addr} {xs : List (Key × AV)} (S : StOk K Cl cs F H h) (e : cs[n]? = some a) (q : cells h n = .dct xs) : ∃ vs, H a = some (.dK vs) ∧ RepK K cs F vs xs := by
  have := S.cell n a e
  rw [q] at this
  exact this
theorem RepB.viewW (r : RepB K cs F H b v d) (S : StOk K Cl cs F H h) {xs : List AV} (e : viewW h d = some xs) : ∃ a vs, v = .ref a ∧ H a = some (.lst vs) ∧ Reps K cs F vs xs := by
  rcases r with r | ⟨hb, a, e1, n1, n2, r⟩
  · cases r with
    | lst q r => simp [VL.viewW] at e; subst e; exact ⟨_, _, rfl, S.sub _ _ q, r⟩
    | adr q =>
      rename_i n a
      simp only [VL.viewW] at e
      split at e
      · rename_i xs' hc
        cases e
        obtain ⟨vs, q1, q2⟩ := cell_at S q hc
        exact ⟨_, _, rfl, q1, q2⟩
      · cases e
    | _ => simp [VL.viewW] at e
  · rcases r with ⟨vs, xs', e2, q, r⟩ | ⟨vs, xs', e2, q, r⟩
    · subst e2; simp [VL.viewW] at e; subst e; exact ⟨_, _, e1, q, r⟩
    · subst e2; simp [VL.viewW] at e
theorem RepB.view (r : RepB K cs F H b v d) (S : StOk K Cl cs F H h) {xs : List AV} (e : view h d = some xs) : ∃ a vs, v = .ref a ∧ SqL K H a vs ∧ Reps K cs F vs xs := by
  rcases r with r | ⟨hb, a, e1, n1, n2, r⟩
  · cases r with
    | lst q r => simp [VL.view] at e; subst e; exact ⟨_, _, rfl, sq_of (S.sub _ _ q), r⟩
    | ro q r => simp [VL.view] at e; subst e; exact ⟨_, _, rfl, ex_l S.sub q, r⟩
    | adr q =>
      rename_i n a
      simp only [VL.view] at e
      split at e
      · rename_i xs' hc
        cases e
        obtain ⟨vs, q1, q2⟩ := cell_at S q hc
        exact ⟨_, _, rfl, sq_of q1, q2⟩
      · cases e
    | _ => simp [VL.view] at e
  · rcases r with ⟨vs, xs', e2, q, r⟩ | ⟨vs, xs', e2, q, r⟩
    · subst e2; simp [VL.view] at e; subst e; exact ⟨_, _, e1, sq_of q, r⟩
    · subst e2; simp [VL.view] at e
theorem viewT_eq {h : AHeap} {d : AV} {xs : List AV} (e : viewT h d = some xs) : d = .tup xs ∨ view h d = some xs := by
  unfold VL.viewT at e
  split at e
  · cases e; exact .inl rfl
  · exact .inr e
theorem RepB.viewT (r : RepB K cs F H b v d) (S : StOk K Cl cs F H h) {xs : List AV} (e : viewT h d = some xs) : ∃ a vs, v = .ref a ∧ (SqL K H a vs ∨ SqT K H a vs) ∧ Reps K cs F vs xs := by
  rcases viewT_eq e with q | q
  · subst q
    rcases r with r | ⟨hb, a, e1, n1, n2, r⟩
    · cases r with
      | tup q r => exact ⟨_, _, rfl, .inr (ex_t S.sub q), r⟩
    · rcases r with ⟨vs, xs', e2, q, r⟩ | ⟨vs, xs', e2, q, r⟩ <;> cases e2
  · obtain ⟨a, vs, h1, h2, h3⟩ := r.view S q
    exact ⟨a, vs, h1, .inl h2, h3⟩
theorem RepB.viewD (r : RepB K cs F H b v d) (S : StOk K Cl cs F H h) {xs : List (Key × AV)} (e : viewD h d = some xs) : ∃ a vs, v = .ref a ∧ Rd H a (.dK vs) ∧ RepK K cs F vs xs := by
  rcases r with r | ⟨hb, a, e1, n1, n2, r⟩
  · cases r with
    | dct q r => simp [VL.viewD] at e; subst e; exact ⟨_, _, rfl, .inr ⟨_, S.sub _ _ q⟩, r⟩
    | adr q =>
      rename_i n a
      simp only [VL.viewD] at e
      split at e
      · rename_i xs' hc
        cases e
        obtain ⟨vs, q1, q2⟩ := cell_atD S q hc
        exact ⟨_, _, rfl, .inl q1, q2⟩
      · cases e
    | _ => simp [VL.viewD] at e
  · rcases r with ⟨vs, xs', e2, q, r⟩ | ⟨vs, xs', e2, q, r⟩
    · subst e2; simp [VL.viewD] at e
    · subst e2; simp [VL.viewD] at e; subst e; exact ⟨_, _, e1, .inl q, r⟩
mutual
theorem Rep.dpH (S : StOk K Cl cs F H h) : ∀ {v : V} {d : AV}, Rep K cs F v d → ∀ {p : PyData}, VL.pdH h d = some p → Dp K H v p
  | _, _, .non, _, q => by simp [VL.pdH] at q; subst q; exact .non
  | _, _, .bl b, _, q => by simp [VL.pdH] at q; subst q; exact .bl b
  | _, _, .int i, _, q => by simp [VL.pdH] at q; subst q; exact .int i
  | _, _, .str s, _, q => by simp [VL.pdH] at q; subst q; exact .str s
  | _, _, .tup h r, _, q => by
    simp [VL.pdH] at q
    obtain ⟨l, e1, e2⟩ := q
    subst e2
    exact .tup (ex_t S.sub h) (Reps.dpH S r e1)
  | _, _, .lst h r, _, q => by
    simp [VL.pdH] at q
    obtain ⟨l, e1, e2⟩ := q
    subst e2
    exact .lst (sq_of (S.sub _ _ h)) (Reps.dpH S r e1)
  | _, _, .ro h r, _, q => by
    simp [VL.pdH] at q
    obtain ⟨l, e1, e2⟩ := q
    subst e2
    exact .lst (ex_l S.sub h) (Reps.dpH S r e1)
  | _, _, .dct h r, _, q => by simp [VL.pdH] at q
  | _, _, .adr g, _, q => by
    simp only [VL.pdH] at q
    split at q
    · rename_i xs' hc
      simp at q
      obtain ⟨l, e1, e2⟩ := q
      subst e2
      obtain ⟨vs, q1, q2⟩ := cell_at S g hc
      exact .lst (sq_of q1) (q2.dp S.sub e1)
    · cases q
theorem Reps.dpH (S : StOk K Cl cs F H h) : ∀ {v : List V} {d : List AV}, Reps K cs F v d → ∀ {p : List PyData}, VL.pdHs h d = some p → DpAll K H v p
  | _, _, .nil, _, q => by simp [VL.pdHs] at q; subst q; exact .nil
  | _, _, .cons g r, _, q => by
    simp [VL.pdHs, Option.bind_eq_some_iff] at q
    obtain ⟨d1, e1, l, e2, e3⟩ := q
    subst e3
    exact .cons (Rep.dpH S g e1) (Reps.dpH S r e2)
end
theorem Reps.upH : ∀ {v : List V} {d : List AV}, Reps K cs F v d → StOk K Cl cs F H h → ∀ {p : List PyData}, VL.pdHs h d = some p → DpAll K H v p := fun r S _ q => Reps.dpH S r q
theorem RepB.pdH (r : RepB K cs F H b v d) (S : StOk K Cl cs F H h) {p : PyData} (e : pdH h d = some p) : Dp K H v p := by
  rcases r with r | ⟨hb, a, e1, n1, n2, r⟩
  · exact Rep.dpH S r e
  · rcases r with ⟨vs, xs', e2, q, r⟩ | ⟨vs, xs', e2, q, r⟩
    · subst e2
      simp [VL.pdH] at e
      obtain ⟨l, e3, e4⟩ := e
      subst e4 e1
      exact .lst (sq_of q) (r.dpH S e3)
    · subst e2; simp [VL.pdH] at e
theorem RepB.int {i : Int} (r : RepB K cs F H b v (.int i)) : v = .int i := by
  rcases r with r | ⟨_, _, _, _, _, ⟨_, _, e, _⟩ | ⟨_, _, e, _⟩⟩
  · cases r; rfl
  · cases e
  · cases e
theorem RepB.str {i : Str} (r : RepB K cs F H b v (.str i)) : v = .str i := by
  rcases r with r | ⟨_, _, _, _, _, ⟨_, _, e, _⟩ | ⟨_, _, e, _⟩⟩
  · cases r; rfl
  · cases e
  · cases e
theorem RepB.bl {i : Bool} (r : RepB K cs F H b v (.bl i)) : v = .bl i := by
  rcases r with r | ⟨_, _, _, _, _, ⟨_, _, e, _⟩ | ⟨_, _, e, _⟩⟩
  · cases r; rfl
  · cases e
  · cases e
theorem RepB.non (r : RepB K cs F H b v .non) : v = .non := by
  rcases r with r | ⟨_, _, _, _, _, ⟨_, _, e, _⟩ | ⟨_, _, e, _⟩⟩
  · cases r; rfl
  · cases e
  · cases e
theorem RepB.isNon (r : RepB K cs F H b v d) : decide (v = V.non) = isNon d := by
  rcases r with r | ⟨_, _, e1, _, _, ⟨_, _, e, _⟩ | ⟨_, _, e, _⟩⟩
  · cases r <;> rfl
  · subst e e1; rfl
  · subst e e1; rfl
theorem RepB.flat (r : RepB K cs F H b v d) (f : flatA d = true) : flatV v = true ∧ ∀ w e, Rep K cs F w e → flatA e = true → eqV w v = eqF e d := by
  have key : ∀ {v d}, Rep K cs F v d → flatA d = true → flatV v = true ∧ ∀ w e, Rep K cs F w e → flatA e = true → eqV w v = eqF e d := by
    intro v d r f
    cases r with
    | non => exact ⟨rfl, fun w e r f => by cases r <;> first | rfl | cases f⟩
    | bl x => exact ⟨rfl, fun w e r f => by cases r <;> first | rfl | cases f⟩
    | int x => exact ⟨rfl, fun w e r f => by cases r <;> first | rfl | cases f⟩
    | str x => exact ⟨rfl, fun w e r f => by cases r <;> first | rfl | cases f⟩
    | _ => cases f
  rcases r with r | ⟨_, _, _, _, _, ⟨_, _, e, _⟩ | ⟨_, _, e, _⟩⟩
  · exact key r f
  · subst e; cases f
  · subst e; cases f
theorem Reps.flat {vs : List V} {xs : List AV} (r : Reps K cs F vs xs) (f : xs.all flatA = true) {v : V} {d : AV} (rv : RepB K cs F H b v d) (fd : flatA d = true) :
    vs.all flatV = true ∧ inV v vs = xs.any (fun y => eqF y d) := by
  revert xs
  induction vs with
  | nil => intro xs r f; cases r; exact ⟨rfl, rfl⟩
  | cons w vs ih =>
    intro xs r f
    cases r with
    | cons h t =>
      rw [List.all_cons, Bool.and_eq_true] at f
      obtain ⟨i1, i2⟩ := ih t f.2
      have q : RepB K cs F H false w _ := .inl h
      refine ⟨by rw [List.all_cons, (q.flat f.1).1, i1]; rfl, ?_⟩
      unfold inV at i2 ⊢
      rw [List.any_cons, List.any_cons, i2, (rv.flat fd).2 w _ h f.1]
theorem Reps.flatAt {vs : List V} {xs : List AV} (r : Reps K cs F vs xs) (f : xs.all flatA = true) {v : V} {d : AV} (rv : RepB K cs F H b v d) (fd : flatA d = true) {i : Nat} {w : V} {e : AV} (h1 : vs[i]? = some w) (h2 : xs[i]? = some e) : eqV w v = eqF e d := by
  have fe : flatA e = true := List.all_eq_true.mp f e (List.mem_of_getElem? h2)
  obtain ⟨w', e1, r2⟩ := r.get h2
  rw [h1] at e1
  cases e1
  exact (rv.flat fd).2 w e r2 fe
theorem RepB.key (r : RepB K cs F H b v d) {k : Key} (e : keyOf d = some k) : v = kV k := by
  cases d with
  | int i => simp [keyOf] at e; subst e; exact r.int
  | str i => simp [keyOf] at e; subst e; exact r.str
  | _ => simp [keyOf] at e
end

/-- what is wanted of a value -/
def PostV (K : PySem.W.Frag) (Cl : Nat → Addr) (cs : List Addr) (F H : Hp) (h : AHeap) (Q : KA) (R : VK) : Prop :=
  ∀ v d F' H', Stp cs F H cs F' H' → StOk K Cl cs F' H' h → Rep K cs F' v d → Q d → R v H'
section
variable {K : PySem.W.Frag} {Cl : Nat → Addr} {cs : List Addr} {F H : Hp} {h : AHeap} {Q : KA} {R : VK}
theorem PostV.here (p : PostV K Cl cs F H h Q R) (S : StOk K Cl cs F H h) {v : V} {d : AV} (r : Rep K cs F v d) (q : Q d) : R v H := p v d F H .refl S r q
theorem PostV.int (p : PostV K Cl cs F H h Q R) (S : StOk K Cl cs F H h) {i : Int} (q : Q (.int i)) : R (.int i) H := p.here S (.int i) q
theorem PostV.bl (p : PostV K Cl cs F H h Q R) (S : StOk K Cl cs F H h) {i : Bool} (q : Q (.bl i)) : R (.bl i) H := p.here S (.bl i) q
theorem PostV.str (p : PostV K Cl cs F H h Q R) (S : StOk K Cl cs F H h) {i : Str} (q : Q (.str i)) : R (.str i) H := p.here S (.str i) q
theorem PostV.newT (p : PostV K Cl cs F H h Q R) (S : StOk K Cl cs F H h) {vs : List V} {xs : List AV} (r : Reps K cs F vs xs) (q : Q (.tup xs)) : ∀ a, H a = none → R (.ref a) (upd H a (.tup vs)) := fun a ha =>
  p _ _ _ _ (.newF S ha) (S.newF ha) (.tup (st_of upd_same) (r.mono (Stp.newF (o := .tup vs) S ha).f ⟨[], by simp⟩)) q
theorem PostV.newL (p : PostV K Cl cs F H h Q R) (S : StOk K Cl cs F H h) {vs : List V} {xs : List AV} (r : Reps K cs F vs xs) (q : Q (.lst xs)) : ∀ a, H a = none → R (.ref a) (upd H a (.lst vs)) := fun a ha =>
  p _ _ _ _ (.newF S ha) (S.newF ha) (.lst upd_same (r.mono (Stp.newF (o := .lst vs) S ha).f ⟨[], by simp⟩)) q
end

/-- a two-place operation by its weakest reading -/
def OpW (X : Cx) (f : Value → Value → Sem Value) (x y : V) (H : Hp) (Q : VK) : Prop :=
  ∀ (pins : List (Addr × Obj)) (s : Shared) (σ : L2.St) (v u : Value), Inv X pins σ H s → RelV x v → RelV y u → wpAny (model X.prog X.w) X.A (f v u) (EP X pins σ Q) X.xe s
theorem opw_ok {X : Cx} {f : Value → Value → Sem Value} : OpR X f (OpW X f) := fun pins s σ H x y v u Q I rx ry h => h pins s σ v u I rx ry
theorem opw_of {X : Cx} {f : Value → Value → Sem Value} {r : R2} (o : OpR X f r) {x y : V} {H : Hp} {Q : VK} (h : r x y H Q) : OpW X f x y H Q := fun pins s σ v u I rx ry => o pins s σ H x y v u Q I rx ry h
section
variable {X : Cx} {Cl : Nat → Addr} {cs : List Addr} {F H : Hp} {h : AHeap} {Q : KA} {R : VK} {x y : V} {d e : AV} {b b' : Bool}
theorem CDivA.w {i j : Int} (h : CDivA j) : CDivW i j := h
theorem addK_ok (S : StOk X.K Cl cs F H h) (rx : RepB X.K cs F H false x d) (ry : RepB X.K cs F H false y e) (q : addK h d e Q) (p : PostV X.K Cl cs F H h Q R) : OpW X (binaryOp .Add) x y H R := by
  unfold addK at q
  split at q
  · cases rx.int; cases ry.int
    exact opw_of op_add ⟨_, _, rfl, rfl, p.int S q⟩
  · cases rx.str; cases ry.str
    exact opw_of op_add_str ⟨_, _, rfl, rfl, q.1, p.str S q.2⟩
  · rename_i xs ys
    have rx := rx.plain
    have ry := ry.plain
    cases rx with
    | tup h1 r1 =>
      cases ry with
      | tup h2 r2 =>
        rename_i vs _ ws
        refine opw_of op_catA ⟨_, _, vs, ws, rfl, rfl, ex_t S.sub h1, ex_t S.sub h2, by rw [r1.length, r2.length]; exact q.1, fun z => ?_, fun _ z => ?_, fun _ _ => p.newT S (r1.append r2) q.2⟩
        · subst z
          cases r1
          exact p.here S (.tup h2 r2) q.2
        · subst z
          cases r2
          have q2 := q.2
          rw [List.append_nil] at q2
          exact p.here S (.tup h1 r1) q2
  · exact q.elim
theorem strRep_len (x : Str) (n : Int) : (strRep x n).length ≤ x.length * n.toNat + x.length := by
  unfold strRep
  split
  · exact Nat.zero_le _
  · split
    · omega
    · have key : ∀ (k : Nat) (acc : Array Nat), ((List.replicate k x.cps).foldl (· ++ ·) acc).size = acc.size + k * x.cps.size := by
        intro k
        induction k with
        | zero => intro acc; simp
        | succ k ih => intro acc; rw [List.replicate_succ, List.foldl_cons, ih, Array.size_append, Nat.succ_mul]; omega
      show ((List.replicate n.toNat x.cps).foldl (· ++ ·) #[]).size ≤ x.cps.size * n.toNat + x.cps.size
      rw [key, Nat.mul_comm]
      simp
theorem op_mul_str : OpR X (binaryOp .Mult) (fun x y H Q => ∃ z k, x = .str z ∧ y = .int k ∧ (-(2 ^ 60) < k ∧ k < 2 ^ 60 ∧ z.length * k.toNat ≤ 1000000) ∧ Q (.str (strRep z k)) H) := by
  intro pins s σ H x y v u Q I rx ry h
  obtain ⟨z, k, rfl, rfl, ⟨h1, h2, h3⟩, q⟩ := h
  obtain ⟨t, rfl⟩ := rx
  obtain ⟨t', rfl⟩ := ry
  have hs : sizeLine = 16777216 := sizeLine_eq
  have e60 : (2 ^ 60 : Int) = 1152921504606846976 := by decide
  have e63 : (2 ^ 63 : Int) = 9223372036854775808 := by decide
  rw [e60] at h1 h2
  refine PySem.P.mul_str ?_ (fun a b => ?_) (fun a b => ?_) ?_
  · have e1 : decide (k < -(2 ^ 63 : Int)) = false := decide_eq_false (by rw [e63]; omega)
    have e2 : decide (k ≥ 2 ^ 63) = false := decide_eq_false (by rw [e63]; omega)
    rw [e1, e2]; rfl
  · intro c
    have hk : 0 < k := by omega
    have h4 : (z.length : Int) * k ≤ 1000000 := by
      have : ((z.length * k.toNat : Nat) : Int) ≤ ((1000000 : Nat) : Int) := Int.ofNat_le.mpr h3
      rw [Int.natCast_mul] at this
      rw [Int.toNat_of_nonneg (by omega)] at this
      exact this
    have h5 : (2 ^ 63 - 1 : Int) / k < z.length := c
    have h6 := Int.lt_mul_of_ediv_lt hk h5
    have e63 : (2 ^ 63 - 1 : Int) = 9223372036854775807 := by decide
    rw [e63] at h6
    omega
  · unfold Builtin.Str.tooLong
    exact decide_eq_false (by omega)
  · have hl := strRep_len z k
    by_cases a : k < 1
    · have e : strRep z k = Str.empty := if_pos a
      rw [e] at q
      rw [if_pos a]
      exact ⟨by decide, .str Str.empty, H, I.tok _, ⟨_, rfl⟩, q⟩
    · rw [if_neg a]
      by_cases b : (k == 1 || z.length == 0) = true
      · have e : strRep z k = z := by unfold strRep; rw [if_neg a, if_pos b]
        rw [e] at q
        rw [if_pos b]
        exact ⟨.str z, H, I, ⟨_, rfl⟩, q⟩
      · have e : strRep z k = ⟨(List.replicate k.toNat z.cps).foldl (· ++ ·) #[]⟩ := by unfold strRep; rw [if_neg a, if_neg b]
        rw [e] at q hl
        rw [if_neg b]
        refine ⟨?_, .str _, H, I.tok _, ⟨_, rfl⟩, q⟩
        have : z.length ≤ z.length * k.toNat := Nat.le_mul_of_pos_right _ (by omega)
        omega
theorem binK_ok {op : Operator} (S : StOk X.K Cl cs F H h) (rx : RepB X.K cs F H false x d) (ry : RepB X.K cs F H false y e) (q : binK h op d e Q) (p : PostV X.K Cl cs F H h Q R) : OpW X (binaryOp op) x y H R := by
  unfold binK at q
  split at q
  · exact addK_ok S rx ry q p
  · split at q
    · cases rx.int; cases ry.int
      exact opw_of op_sub ⟨_, _, rfl, rfl, p.int S q⟩
    · exact q.elim
  · split at q
    · cases rx.int; cases ry.int
      rcases q.1 with c | c
      · exact opw_of op_mul ⟨_, _, rfl, rfl, c, p.int S q.2⟩
      · exact opw_of op_mulW ⟨_, _, rfl, rfl, c, p.int S q.2⟩
    · cases rx.str; cases ry.int
      exact opw_of op_mul_str ⟨_, _, rfl, rfl, q.1, p.str S q.2⟩
    · exact q.elim
  · split at q
    · cases rx.int; cases ry.int
      exact opw_of op_fdivW ⟨_, _, rfl, rfl, CDivA.w q.1, p.int S q.2⟩
    · exact q.elim
  · split at q
    · cases rx.int; cases ry.int
      exact opw_of op_mod ⟨_, _, rfl, rfl, q.1, p.int S q.2⟩
    · exact q.elim
  · split at q
    · cases rx.int; cases ry.int
      exact opw_of op_pow ⟨_, _, rfl, rfl, q.1, p.int S q.2⟩
    · exact q.elim
  · exact q.elim
theorem eqGen_ok (hu : X.A.units + 64 < cLine) {neg : Bool} (S : StOk X.K Cl cs F H h) (rx : RepB X.K cs F H b x d) (ry : RepB X.K cs F H b' y e) (q : eqGen h neg d e Q) (p : PostV X.K Cl cs F H h Q R) : OpW X (compareOp (if neg then .NotEq else .Eq)) x y H R := by
  unfold eqGen at q
  split at q
  · rename_i d1 e1 h1 h2
    have dx := rx.pdH S h1
    have dy := ry.pdH S h2
    cases neg with
    | true => exact opw_of (op_neD hu) ⟨_, _, dx, dy, q.1, q.2.1, p.bl S q.2.2⟩
    | false => exact opw_of (op_eqD hu) ⟨_, _, dx, dy, q.1, q.2.1, p.bl S q.2.2⟩
  · exact q.elim
/-! ### dicts compared -/
def EqI (K : PySem.W.Frag) (H : Hp) (x y : V) : Prop := (∃ i, x = .int i ∧ y = .int i) ∨ ∃ (a b : Addr) (ns : List Int), x = .ref a ∧ y = .ref b ∧ SqL K H a (ns.map V.int) ∧ SqL K H b (ns.map V.int)
theorem hitsI {X : Cx} {pins : List (Addr × Obj)} {σ : L2.St} {H : Hp} {s : Shared} (I : Inv X pins σ H s) {A : Around} (hu : A.in1.units + 64 < cLine) {kvs : List (Key × V)} {vb : List (Key × Value)} (rb : KV kvs vb) {ks : List (Key × V)} {va : List (Key × Value)} (ra : KV ks va) :
    (∀ p ∈ ks, ∃ u, valV kvs p.1 = some u ∧ EqI X.K H p.2 u) → PySem.W.KeqHits A.in1 s vb va true := by
  unfold KV at ra
  induction ra with
  | nil => intro _; exact .nil
  | @cons p q ps qs h t ih =>
    intro hp
    obtain ⟨h1, h2⟩ := h
    obtain ⟨w, e, f⟩ := hp p List.mem_cons_self
    have rr : RelO (some w) (valueAt vb p.1) := by rw [← e]; exact rb.val p.1
    obtain ⟨y, hy, ry⟩ := rr.some_of
    obtain ⟨k, v⟩ := q
    have h1' : p.1 = k := h1
    rw [h1'] at hy
    show PySem.W.KeqHits A.in1 s vb ((k, v) :: qs) (true && true)
    refine .hit hy ?_ (ih fun p' hm => hp p' (List.mem_cons_of_mem _ hm))
    rcases f with ⟨i, e1, e2⟩ | ⟨a, b, ns, e1, e2, q1, q2⟩
    · rw [e1] at h2
      rw [e2] at ry
      exact eqAt_same h2 ry rfl
    · rw [e1] at h2
      rw [e2] at ry
      cases (show v = Value.ref a from h2)
      cases (show y = Value.ref b from ry)
      obtain ⟨us, r1, p1, _⟩ := I.list q1
      obtain ⟨ws, r2, p2, _⟩ := I.list q2
      have := PySem.W.keq_ints (A := A) (s := s) p1.isList r1.ints p2.isList r2.ints hu
      rw [decide_eq_true rfl] at this
      exact this
def rDct (K : PySem.W.Frag) (neg : Bool) : R2 := fun x y H Q => ∃ a b ks ls, x = .ref a ∧ y = .ref b ∧ Rd H a (.dK ks) ∧ Rd H b (.dK ls) ∧ ks.length = ls.length ∧ (∀ p ∈ ks, ∃ u, valV ls p.1 = some u ∧ EqI K H p.2 u) ∧ Q (.bl (!neg)) H
theorem op_eqDct {X : Cx} (hu : X.A.units + 65 < cLine) {neg : Bool} : OpR X (compareOp (if neg then .NotEq else .Eq)) (rDct X.K neg) := by
  intro pins s σ H x y v u Q I rx ry h
  obtain ⟨a, b, ks, ls, rfl, rfl, ea, eb, hlen, hp, q⟩ := h
  obtain rfl : v = Value.ref a := rx
  obtain rfl : u = Value.ref b := ry
  obtain ⟨_, ya, va, ra, da⟩ := dk_rd I.hok ea
  obtain ⟨_, yb, vb, rb, db⟩ := dk_rd I.hok eb
  have hl : va.length = vb.length := by rw [← ra.length, ← rb.length]; exact hlen
  cases neg with
  | false => exact PySem.W.keq_eq (knd := mixKind X.prog X.w) (r := true) ya yb da db (by omega) (fun _ => hitsI I (A := X.A) (by show X.A.units + 1 + 64 < cLine; omega) rb ra hp) (fin_bl I q (by simp [hl]))
  | true => exact PySem.W.keq_ne (knd := mixKind X.prog X.w) (r := true) ya yb da db (by omega) (fun _ => hitsI I (A := X.A) (by show X.A.units + 1 + 64 < cLine; omega) rb ra hp) (fin_bl I q (by simp [hl]))
theorem call_lenRd {X : Cx} : CallR X (.builtin "len") (fun xs H Q => ∃ (a : Addr) (kvs : List (Key × V)), xs = [.ref a] ∧ Rd H a (.dK kvs) ∧ Q (.int kvs.length) H) := by
  intro pins s σ H xs us Q I r q
  obtain ⟨a, kvs, ex, hd, q⟩ := q
  subst ex
  obtain ⟨u, eu, rx⟩ := vals1 r
  subst eu
  cases rx
  exact d_len I hd fun t s' I' => ⟨.int kvs.length, H, I', ⟨t, rfl⟩, q⟩
theorem asInts_map : ∀ ns : List Int, asInts (ns.map .int) = some ns
  | [] => rfl
  | n :: ns => by
    show (asInts (ns.map .int)).map (n :: ·) = _
    rw [asInts_map ns]; rfl
theorem dct_ok (hu : X.A.units + 65 < cLine) {neg : Bool} {xs ys : List (Key × AV)} (S : StOk X.K Cl cs F H h) (rx : RepB X.K cs F H b x (.dct xs)) (ry : RepB X.K cs F H b' y (.dct ys)) (q : dEq xs ys ∧ Q (.bl (!neg))) (p : PostV X.K Cl cs F H h Q R) :
    OpW X (compareOp (if neg then .NotEq else .Eq)) x y H R := by
  obtain ⟨a, vs, rfl, e1, r1⟩ := rx.viewD S rfl
  obtain ⟨b, ws, rfl, e2, r2⟩ := ry.viewD S rfl
  obtain ⟨⟨hl, he⟩, q⟩ := q
  refine opw_of (op_eqDct hu) ⟨a, b, vs, ws, rfl, rfl, e1, e2, by rw [r1.length, r2.length]; exact hl, ?_, p.bl S q⟩
  have key : ∀ {vs : List (Key × V)} {xs : List (Key × AV)}, RepK X.K cs F vs xs → (∀ p ∈ xs, ∃ u, getD ys p.1 = some u ∧ eqv1 p.2 u) → ∀ p ∈ vs, ∃ u, valV ws p.1 = some u ∧ EqI X.K H p.2 u := by
    intro vs xs r
    induction vs generalizing xs with
    | nil => intro _ p m; cases m
    | cons v vs ih =>
      cases r with
      | cons r rs =>
        rename_i k v d xs
        intro hx p m
        rcases List.mem_cons.mp m with rfl | m
        · obtain ⟨u, g1, g2⟩ := hx (k, d) List.mem_cons_self
          rcases r2.get (k := k) with ⟨w, d2, h1, h2, r3⟩ | ⟨_, h2⟩
          · rw [g1] at h2
            cases h2
            refine ⟨w, h1, ?_⟩
            rcases g2 with ⟨i, z1, z2⟩ | ⟨ns, z1, z2⟩
            · have z1 : d = .int i := z1
              subst z1 z2
              cases r
              cases r3
              exact .inl ⟨i, rfl, rfl⟩
            · have z1 : d = .lst (ns.map .int) := z1
              subst z1 z2
              have ra : RepB X.K cs F H true v (.lst (ns.map .int)) := .inl r
              have rb : RepB X.K cs F H true w (.lst (ns.map .int)) := .inl r3
              obtain ⟨a1, vs1, e1, q1, s1⟩ := ra.view S rfl
              obtain ⟨a2, vs2, e2, q2, s2⟩ := rb.view S rfl
              rw [s1.ints (asInts_map ns)] at q1
              rw [s2.ints (asInts_map ns)] at q2
              exact .inr ⟨a1, a2, ns, e1, e2, q1, q2⟩
          · rw [g1] at h2; cases h2
        · exact ih rs (fun p hp => hx p (List.mem_cons_of_mem _ hp)) p m
  exact key r1 he
theorem eqK_ok (hu : X.A.units + 65 < cLine) (S : StOk X.K Cl cs F H h) (rx : RepB X.K cs F H b x d) (ry : RepB X.K cs F H b' y e) (q : eqK h d e Q) (p : PostV X.K Cl cs F H h Q R) : OpW X (compareOp .Eq) x y H R := by
  unfold eqK at q
  split at q
  · cases rx.int; cases ry.int
    exact opw_of op_eq ⟨rfl, p.bl S (by simpa using q)⟩
  · cases rx.str; cases ry.str
    exact opw_of op_eq ⟨rfl, p.bl S (by simpa using q)⟩
  · cases rx.bl; cases ry.bl
    exact opw_of op_eq ⟨rfl, p.bl S (by simpa using q)⟩
  · cases rx.non; cases ry.non
    exact opw_of op_eq ⟨rfl, p.bl S (by simpa using q)⟩
  · cases rx.int; cases ry.str
    exact opw_of op_eq ⟨rfl, p.bl S (by simpa using q)⟩
  · cases rx.str; cases ry.int
    exact opw_of op_eq ⟨rfl, p.bl S (by simpa using q)⟩
  · exact dct_ok (neg := false) (by omega) S rx ry q p
  · exact eqGen_ok (neg := false) (by omega) S rx ry q p
theorem neK_ok (hu : X.A.units + 65 < cLine) (S : StOk X.K Cl cs F H h) (rx : RepB X.K cs F H b x d) (ry : RepB X.K cs F H b' y e) (q : neK h d e Q) (p : PostV X.K Cl cs F H h Q R) : OpW X (compareOp .NotEq) x y H R := by
  unfold neK at q
  split at q
  · cases rx.int; cases ry.int
    exact opw_of op_ne ⟨rfl, p.bl S (by simpa using q)⟩
  · cases rx.str; cases ry.str
    exact opw_of op_ne ⟨rfl, p.bl S (by simpa using q)⟩
  · cases rx.bl; cases ry.bl
    exact opw_of op_ne ⟨rfl, p.bl S (by simpa using q)⟩
  · cases rx.non; cases ry.non
    exact opw_of op_ne ⟨rfl, p.bl S (by simpa using q)⟩
  · cases rx.int; cases ry.str
    exact opw_of op_ne ⟨rfl, p.bl S (by simpa using q)⟩
  · cases rx.str; cases ry.int
    exact opw_of op_ne ⟨rfl, p.bl S (by simpa using q)⟩
  · exact dct_ok (neg := true) (by omega) S rx ry q p
  · exact eqGen_ok (neg := true) (by omega) S rx ry q p
theorem op_dIn (hu : X.A.units + 1 < cLine) : OpR X (compareOp .In) (fun x y H Q => ∃ a o, y = .ref a ∧ DGet H a x o ∧ Q (.bl o.isSome) H) := by
  intro pins s σ H x y v u Q I rx ry h
  obtain ⟨a, o, rfl, g, q⟩ := h
  cases ry
  exact d_in hu I g rx fun s3 I3 => ⟨.bl o.isSome, H, I3, rfl, q⟩
theorem op_dNotIn (hu : X.A.units + 1 < cLine) : OpR X (compareOp .NotIn) (fun x y H Q => ∃ a o, y = .ref a ∧ DGet H a x o ∧ Q (.bl (!o.isSome)) H) := by
  intro pins s σ H x y v u Q I rx ry h
  obtain ⟨a, o, rfl, g, q⟩ := h
  cases ry
  exact d_notIn hu I g rx fun s3 I3 => ⟨.bl (!o.isSome), H, I3, rfl, q⟩
theorem inK_ok (hu : X.A.units + 64 < cLine) {neg : Bool} (S : StOk X.K Cl cs F H h) (rx : RepB X.K cs F H b x d) (ry : RepB X.K cs F H b' y e) (q : inK h neg d e Q) (p : PostV X.K Cl cs F H h Q R) : OpW X (compareOp (if neg then .NotIn else .In)) x y H R := by
  unfold inK at q
  split at q
  · rename_i z
    split at q
    · rename_i w
      split at q
      · rename_i c hc
        cases rx.str; cases ry.str
        have ew : w = ⟨#[c]⟩ := by
          obtain ⟨w⟩ := w
          obtain ⟨w⟩ := w
          simp at hc
          rw [hc]
        cases neg with
        | true => exact opw_of op_notIn_sign ⟨c, z, by rw [ew], rfl, p.bl S q⟩
        | false => exact opw_of op_in_sign ⟨c, z, by rw [ew], rfl, p.bl S q⟩
      · exact q.elim
    · exact q.elim
  · split at q
    · rename_i xs hv
      obtain ⟨a, vs, rfl, hq, r⟩ := ry.viewT S hv
      obtain ⟨f1, f2⟩ := r.flat q.2.1 rx q.1
      have q3 := q.2.2
      rw [← f2] at q3
      cases neg with
      | true => exact opw_of op_notIn_seq ⟨a, vs, rfl, hq, (rx.flat q.1).1, f1, p.bl S q3⟩
      | false => exact opw_of op_in_seq ⟨a, vs, rfl, hq, (rx.flat q.1).1, f1, p.bl S q3⟩
    · split at q
      · rename_i kvs k hd hk
        obtain ⟨a, vs, rfl, hq, r⟩ := ry.viewD S hd
        cases rx.key hk
        have e1 : (valV vs k).isSome = (getD kvs k).isSome := by
          rcases r.get (k := k) with ⟨v, d, e1, e2, _⟩ | ⟨e1, e2⟩ <;> rw [e1, e2] <;> rfl
        rw [← e1] at q
        cases neg with
        | true => exact opw_of (op_dNotIn (by omega)) ⟨a, _, rfl, .inl ⟨_, _, hq, rfl, rfl⟩, p.bl S q⟩
        | false => exact opw_of (op_dIn (by omega)) ⟨a, _, rfl, .inl ⟨_, _, hq, rfl, rfl⟩, p.bl S q⟩
      · exact q.elim
theorem cmpK_ok (hu : X.A.units + 65 < cLine) {op : CmpOp} (S : StOk X.K Cl cs F H h) (rx : RepB X.K cs F H b x d) (ry : RepB X.K cs F H b' y e) (q : cmpK h op d e Q) (p : PostV X.K Cl cs F H h Q R) : OpW X (compareOp op) x y H R := by
  unfold cmpK at q
  split at q
  · exact eqK_ok hu S rx ry q p
  · exact neK_ok hu S rx ry q p
  · split at q
    · cases rx.int; cases ry.int
      exact opw_of op_lt ⟨_, _, rfl, rfl, p.bl S q⟩
    · exact q.elim
  · split at q
    · cases rx.int; cases ry.int
      exact opw_of op_le ⟨_, _, rfl, rfl, p.bl S q⟩
    · exact q.elim
  · split at q
    · cases rx.int; cases ry.int
      exact opw_of op_gt ⟨_, _, rfl, rfl, p.bl S q⟩
    · exact q.elim
  · split at q
    · cases rx.int; cases ry.int
      exact opw_of op_ge ⟨_, _, rfl, rfl, p.bl S q⟩
    · exact q.elim
  · split at q
    · cases ry.non
      rw [← rx.isNon] at q
      exact opw_of op_isN ⟨rfl, p.bl S q⟩
    · split at q
      · cases rx.bl; cases ry.bl
        exact opw_of op_isBl ⟨_, _, rfl, rfl, p.bl S q⟩
      · exact q.elim
    · exact q.elim
  · split at q
    · cases ry.non
      rw [← rx.isNon] at q
      exact opw_of op_notN ⟨rfl, p.bl S q⟩
    · split at q
      · cases rx.bl; cases ry.bl
        exact opw_of op_notBl ⟨_, _, rfl, rfl, p.bl S q⟩
      · exact q.elim
    · exact q.elim
  · exact inK_ok (neg := false) (by omega) S rx ry q p
  · exact inK_ok (neg := true) (by omega) S rx ry q p
end
/-! items, slices, truth, calls of built-ins -/
def IxW (X : Cx) (x y : V) (H : Hp) (Q : VK) : Prop :=
  ∀ (value slice : Expr) (pins : List (Addr × Obj)) (s : Shared) (σ : L2.St) (v u : Value), Inv X pins σ H s → RelV x v → RelV y u → subscripted slice false v u = operate [v, u] (getItem v u) → wpAny (model X.prog X.w) X.A (subscriptTail value slice v u) (EP X pins σ Q) X.xe s
theorem ixw_ok {X : Cx} : IxR X (IxW X) := fun value slice pins s σ H x y v u Q I rx ry h hs => h value slice pins s σ v u I rx ry hs
theorem ixw_of {X : Cx} {r : R2} (o : IxR X r) {x y : V} {H : Hp} {Q : VK} (h : r x y H Q) : IxW X x y H Q := fun value slice pins s σ v u I rx ry hs => o value slice pins s σ H x y v u Q I rx ry h hs
def SlW (X : Cx) (x : V) (lo hi : Option Int) (H : Hp) (Q : VK) : Prop :=
  ∀ (pins : List (Addr × Obj)) (s : Shared) (σ : L2.St) (v vl vu : Value) (sl : Addr), Inv X pins σ H s → RelV x v → s.heap.IsSliceOf sl vl vu .none → IsPart vl lo → IsPart vu hi →
    ∃ T id, typeLookup (.type T) "__getitem__" = pure (some (.builtin id)) ∧ s.TypeIs v T ∧ wpAny (model X.prog X.w) X.A (getItem v (.ref sl)) (EP X pins σ Q) X.xe s
theorem slw_ok {X : Cx} : SlR X (SlW X) := fun pins s σ H x v vl vu lo hi sl Q I rx hs pl pu h => h pins s σ v vl vu sl I rx hs pl pu
theorem slw_of {X : Cx} {r : V → Option Int → Option Int → Hp → VK → Prop} (o : SlR X r) {x : V} {lo hi : Option Int} {H : Hp} {Q : VK} (h : r x lo hi H Q) : SlW X x lo hi H Q := fun pins s σ v vl vu sl I rx hs pl pu => o pins s σ H x v vl vu lo hi sl Q I rx hs pl pu h
def CallW (X : Cx) (f : Value) (xs : List V) (H : Hp) (Q : VK) : Prop :=
  ∀ (pins : List (Addr × Obj)) (s : Shared) (σ : L2.St) (us : List Value), Inv X pins σ H s → Vals xs us → wpAny (model X.prog X.w) X.A (call f us) (EP X pins σ Q) X.xe s
theorem callw_ok {X : Cx} {f : Value} : CallR X f (CallW X f) := fun pins s σ H xs us Q I r h => h pins s σ us I r
theorem callw_of {X : Cx} {f : Value} {r : List V → Hp → VK → Prop} (o : CallR X f r) {xs : List V} {H : Hp} {Q : VK} (h : r xs H Q) : CallW X f xs H Q := fun pins s σ us I rs => o pins s σ H xs us Q I rs h
section
variable {X : Cx} {Cl : Nat → Addr} {cs : List Addr} {F H : Hp} {h : AHeap} {Q : KA} {R : VK} {x y : V} {d e : AV} {b b' : Bool}
theorem ix_dict (hu : X.A.units + 1 < cLine) : IxR X (fun x y H Q => ∃ a v, x = .ref a ∧ DGet H a y (some v) ∧ Q v H) := by
  intro value slice pins s σ H x y v u Q I rx ry h hs
  obtain ⟨a, w, rfl, g, q⟩ := h
  cases rx
  exact tail_any (dict_typeIs I g) PySem.F.slot_dict_getitem.lookup (d_getItem hu I g ry fun w' s3 I3 rw' => ⟨w, H, I3, rw', q⟩) hs
theorem subK_ok (hu : X.A.units + 64 < cLine) (S : StOk X.K Cl cs F H h) (rx : RepB X.K cs F H b x d) (ry : RepB X.K cs F H b' y e) (q : subK h d e Q) (p : PostV X.K Cl cs F H h Q R) : IxW X x y H R := by
  unfold subK at q
  split at q
  · split at q
    · cases rx.str; cases ry.int
      obtain ⟨q1, q2⟩ := q
      split at q2
      · rename_i c hc
        exact ixw_of ix_str ⟨_, _, c, rfl, rfl, q1, hc, p.str S q2⟩
      · exact q2.elim
    · exact q.elim
  · split at q
    · rename_i xs hv
      obtain ⟨a, vs, rfl, hq, r⟩ := rx.viewT S hv
      split at q
      · cases ry.int
        split at q
        · rename_i d' hd
          obtain ⟨v, hv, rv⟩ := r.at hd
          rcases hq with hq | hq
          · exact ixw_of ix_list ⟨a, vs, _, v, rfl, rfl, hq, hv, p.here S rv q⟩
          · exact ixw_of ix_tup ⟨a, vs, _, v, rfl, rfl, hq, hv, p.here S rv q⟩
        · exact q.elim
      · exact q.elim
    · split at q
      · rename_i kvs k hd hk
        obtain ⟨a, vs, rfl, hq, r⟩ := rx.viewD S hd
        cases ry.key hk
        split at q
        · rename_i d' hd'
          rcases r.get (k := k) with ⟨v, d2, e1, e2, r2⟩ | ⟨e1, e2⟩
          · rw [hd'] at e2; cases e2
            refine ixw_of (ix_dict (by omega)) ⟨a, v, rfl, ?_, p.here S r2 q⟩
            rw [← e1]
            exact .inl ⟨_, _, hq, rfl, rfl⟩
          · rw [hd'] at e2; cases e2
        · exact q.elim
      · exact q.elim
theorem Reps.cut_whole {K : PySem.W.Frag} {vs : List V} {xs : List AV} (r : Reps K cs F vs xs) {lo hi : Option Int} (w : HT.sIx vs.length 0 lo = 0 ∧ HT.sIx vs.length vs.length hi = vs.length) : _root_.VL.cut xs lo hi = xs := by
  unfold VL.cut
  rw [← r.length, w.1, w.2, r.length]
  simp
theorem sliceK_ok (S : StOk X.K Cl cs F H h) (rx : RepB X.K cs F H false x d) {lo hi : Option Int} (q : sliceK h d lo hi Q) (p : PostV X.K Cl cs F H h Q R) : SlW X x lo hi H R := by
  unfold sliceK at q
  split at q
  · cases rx.str
    exact slw_of sl_str ⟨_, rfl, q.1, p.str S q.2⟩
  · have rx := rx.plain
    cases rx with
    | tup h1 r1 =>
      refine slw_of sl_tupA ⟨_, _, rfl, ex_t S.sub h1, fun w => ?_, fun _ => p.newT S (r1.cut lo hi) q⟩
      rw [r1.cut_whole w] at q
      exact p.here S (.tup h1 r1) q
  · exact q.elim
theorem truK_ok (S : StOk X.K Cl cs F H h) (rx : RepB X.K cs F H b x d) {Q : Bool → Prop} (q : truK h d Q) : ∃ k, TruV X.K x H k ∧ Q k := by
  unfold truK at q
  split at q
  · cases rx.bl; exact ⟨_, rfl, q⟩
  · cases rx.non; exact ⟨_, rfl, q⟩
  · cases rx.int; exact ⟨_, rfl, q⟩
  · cases rx.str; exact ⟨_, ⟨q.1, rfl⟩, q.2⟩
  · split at q
    · rename_i xs hv
      obtain ⟨a, vs, rfl, hq, r⟩ := rx.viewT S hv
      have e : xs.isEmpty = vs.isEmpty := by
        have := r.length
        cases vs <;> cases xs <;> simp at this ⊢
      rw [e] at q
      rcases hq with hq | hq
      · exact ⟨_, .inl ⟨vs, hq, rfl⟩, q⟩
      · exact ⟨_, .inr (.inl ⟨vs, hq, rfl⟩), q⟩
    · exact q.elim
def bVal : Blt → Value
  | .len => .builtin "len" | .abs => .builtin "abs" | .int => .type "int" | .str => .type "str" | .max2 => .builtin "max" | .min2 => .builtin "min" | .maxL => .builtin "max" | .minL => .builtin "min"
  | .sum => .builtin "sum" | .all => .builtin "all" | .any => .builtin "any" | .tuple => .type "tuple" | .repr => .builtin "repr"
inductive RepBs (K : PySem.W.Frag) (cs : List Addr) (F H : Hp) (b : Bool) : List V → List AV → Prop
  | nil : RepBs K cs F H b [] []
  | cons {v : V} {vs : List V} {d : AV} {ds : List AV} : RepB K cs F H b v d → RepBs K cs F H b vs ds → RepBs K cs F H b (v :: vs) (d :: ds)
theorem RepBs.step {K : PySem.W.Frag} {cs' : List Addr} {F' H' : Hp} {vs : List V} {ds : List AV} (r : RepBs K cs F H b vs ds) (x : Stp cs F H cs' F' H') : RepBs K cs' F' H' b vs ds := by
  induction r with
  | nil => exact .nil
  | cons h _ ih => exact .cons (h.step x) ih
theorem RepBs.plain {K : PySem.W.Frag} {vs : List V} {ds : List AV} (r : RepBs K cs F H false vs ds) : Reps K cs F vs ds := by
  induction r with
  | nil => exact .nil
  | cons h _ ih => exact .cons h.plain ih
/-- repr, where no guard is open -/
theorem call_repr_D (gd : X.A.guards = some []) (hu : X.A.units + 64 < cLine) : CallR X (.builtin "repr") fun vs H Q => ∃ v d, vs = [v] ∧ Dp X.K H v d ∧ (d.showable = true ∧ d.hasDict = false ∧ d.depth ≤ 50 ∧ d.shown.length ≤ sizeLine) ∧ Q (.str d.shown) H := by
  rintro pins s σ H vs us Q J rs ⟨v, d, rfl, hd, ⟨h1, h2, h3, h4⟩, q⟩
  cases rs with
  | cons r rs =>
    rename_i u us
    cases rs
    obtain ⟨as, rd⟩ := Dp.reads J d v u hd r
    have fin : ∀ h' tk, (∀ b o, s.heap.get? b = some o → h'.get? b = some o) → ∀ t, EP X pins σ Q (.str d.shown t) { s with heap := h', toks := tk } :=
      fun h' tk hk t => ⟨.str d.shown, H, J.kept hk, ⟨t, rfl⟩, q⟩
    have same : ∀ b o, s.heap.get? b = some o → s.heap.get? b = some o := fun _ _ e => e
    cases rd with
    | none => exact PySem.P.repr_of_none (fin s.heap _ same _)
    | bool b => exact PySem.P.repr_of_bool (fin s.heap _ same _)
    | int i t => exact PySem.P.repr_of_int (by simpa [PyData.showable] using h1) (fin s.heap _ same _)
    | str x t => exact PySem.P.repr_of_str (fin s.heap _ same _) h4
    | list a1 a2 a3 a4 => exact repr_of_reads' (.list a1 a2 a3 a4) h1 (PyData.noDict_hsm h2) gd (by omega) same (fun h' t tk hk => fin h' tk hk t) h4
    | tuple a1 a2 a3 a4 => exact repr_of_reads' (.tuple a1 a2 a3 a4) h1 (PyData.noDict_hsm h2) gd (by omega) same (fun h' t tk hk => fin h' tk hk t) h4
    | dict a1 a2 a3 a4 a5 => cases h2
theorem bltK_ok (hc : X.calm = true) (gd : X.A.guards = some []) (hu : X.A.units + 64 < cLine) (S : StOk X.K Cl cs F H h) {bt : Blt} {vs : List V} {ds : List AV} (rs : RepBs X.K cs F H b vs ds) (q : bltK h bt ds Q) (p : PostV X.K Cl cs F H h Q R) : CallW X (bVal bt) vs H R := by
  unfold bltK at q
  split at q
  · -- len of a text
    cases rs with | cons r1 rs => cases rs; cases r1.str; exact callw_of call_len_str ⟨_, rfl, q.1, p.int S q.2⟩
  · cases rs with
    | cons r1 rs =>
      cases rs
      split at q
      · rename_i xs hv
        obtain ⟨a, vs, rfl, hq, r⟩ := r1.viewT S hv
        refine callw_of call_len_seq ⟨a, vs, rfl, hq, ?_⟩
        rw [r.length]
        exact p.int S q
      · split at q
        · rename_i kvs hd
          obtain ⟨a, vs, rfl, hq, r⟩ := r1.viewD S hd
          refine callw_of call_lenRd ⟨a, vs, rfl, hq, ?_⟩
          rw [r.length]
          exact p.int S q
        · exact q.elim
  · cases rs with | cons r1 rs => cases rs; cases r1.int; exact callw_of call_abs ⟨_, rfl, p.int S q⟩
  · cases rs with | cons r1 rs => cases rs; cases r1.int; exact callw_of call_int1 (.inl ⟨_, rfl, p.int S q⟩)
  · cases rs with | cons r1 rs => cases rs; cases r1.bl; exact callw_of call_int1 (.inr ⟨_, rfl, p.int S q⟩)
  · cases rs with
    | cons r1 rs =>
      cases rs
      cases r1.str
      split at q
      · rename_i n e
        exact callw_of call_int_str ⟨_, n, rfl, e, q.1, p.int S q.2⟩
      · exact q.elim
  · cases rs with | cons r1 rs => cases rs; cases r1.int; exact callw_of call_str_int ⟨_, rfl, q.1, p.str S q.2⟩
  · cases rs with | cons r1 rs => cases rs with | cons r2 rs => cases rs; cases r1.int; cases r2.int; exact callw_of (call_max2 hc) ⟨_, _, rfl, p.int S q⟩
  · cases rs with | cons r1 rs => cases rs with | cons r2 rs => cases rs; cases r1.int; cases r2.int; exact callw_of (call_min2 hc) ⟨_, _, rfl, p.int S q⟩
  · cases rs with
    | cons r1 rs =>
      cases rs
      split at q
      · rename_i ns hv
        obtain ⟨xs, hv, hn⟩ := Option.bind_eq_some_iff.mp hv
        obtain ⟨a, vs, rfl, hq, r⟩ := r1.view S hv
        rw [r.ints hn] at hq
        exact callw_of (cr_max hc) ⟨a, ns, rfl, hq, q.1, fun m h1 h2 => p.int S (q.2 m h1 h2)⟩
      · exact q.elim
  · cases rs with
    | cons r1 rs =>
      cases rs
      split at q
      · rename_i ns hv
        obtain ⟨xs, hv, hn⟩ := Option.bind_eq_some_iff.mp hv
        obtain ⟨a, vs, rfl, hq, r⟩ := r1.view S hv
        rw [r.ints hn] at hq
        exact callw_of (cr_min hc) ⟨a, ns, rfl, hq, q.1, fun m h1 h2 => p.int S (q.2 m h1 h2)⟩
      · exact q.elim
  · cases rs with
    | cons r1 rs =>
      cases rs
      split at q
      · rename_i ns hv
        obtain ⟨xs, hv, hn⟩ := Option.bind_eq_some_iff.mp hv
        obtain ⟨a, vs, rfl, hq, r⟩ := r1.view S hv
        rw [r.ints hn] at hq
        exact callw_of (cr_sum hc) ⟨a, ns, rfl, hq, p.int S q⟩
      · exact q.elim
  · cases rs with
    | cons r1 rs =>
      cases rs
      split at q
      · rename_i ns hv
        obtain ⟨xs, hv, hn⟩ := Option.bind_eq_some_iff.mp hv
        obtain ⟨a, vs, rfl, hq, r⟩ := r1.view S hv
        rw [r.bools hn] at hq
        exact callw_of (cr_all hc) ⟨a, ns, rfl, hq, p.bl S q⟩
      · exact q.elim
  · cases rs with
    | cons r1 rs =>
      cases rs
      split at q
      · rename_i ns hv
        obtain ⟨xs, hv, hn⟩ := Option.bind_eq_some_iff.mp hv
        obtain ⟨a, vs, rfl, hq, r⟩ := r1.view S hv
        rw [r.bools hn] at hq
        exact callw_of (cr_any hc) ⟨a, ns, rfl, hq, p.bl S q⟩
      · exact q.elim
  · cases rs with
    | cons r1 rs =>
      cases rs
      split at q
      · rename_i d hd
        exact callw_of (call_repr_D gd hu) ⟨_, d, rfl, r1.pdH S hd, q.1, p.str S q.2⟩
      · exact q.elim
  · cases rs with
    | cons r1 rs =>
      cases rs
      rcases r1 with r | ⟨_, _, _, _, _, ⟨_, _, e, _⟩ | ⟨_, _, e, _⟩⟩
      · cases r with
        | tup h1 r1 => exact callw_of call_tuple_of ⟨_, _, rfl, .inr ⟨ex_t S.sub h1, p.here S (.tup h1 r1) q⟩⟩
      · cases e
      · cases e
  · cases rs with
    | cons r1 rs =>
      cases rs
      split at q
      · rename_i xs hv
        obtain ⟨a, vs, rfl, hq, r⟩ := r1.view S hv
        exact callw_of call_tuple_of ⟨a, vs, rfl, .inl ⟨hq, p.newT S r q⟩⟩
      · exact q.elim
  · exact q.elim
end
end VL

set_option maxRecDepth 100000
set_option maxHeartbeats 4000000
/-! VL: the promise of a def where no guard stands open: what repr asks. -/
namespace VL
open PySem L2 Evl PyProof.Rows PySem.Spec
/-- what a def keeps, called where no guard is open; no exception leaves it -/
structure FnG (P : Program) (W : World) (K : PySem.W.Frag) (gl : Str → Option Value) (B : Heap) (k : Nat) (f : Addr) (fd : FuncData) (ps : List Str) (sp : Sp) : Prop where
  cnt : ∀ vs H Q E, sp vs H Q E → vs.length = ps.length
  go : ∀ (A : Around) (fr : List PySem.Env) (s : Shared) (H : Hp) (ar : Args) (us : List Value) (vs : List V) (Q : VK) (E : XK),
    A.guards = some [] → Room k A → Env0 P W K gl B A fr s H → BindsTo s fd ar (ps.zip us) → Vals vs us → sp vs H Q E →
    codeAny (model P W) A (.call (.ref f) ar) (CR CX0 fr P W H s Q E) s
section
variable {P : Program} {W : World} {K : PySem.W.Frag} {gl : Str → Option Value} {B : Heap}
theorem FnG.of_body {name qn : Str} {st : Stmt} {f : Addr} {fd : FuncData} {N ps : List Str} {k : Nat} {sp : Sp} (F : Fun K name qn st f fd) (S : FnScope N ps (defScope st)) (cnt : ∀ vs H Q E, sp vs H Q E → vs.length = ps.length)
    (body : ∀ (cv : Value) (A : Around) (fr : List PySem.Env) (s : Shared) (H : Hp) (vs : List V) (Q : VK) (E : XK), (A.deeper (envOfC qn (defScope st) s.heap.objs.size f cv)).guards = some [] →
      Room k (A.deeper (envOfC qn (defScope st) s.heap.objs.size f cv)) → sp vs H Q E →
      ∃ t, PSs (cxOf CX0 P W K gl B N qn (defScope st) f cv A fr s H E).nox (defBody st) t ∧ t { nx := fun _ H' => Q .non H', rt := Q } (L2.start N vs) H) :
    FnG P W K gl B (k + 1) f fd ps sp := by
  obtain ⟨oc, od, kV, dc, pm, an, cv, ct, sl, rfl, at_, code⟩ := F.ex
  constructor
  · exact cnt
  intro A fr s H ar us vs Q E gd room env bnd rel want
  have here : K.In s.heap := env.mod.kin.keeps fun b o z => (env.bs b o z).1
  have kinds : ∀ y ∈ ps.zip us, (defScope st).names.lookup y.1 = some .local ∨ ((defScope st).names.lookup y.1 = some .cell ∧ ((cellsFrom (s.heap.objs.size + 1) (defScope st).names []).lookup y.1).isSome = true) := by
    rintro ⟨nm, v⟩ hy
    rcases S.par nm (List.of_mem_zip hy).1 with z | z
    · exact Or.inl z
    · exact Or.inr ⟨z, PySem.W.cellsFrom_some _ _ _ (Or.inl z)⟩
  refine codeAny_call_function room.depth (here _ _ at_) rfl S.co S.gen rfl (PySem.W.codeRec_of here code) (bnd _ _ _ _ ?_)
  refine wpAny_newFunctionEnv_cells S.kind kinds fun e0 he s1 x => ?_
  cases he
  have calm : s.heap.NoLimit := env.mod.nolimit.keeps fun b o z => (env.bs b o z).1
  refine And.intro (calm.keeps x.toInCall.keep) (codeAny_func ?_)
  obtain ⟨t, pt, run⟩ := body cv A fr s H vs Q E gd (room.deeper _) want
  have J : Inv (cxOf CX0 P W K gl B N qn (defScope st) f cv A fr s H E) [] (L2.start N vs) H s1 := inv_start S room.hd env (cnt _ _ _ _ want) rel x
  refine wpAny_mono (pt.nox.run [] s1 (L2.start N vs) H _ J run) ?_ fun _ _ z => z
  intro fl s2 z
  match fl, z with
  | .ret u, ⟨v, _, H2, J2, rv, q⟩ => exact ⟨v, H2, J2.os, J2.bare, J2.base, J2.hok, rv, q⟩
  | .next, ⟨_, H2, J2, q⟩ => exact ⟨V.non, H2, J2.os, J2.bare, J2.base, J2.hok, rfl, q⟩
  | .brk, ⟨_, _, _, q⟩ => exact q.elim
  | .cont, ⟨_, _, _, q⟩ => exact q.elim
end
section
variable {X : Cx} {k : Nat} {f : Addr} {fd : FuncData} {ps : List Str} {sp : Sp} {x : Str} {p pos : Pos} {e : Expr} {es : List Expr} {t : TA}
theorem FnG.step {pins : List (Addr × Obj)} {σ : L2.St} {H : Hp} {s : Shared} {Q : VK} {us : List Value} {vs : List V} (F : FnG X.prog X.w X.K X.mg X.base k f fd ps sp) (gd : X.A.guards = some []) (room : Room k X.A) (bnd : Binds X.K fd ps [])
    (J : Inv X pins σ H s) (rel : Vals vs us) (want : sp vs H Q E0) : wpAny (model X.prog X.w) X.A (call (.ref f) us) (EP X pins σ Q) X.xe s := by
  have n1 : (us ++ []).length = ps.length := by
    rw [List.append_nil, ← rel.length]
    exact F.cnt _ _ _ _ want
  have b1 := bnd s us J.kIn n1
  rw [List.append_nil] at b1
  refine wpAny_call (codeAny_mono (F.go X.A X.stack s H ⟨us, []⟩ us vs Q E0 gd room J.env0 b1 rel want) ?_)
  intro r s2 z
  match r, z with
  | .ok (.ret u), z => exact J.after z
  | .ok .next, z => exact z.elim
  | .ok .brk, z => exact z.elim
  | .ok .cont, z => exact z.elim
  | .error _, z => exact z.elim
/-- f(e, ..) -/
theorem FnG.call (F : FnG X.prog X.w X.K X.mg X.base k f fd ps sp) (gd : X.A.guards = some []) (room : Room k X.A) (hg : Gl X x) (hm : X.mg x = some (.ref f)) (hk : PySem.W.keepIn X.K (.ref f) = true) (bnd : Binds X.K fd ps [])
    (ha : PA X (e :: es) t) (hdb : (x == ("__debug__" : Str)) = false) (he : starEach (e :: es) X.env = (false, eval e X.env) :: starEach es X.env) (hpl : (backTo pos (starEach es X.env)).any (·.1) = false) :
    PE X (.Call (.Name x p) (e :: es) [] pos) fun σ H Q => t σ H fun vs H1 => sp vs H1 Q E0 := by
  constructor
  intro pins s σ H Q J z
  refine wpAny_Call_Name_kw (ld_glob J hg hm ?_ hdb)
  refine PySem.W.callWith_K (h₀ := X.base) J.ok.mod.kin hk (thn (ha.run pos pins s σ H _ J z) ?_) he hpl
  rintro us s1 ⟨vs, H1, J1, rel, want⟩
  exact ⟨J1.kIn, F.step gd room bnd J1 rel want⟩
/-- f() -/
theorem FnG.call0 (F : FnG X.prog X.w X.K X.mg X.base k f fd ps sp) (gd : X.A.guards = some []) (room : Room k X.A) (hg : Gl X x) (hm : X.mg x = some (.ref f)) (hk : PySem.W.keepIn X.K (.ref f) = true) (bnd : Binds X.K fd ps [])
    (hdb : (x == ("__debug__" : Str)) = false) : PE X (.Call (.Name x p) [] [] pos) fun σ H Q => sp [] H Q E0 := by
  constructor
  intro pins s σ H Q J z
  exact wpAny_Call_Name_kw (ld_glob J hg hm (PySem.W.callWith_K0 J.kIn hk (F.step (us := []) gd room bnd J .nil z)) hdb)
theorem under_gd {A : Around} {C : Addr} {us : List Value} (h : A.guards = some []) : (A.under (.builtin "type.__call__" ⟨.ref C :: us, []⟩)).guards = some [] := by
  first | exact h | (simp [Around.under, Code.guards, Code.isGuard, guardIds, pushGuards, h])
/-- C(..): the new instance, then its __init__ -/
theorem FnG.born {C : Addr} {pins : List (Addr × Obj)} {σ : L2.St} {H : Hp} {s : Shared} {Q : VK} {us : List Value} {vs : List V} (M : Mk X.K C f) (F : FnG X.prog X.w X.K X.mg X.base k f fd ps sp) (gd : X.A.guards = some []) (room : Room (k + 1) X.A) (bnd : Binds X.K fd ps [])
    (J : Inv X pins σ H s) (rel : Vals vs us) (want : ∀ x dx, H x = none → H dx = none → dx ≠ x → sp (.ref x :: vs) (upd (upd H dx (.own x)) x (.ins C dx [])) (fun v H2 => v = .non ∧ Q (.ref x) H2) E0) :
    wpAny (model X.prog X.w) X.A (PySem.call (.ref C) us) (EP X pins σ Q) X.xe s := by
  have n0 : H s.heap.objs.size = none := J.hok.fresh (Nat.le_refl _)
  have n1 : H (s.heap.objs.size + 1) = none := J.hok.fresh (Nat.le_succ _)
  have want := want _ _ n1 n0 (Nat.ne_of_lt (Nat.lt_succ_self _))
  have J2 := Inv.made (C := C) J
  have rel2 : Vals (V.ref (s.heap.objs.size + 1) :: vs) (Value.ref (s.heap.objs.size + 1) :: us) := .cons rfl rel
  have cnt : (Value.ref (s.heap.objs.size + 1) :: us ++ []).length = ps.length := by
    rw [List.append_nil, ← rel2.length]
    exact F.cnt _ _ _ _ want
  have b1 := bnd _ (Value.ref (s.heap.objs.size + 1) :: us) J2.kIn cnt
  rw [List.append_nil] at b1
  refine wpAny_call (make_map (f := f) J.kIn M.makes M.init (beq_iff_eq.mp M.fn) (codeAny_mono (F.go _ X.stack _ _ ⟨Value.ref (s.heap.objs.size + 1) :: us, []⟩ _ _ _ E0 (under_gd gd) (room.make C us []) (J2.env0.make C us []) b1 rel2 want) ?_))
  intro r s2 z
  match r, z with
  | .ok (.ret u), z =>
    obtain ⟨v, H2, J3, rv, ev, q⟩ := J2.after z
    subst ev
    exact ⟨rv, V.ref _, H2, J3, rfl, q⟩
  | .ok .next, z => exact z.elim
  | .ok .brk, z => exact z.elim
  | .ok .cont, z => exact z.elim
  | .error _, z => exact z.elim
theorem FnG.make {C : Addr} (M : Mk X.K C f) (F : FnG X.prog X.w X.K X.mg X.base k f fd ps sp) (gd : X.A.guards = some []) (room : Room (k + 1) X.A) (hg : Gl X x) (hm : X.mg x = some (.ref C)) (bnd : Binds X.K fd ps [])
    (ha : PA X (e :: es) t) (hdb : (x == ("__debug__" : Str)) = false) (he : starEach (e :: es) X.env = (false, eval e X.env) :: starEach es X.env) (hpl : (backTo pos (starEach es X.env)).any (·.1) = false) :
    PE X (.Call (.Name x p) (e :: es) [] pos) fun σ H Q => t σ H fun vs H1 => ∀ a dx, H1 a = none → H1 dx = none → dx ≠ a → sp (.ref a :: vs) (upd (upd H1 dx (.own a)) a (.ins C dx [])) (fun v H2 => v = .non ∧ Q (.ref a) H2) E0 := by
  constructor
  intro pins s σ H Q J z
  refine wpAny_Call_Name_kw (ld_glob J hg hm ?_ hdb)
  refine PySem.W.callWith_K (h₀ := X.base) J.ok.mod.kin M.kp (thn (ha.run pos pins s σ H _ J z) ?_) he hpl
  rintro us s1 ⟨vs, H1, J1, rel, want⟩
  exact ⟨J1.kIn, F.born M gd room bnd J1 rel want⟩
/-- the def of a method, found at the object -/
theorem call_at {o : Expr} {m : Str} {apos : Pos} {env : PySem.Env} {args : List Expr} {A : Around} {M : Model} {Q : Value → Shared → Prop} {E : Value → Shared → Prop} {s : Shared} (hb : attributeBase o m env (eval o env) = eval o env) (hl : (apos.endLine == pos.line) = true) (hf : methodCallForm args.length (backTo pos (starEach args env)) [] = true)
    (h : wpAny M A (eval o env) (fun ov s1 => ∀ pl, wpAny M A (getMethod ov m pl) (fun g s2 => wpAny M A (callWith pos g.1 g.2 (backTo pos (starEach args env)) []) Q E s2) E s1) E s) : wpAny M A (eval (.Call (.Attribute o m apos) args [] pos) env) Q E s := by
  rw [arm_eval_Call, hb]
  refine wpAny_bind (thn h ?_)
  intro ov s1 z
  refine wpAny_bind (wpAny_standAt ?_)
  have same : ∀ few, methodCallPos few o env apos pos = pure pos := fun few => by unfold methodCallPos; simp [hl]
  unfold methodCall
  show wpAny M A (holding [ov] (calleeOf (methodCallForm args.length (backTo pos (starEach args env)) []) o env ov m) >>= _) Q E s1
  rw [hf]
  refine wpAny_bind (wpAny_holding (thn (z _) ?_))
  intro g s2 z2
  exact wpAny_bind (wpAny_of_eq (same _) z2)
/-- a method of the object that stands there, at its class -/
def MethAt (X : Cx) (C : Addr) (m : Str) (sp : Sp) : Prop := ∃ k f fd ps, Cls X.K C ∧ Meth X.K C m f ∧ FnG X.prog X.w X.K X.mg X.base k f fd ps sp ∧ Room k X.A ∧ Binds X.K fd ps []
theorem pe_methG {m : Str} {o : Expr} {apos : Pos} {ta : TE} (ho : PE X o ta) (hb : attributeBase o m X.env (eval o X.env) = eval o X.env) (hl : (apos.endLine == pos.line) = true) (hf : methodCallForm (e :: es).length (backTo pos (starEach (e :: es) X.env)) [] = true) (gd : X.A.guards = some [])
    (ha : PA X (e :: es) t) (he : starEach (e :: es) X.env = (false, eval e X.env) :: starEach es X.env) (hpl : (backTo pos (starEach es X.env)).any (·.1) = false) :
    PE X (.Call (.Attribute o m apos) (e :: es) [] pos) fun σ H Q => ta σ H fun x H1 => ∃ a C dx fs sp, x = .ref a ∧ H1 a = some (.ins C dx fs) ∧ fs.lookup m = none ∧ MethAt X C m sp ∧ t σ H1 fun vs H2 => sp (x :: vs) H2 Q E0 := by
  constructor
  intro pins s σ H Q J z
  refine call_at hb hl hf (thn (ho.run pins s σ H _ J z) ?_)
  rintro u s1 ⟨x, H1, J1, rx, a, C, dx, fs, sp, rfl, ea, l, ⟨k, f, fd, ps, c, hm, F, room, bnd⟩, q⟩ pl
  cases rx
  refine getmeth_ok J1 ea c hm l ?_
  refine PySem.W.callWith_K (first := [.ref a]) (h₀ := X.base) J1.ok.mod.kin hm.kp (thn (ha.run pos pins s1 σ H1 _ J1 q) ?_) he hpl
  rintro us s2 ⟨vs, H2, J2, rel, want⟩
  exact ⟨J2.kIn, F.step (us := .ref a :: us) (vs := .ref a :: vs) gd room bnd J2 (.cons rfl rel) want⟩
theorem pe_methG0 {m : Str} {o : Expr} {apos : Pos} {ta : TE} (ho : PE X o ta) (hb : attributeBase o m X.env (eval o X.env) = eval o X.env) (hl : (apos.endLine == pos.line) = true) (gd : X.A.guards = some []) :
    PE X (.Call (.Attribute o m apos) [] [] pos) fun σ H Q => ta σ H fun x H1 => ∃ a C dx fs sp, x = .ref a ∧ H1 a = some (.ins C dx fs) ∧ fs.lookup m = none ∧ MethAt X C m sp ∧ sp [x] H1 Q E0 := by
  constructor
  intro pins s σ H Q J z
  refine call_at hb hl rfl (thn (ho.run pins s σ H _ J z) ?_)
  rintro u s1 ⟨x, H1, J1, rx, a, C, dx, fs, sp, rfl, ea, l, ⟨k, f, fd, ps, c, hm, F, room, bnd⟩, want⟩ pl
  cases rx
  refine getmeth_ok J1 ea c hm l ?_
  exact PySem.W.callWith_K0 (first := [.ref a]) J1.kIn hm.kp (F.step (us := [.ref a]) (vs := [.ref a]) gd room bnd J1 (.cons rfl .nil) want)
end
end VL

set_option maxRecDepth 100000
set_option maxHeartbeats 2000000
/-! VL: t[::-1] of a tuple; dicts of the module. -/
namespace VL
open PySem L2 Evl PyProof.Rows PySem.Spec
section
variable {prog : Program} {w : World} {A : Around} {E : Value → Shared → Prop} {s : Shared}
theorem rev_adjust (n : Nat) : Builtin.Slice.sliceAdjust none none (-1) (n : Int) = ((n : Int) - 1, -1) := by
  unfold Builtin.Slice.sliceAdjust
  have h1 : ((-1 : Int) < 0) := by decide
  simp only [h1, if_true]
theorem rev_places (n : Nat) : Builtin.Slice.slicePlaces ((n : Int) - 1) (-1) (-1) = n := by
  unfold Builtin.Slice.slicePlaces
  have h1 : ¬ ((-1 : Int) > 0) := by decide
  have h2 : (-(-1) : Int) = 1 := by decide
  simp only [h1, if_false, h2, Int.ediv_one]
  split <;> omega
theorem fm_congr {α β : Type} {f g : α → Option β} : ∀ {l : List α}, (∀ a ∈ l, f a = g a) → l.filterMap f = l.filterMap g
  | [], _ => rfl
  | x :: l, h => by rw [List.filterMap_cons, List.filterMap_cons, h x (by simp), fm_congr fun a m => h a (List.mem_cons_of_mem _ m)]
theorem rev_pick (xs : Array Value) : ((List.range xs.size).filterMap fun (m : Nat) => xs[((xs.size : Int) - 1 + (m : Int) * -1).toNat]?).toArray = xs.toList.reverse.toArray := by
  have g := HT.pick_gen xs.toList.reverse.toArray 0 xs.size
  have e : ((List.range xs.size).filterMap fun (m : Nat) => xs[((xs.size : Int) - 1 + (m : Int) * -1).toNat]?) = ((List.range xs.size).filterMap fun (m : Nat) => xs.toList.reverse.toArray[(((0 : Nat) : Int) + (m : Int) * 1).toNat]?) := by
    apply fm_congr
    intro m hm
    have hm := List.mem_range.mp hm
    have e1 : ((xs.size : Int) - 1 + (m : Int) * -1).toNat = xs.size - 1 - m := by omega
    have e2 : (((0 : Nat) : Int) + (m : Int) * 1).toNat = m := by omega
    rw [e1, e2]
    simp only [List.getElem?_toArray]
    rw [List.getElem?_reverse (by simpa using hm)]
    simp
  rw [e, g]
  congr 1
  rw [List.drop_zero]
  exact List.take_of_length_le (by simp)
theorem slicePart_m1 {t : Tok} {Q : Option Int → Shared → Prop} (h : Q (some (-1)) s) : wpAny (model prog w) A (Builtin.Slice.slicePartIndex (.int (-1) t)) Q E s := HT.slicePart_ (.int (-1) t) h
theorem sliceApplied_rev {sl : Addr} {vl vu vs : Value} {n : Nat} {Q : Int × Int × Nat → Shared → Prop} (hs : s.heap.IsSliceOf sl vl vu vs) (pl : IsPart vl none) (pu : IsPart vu none) (ps : IsPart vs (some (-1)))
    (h : Q ((n : Int) - 1, -1, n) s) : wpAny (model prog w) A (Builtin.Slice.sliceApplied (.ref sl) (pure (n : Int))) Q E s := by
  obtain ⟨os, hos, hcs, hds⟩ := id hs
  unfold Builtin.Slice.sliceApplied Builtin.Slice.sliceFields
  refine wpAny_bind (wpAny_bind (wpAny_field hos hds (x := vl) rfl (wpAny_bind (wpAny_field hos hds (x := vu) rfl (wpAny_bind (wpAny_field hos hds (x := vs) rfl (wpAny_pure ?_)))))))
  refine wpAny_bind (HT.slicePart_ ps ?_)
  show wpAny _ _ (if ((-1 : Int) == 0) = true then _ else _) _ _ s
  rw [if_neg (by decide)]
  refine wpAny_bind (HT.slicePart_ pl (wpAny_bind (HT.slicePart_ pu (wpAny_bind (wpAny_pure ?_)))))
  show wpAny _ _ (match Builtin.Slice.sliceAdjust none none (-1) (n : Int) with | (lo, hi) => pure (lo, (-1 : Int), Builtin.Slice.slicePlaces lo hi (-1))) _ _ s
  rw [rev_adjust n]
  show wpAny _ _ (pure ((n : Int) - 1, (-1 : Int), Builtin.Slice.slicePlaces ((n : Int) - 1) (-1) (-1))) _ _ s
  rw [rev_places]
  exact wpAny_pure h
theorem getItem_tuple_rev {t sl : Addr} {items : Array Value} {vl vu vs : Value} {Q : Value → Shared → Prop} (ht : IsTup s.heap t items) (hs : s.heap.IsSliceOf sl vl vu vs) (pl : IsPart vl none) (pu : IsPart vu none) (ps : IsPart vs (some (-1)))
    (h : Q (.ref s.heap.objs.size) { s with heap := s.heap.push { cls := .type "tuple", data := .seq items.toList.reverse.toArray } })
    (hsz : items.size ≤ sizeLine) : wpAny (model prog w) A (getItem (.ref t) (.ref sl)) Q E s := by
  have htake : sizeOk (.seq items.toList.reverse.toArray) := by
    show items.toList.reverse.toArray.size ≤ sizeLine
    rw [List.size_toArray, List.length_reverse, Array.length_toList]
    exact hsz
  obtain ⟨os, hos, hcs, hds⟩ := id hs
  have hTs : s.TypeIs (.ref sl) "slice" := ⟨os, hos, hcs⟩
  unfold getItem
  try with_reducible refine wpAny_holding ?_
  first | refine wpAny_bind (wpAny_pure ?_) | skip
  refine wpAny_bind (wpAny_sequenceKey ht.typeIs (by decide) ?_)
  refine wpAny_bind (wpAny_callSpecial?_slot (name := Str.ofString "__getitem__") ht.typeIs PyProof.Rows.slot_tuple_getitem
    (wpAny_call_entry PyProof.Rows.slot_tuple_getitem ht.typeIs entry_tuple_getitem ?_ (args_tuple_getitem _ _)))
  show wpAny _ _ (Builtin.Tuple.tupleItemsOf (.ref t) >>= _) _ _ s
  refine wpAny_bind (PyProof.Rows.tupleItemsOf_ ht ?_)
  refine wpAny_bind (wpAny_typeOf hTs ?_)
  rw [if_pos (by decide)]
  refine wpAny_bind (sliceApplied_rev hs pl pu ps ?_)
  have hno : ¬ ((((items.size : Int) - 1) == 0 && (-1 : Int) == 1 && (items.size == items.size)) = true) := by
    intro q
    rw [Bool.and_eq_true, Bool.and_eq_true] at q
    have := eq_of_beq q.1.2
    omega
  show wpAny _ _ (if (((items.size : Int) - 1) == 0 && (-1 : Int) == 1 && (items.size == items.size)) = true then _ else _) _ _ s
  rw [if_neg hno, rev_pick]
  first
    | exact wpAny_bind (m := Builtin.Tuple.tupleExact _) (wpAny_newObj_type (wpAny_pure ⟨_, rfl, wpAny_pure h⟩) htake)
    | exact wpAny_bind (m := Builtin.Tuple.tupleExact _) (wpAny_newObj_type (wpAny_bind (wpAny_pure (wpAny_pure ⟨_, rfl, wpAny_pure h⟩))) htake)
    | exact wpAny_bind (wpAny_bind (m := Builtin.Tuple.tupleExact _) (wpAny_newObj_type (wpAny_pure (wpAny_pure ⟨_, rfl, wpAny_pure h⟩)) htake))
    | exact wpAny_bind (wpAny_bind (m := Builtin.Tuple.tupleExact _) (wpAny_newObj_type (wpAny_pure ⟨_, rfl, wpAny_pure h⟩) htake))
end
def notStar1 : Expr → Bool
  | .Starred _ _ => false
  | _ => true
section
variable {X : Cx}
def tRevT (K : PySem.W.Frag) (te : TE) : TE := fun σ H Q => te σ H fun x H1 => ∃ a xs, x = .ref a ∧ SqT K H1 a xs ∧ ∀ p, H1 p = none → Q (.ref p) (upd H1 p (.tup xs.reverse))
theorem pe_revT {e : Expr} {te : TE} {k : Nat} {p1 p2 p3 pos : Pos} (he : PE X e te) : PE X (.Subscript e (.Slice none none (some (.UnaryOp .USub (.Constant (.int 1) k p1) p2)) p3) pos) (tRevT X.K te) := by
  refine ⟨fun pins s σ H Q I h => ?_⟩
  refine Subscript_ (thn (he.run pins s σ H _ I h) fun v s1 ⟨x, H1, I1, r1, q1⟩ => ?_)
  obtain ⟨a, xs, ex, hx, q⟩ := q1
  subst ex
  cases r1
  have hst : PO X (some (.UnaryOp .USub (.Constant (.int 1) k p1) p2)) (tPart (tUn (rU fun i => .int (-i)) (tC (.int 1)))) := po_some (pe_un un_neg pe_int)
  refine wpAny_Slice (thn (po_none.run pins s1 σ H1 (fun o H2 => o = none ∧ H2 = H1) I1 ⟨rfl, rfl⟩) fun vl s2 ⟨l, H2, I2, pl, el, e2⟩ => ?_)
  subst el e2
  refine thn (po_none.run pins s2 σ H2 (fun o H3 => o = none ∧ H3 = H2) I2 ⟨rfl, rfl⟩) fun vu s3 ⟨u, H3, I3, pu, eu, e3⟩ => ?_
  subst eu e3
  refine thn (hst.run pins s3 σ H3 (fun o H4 => o = some (-1) ∧ H4 = H3) I3 ⟨1, rfl, -1, rfl, rfl, rfl⟩) fun vs s4 ⟨o, H4, I4, ps, eo, e4⟩ => ?_
  subst eo e4
  have I5 : Inv X pins σ H4 { s4 with heap := s4.heap.push { cls := .type "slice", data := .fields #[vl, vu, vs] } } := I4.kept (t' := s4.toks) fun b ob q => Heap.get?_push_of_some _ q
  obtain ⟨its, r, ht, hz⟩ := I5.tuple hx
  have hlen : its.toArray.size = xs.length := by rw [List.size_toArray]; exact r.length.symm
  show wpAny (model X.prog X.w) X.A (subscriptTail e (.Slice none none (some (.UnaryOp .USub (.Constant (.int 1) k p1) p2)) p3) (.ref a) (.ref s4.heap.objs.size)) (EP X pins σ Q) X.xe { s4 with heap := s4.heap.push { cls := .type "slice", data := .fields #[vl, vu, vs] } }
  refine tail_any (ops := [.ref a, .ref s4.heap.objs.size]) ht.typeIs (PyProof.Rows.slot_tuple_getitem.lookup) ?_ (by with_unfolding_all rfl)
  refine getItem_tuple_rev ht (Heap.IsSliceOf.new _ vl vu vs) pl pu ps ?_ (by rw [hlen]; exact hz)
  refine ⟨.ref _, _, I5.laid (t' := s4.toks) (o := .tup xs.reverse) (fun b ob q => Heap.get?_push_of_some _ q) (Nat.le_refl _) ?_, rfl, q _ (I5.hok.fresh (Nat.le_refl _))⟩
  exact ⟨by rw [List.length_reverse]; exact hz, _, r.reverse, IsTup.new _ _⟩
/-! ### dicts of the module -/
/-- a dict of the module: keys and values -/
structure GDict (K : PySem.W.Frag) (w : World) (d : Addr) (kvs : List (Str × Int)) : Prop where
  kd : ∃ es n, KDict K w d es n
  v : ∀ z, match kvs.lookup z with
    | some i => ∃ t, PySem.W.nsIn K d z = some (some (.int i t))
    | none => PySem.W.nsIn K d z = some none
def noRef (e : DictEntry) : Prop := e.refKey = false
theorem keyOf_ref {e : DictEntry} {x : Str × Int} (h : He.keyOf e = some x) : e.refKey = false := by
  unfold He.keyOf at h
  split at h
  · rename_i y t q
    unfold DictEntry.refKey
    rw [q]
  · cases h
theorem keyOf_str {e : DictEntry} {x : Str × Int} (h : He.keyOf e = some x) (z : Str) : e.key.isStr z = decide (x.1 = z) := by
  unfold He.keyOf at h
  split at h
  · rename_i y t q
    cases h
    rw [q]
    show (y == z) = _
    by_cases c : y = z
    · subst c; simp
    · simp [c]
  · cases h
theorem find_none {P : Params} {z : Str} : ∀ {l : List DictEntry} {ks : List Str}, l.map He.keyOf = He.keysIn P ks → z ∉ ks → l.find? (·.key.isStr z) = none ∧ l.any (·.refKey) = false
  | [], _, _, _ => ⟨rfl, rfl⟩
  | e :: r, [], h, _ => by cases h
  | e :: r, k :: ks, h, hz => by
    have h1 : He.keyOf e :: r.map He.keyOf = some (k, PyData.keyHash P k) :: He.keysIn P ks := h
    injection h1 with h2 h3
    obtain ⟨i1, i2⟩ := find_none (z := z) h3 fun m => hz (List.mem_cons_of_mem _ m)
    have e1 : e.key.isStr z = false := by
      rw [keyOf_str h2 z]
      exact decide_eq_false fun q => hz (by rw [← q]; simp)
    refine ⟨?_, ?_⟩
    · rw [List.find?_cons, e1]; exact i1
    · rw [List.any_cons, keyOf_ref h2, i2]; rfl
theorem gdict_of {K : PySem.W.Frag} {w : World} {a : Addr} {kvs : List (Str × Int)} (h : He.dicW K a = some (He.keysIn w.params (kvs.map (·.1))))
    (hv : ∀ p ∈ kvs, ∃ t, PySem.W.nsIn K a p.1 = some (some (.int p.2 t))) : GDict K w a kvs where
  kd := He.dicW_ok h
  v := fun z => by
    cases c : kvs.lookup z with
    | some i =>
      have mem : (z, i) ∈ kvs := by
        clear h hv
        induction kvs with
        | nil => cases c
        | cons p r ih =>
          obtain ⟨x, y⟩ := p
          rw [List.lookup_cons] at c
          split at c
          · rename_i q
            have := eq_of_beq q
            cases c
            rw [this]; simp
          · exact List.mem_cons_of_mem _ (ih c)
      exact hv _ mem
    | none =>
      have nm : z ∉ kvs.map (·.1) := by
        clear h hv
        induction kvs with
        | nil => simp
        | cons p r ih =>
          obtain ⟨x, y⟩ := p
          rw [List.lookup_cons] at c
          split at c
          · cases c
          · rename_i q
            intro m
            rcases List.mem_cons.mp m with m | m
            · exact absurd (show (z == x) = true by simp [m]) (by simp [q])
            · exact ih c m
      show PySem.W.nsIn K a z = some none
      unfold He.dicW at h
      cases q : K.lookup a with
      | none => rw [q] at h; cases h
      | some o =>
        obtain ⟨oc, od, dt, osl⟩ := o
        rw [q] at h
        unfold PySem.W.nsIn
        rw [q]
        cases oc with
        | type cc =>
          cases od with
          | none =>
            cases dt with
            | dict es n =>
              simp only at h ⊢
              split at h
              · obtain ⟨f1, f2⟩ := find_none (Option.some.inj h) nm
                rw [f1]
                simp only
                rw [f2]; rfl
              · cases h
            | _ => cases h
          | some b => cases dt <;> cases h
        | _ => cases od <;> cases dt <;> cases h
theorem ix_gdict {d : Addr} {kvs : List (Str × Int)} (D : GDict X.K X.w d kvs) : IxR X (fun x y H Q => ∃ z i, x = .ref d ∧ y = .str z ∧ kvs.lookup z = some i ∧ Q (.int i) H) := by
  intro value slice pins s σ H x y v u Q I rx ry h hs
  obtain ⟨z, i, ex, ey, hi, q⟩ := h
  have := D.v z
  rw [hi] at this
  obtain ⟨t, ht⟩ := this
  obtain ⟨es, n, KD⟩ := D.kd
  exact ix_kdict value slice pins s σ H x y v u Q I rx ry ⟨d, z, .int i, ex, ey, ⟨es, n, _, KD.at_, KD.lit, ht, ⟨t, rfl⟩⟩, q⟩ hs
theorem op_gIn {d : Addr} {kvs : List (Str × Int)} (D : GDict X.K X.w d kvs) : OpR X (compareOp .In) (fun x y H Q => ∃ z, x = .str z ∧ y = .ref d ∧ Q (.bl (kvs.lookup z).isSome) H) := by
  intro pins s σ H x y v u Q I rx ry h
  obtain ⟨z, ex, ey, q⟩ := h
  obtain ⟨es, n, KD⟩ := D.kd
  have := D.v z
  cases c : kvs.lookup z with
  | some i =>
    rw [c] at this q
    obtain ⟨t, ht⟩ := this
    exact op_in_kd KD pins s σ H x y v u Q I rx ry ⟨z, _, ex, ey, ht, q⟩
  | none =>
    rw [c] at this q
    exact op_in_kd KD pins s σ H x y v u Q I rx ry ⟨z, _, ex, ey, this, q⟩
theorem op_gNotIn {d : Addr} {kvs : List (Str × Int)} (D : GDict X.K X.w d kvs) : OpR X (compareOp .NotIn) (fun x y H Q => ∃ z, x = .str z ∧ y = .ref d ∧ Q (.bl (!(kvs.lookup z).isSome)) H) := by
  intro pins s σ H x y v u Q I rx ry h
  obtain ⟨z, ex, ey, q⟩ := h
  obtain ⟨es, n, KD⟩ := D.kd
  have := D.v z
  cases c : kvs.lookup z with
  | some i =>
    rw [c] at this q
    obtain ⟨t, ht⟩ := this
    exact op_notIn_kd KD pins s σ H x y v u Q I rx ry ⟨z, _, ex, ey, ht, q⟩
  | none =>
    rw [c] at this q
    exact op_notIn_kd KD pins s σ H x y v u Q I rx ry ⟨z, _, ex, ey, this, q⟩
/-! ### list.index -/
theorem one_form {e : Expr} {env : PySem.Env} (h : notStar1 e = true) (pos : Pos) : ((backTo pos (starEach [e] env)).all (fun x => !x.1) && (backToKw pos (keywordEach [] env)).all (fun x => x.1.isSome)
      && decide (([e] : List Expr).length + ([] : List Keyword).length + (if ([] : List Keyword).isEmpty then 0 else 1) < 30)) = true := by
  cases e <;> first | rfl | cases h
theorem pe_index {o e : Expr} {apos pos : Pos} {to te : TE} (ho : PE X o to) (he : PE X e te) (hn : notStar1 e = true) (hbase : attributeBase o "index" X.env (eval o X.env) = eval o X.env := by rfl) (hline : (apos.endLine == pos.line) = true := by rfl) :
    PE X (.Call (.Attribute o "index" apos) [e] [] pos) (tBM X.K "list" (rIndex X.K) to (tCons te tNil)) := by
  have hs : starEach [e] X.env = (false, eval e X.env) :: starEach [] X.env := by cases e <;> first | rfl | cases hn
  exact pe_bm PySem.F.plainAttrs_list PySem.F.slot_list_index PySem.F.type_list_index mt_index ho (pa_cons he pa_nil hs) hbase (one_form hn _) hline hs rfl
end
end VL

set_option maxRecDepth 100000
set_option maxHeartbeats 2000000
/-! VL: defs that an exception of an own class may leave; the exception's row; isinstance of it. -/
namespace VL
open PySem L2 Evl PyProof.Rows PySem.Spec
/-! ### the __init__ that keeps the row -/
def spRow (K : PySem.W.Frag) : Sp := fun vs H Q _ => ∃ (a C : Addr) (n : Int), vs = [.ref a, .int n] ∧ OexC K C ∧ PySem.W.findIn K (.ref C) "row" = some none ∧ H a = some (exo a C none) ∧
  ∀ dx, H dx = none → dx ≠ a → Q .non (upd (upd H dx (exd dx [("row", .int n)])) a (exo a C (some dx)))
def isRowInit : List Stmt → Bool
  | [.Assign [.Attribute (.Name a _) b _] (.Name c _) _] => decide (a = "self") && decide (b = "row") && decide (c = "row")
  | _ => false
theorem row_init {P : Program} {W : World} {K : PySem.W.Frag} {gl : Str → Option Value} {B : Heap} {name qn : Str} {st : Stmt} {f : Addr} {fd : FuncData} (F : Fun K name qn st f fd) (S : FnScope ["self", "row"] ["self", "row"] (defScope st))
    (v1 : Vis (defScope st) "self") (v2 : Vis (defScope st) "row") (hb : isRowInit (defBody st) = true) : FnOk P W K gl B CX0 1 f fd ["self", "row"] (spRow K) := by
  obtain ⟨oc, od, kV, dc, pm, an, cv, ct, sl, rfl, at_, code⟩ := F.ex
  refine fn_of (k := 0) at_ code S (fun vs H Q E ⟨a, C, n, e, _⟩ => by rw [e]; rfl) fun A outer s H vs Q E hr ⟨a, C, n, e, T, hno, ea, q⟩ => ?_
  unfold isRowInit at hb
  split at hb
  · rename_i x p1 y p2 z p3 p4 eb
    simp only [Bool.and_eq_true, decide_eq_true_eq] at hb
    obtain ⟨⟨rfl, rfl⟩, rfl⟩ := hb
    rw [eb]
    refine ⟨_, pss_cons (ps_ost (pe_var (i := 0) rfl v1 (by decide +kernel) (by decide +kernel)) (pe_var (i := 1) rfl v2 (by decide +kernel) (by decide +kernel)) rfl) pss_nil, ?_⟩
    subst e
    refine ⟨.int n, rfl, .ref a, rfl, a, C, rfl, T, hno, .inl ⟨ea, fun dx h1 h2 => q dx h1 h2⟩⟩
  · cases hb
/-! ### isinstance of a caught exception that has fields -/
structure ExcD (K : PySem.W.Frag) (D : Addr) : Prop where
  hcl : (PySem.W.clsIn K D).isSome = true
  hga : PySem.W.findIn K (.ref D) "__getattribute__" = some (some (.builtin "BaseException.__getattribute__"))
  hgt : PySem.W.findIn K (.ref D) "__getattr__" = some none
  hsub : PySem.W.subIn K (.ref D) (.type "BaseException") = some true
  ha : PySem.W.findIn K (.ref D) "__class__" = some (some (.builtin "object.__class__"))
  hn : PySem.W.specialIn K (.builtin "object.__class__") "__get__" = some (some (.builtin "getset_descriptor.__get__"))
  ht : PySem.W.takesIn K (.builtin "object.__class__") = some true
  hm : PySem.W.mroIn K D (.type "object") = some true
section
variable {X : Cx} {a D dd : Addr} {oe : Obj} {pn : List (Addr × Obj)}
theorem inst_at {pins : List (Addr × Obj)} {σ : L2.St} {H : Hp} {s : Shared} {fs : List (Str × V)} (hz : Zc (.ref D) (some dd) oe) (hf : ∃ vs, oe.data = .fields vs) (I : Inv (X.suite a ((a, oe) :: pn)) pins σ H s) (ea : H dd = some (.xd fs)) :
    ∃ od, PySem.W.InstAt s.heap a oe D (some od) := by
  obtain ⟨ha, _⟩ := I.pin (a, oe) (List.mem_append_left _ List.mem_cons_self)
  obtain ⟨vs, hd⟩ := hf
  have hx : ObjOk X.prog X.w H s.heap dd (.xd fs) := I.hok dd _ ea
  obtain ⟨mA, hns, hr⟩ := hx
  obtain ⟨od, ho, hl⟩ := lookIn_ns hns
  exact ⟨od, ha, hz.1, by unfold PySem.W.notCls; rw [hd] <;> rfl, by rw [hz.2]; exact ho⟩
theorem call_isX (C : ExcD X.K D) (hz : Zc (.ref D) (some dd) oe) (hf : ∃ vs, oe.data = .fields vs) : CallR (X.suite a ((a, oe) :: pn)) (.builtin "isinstance")
    (fun xs H Q => ∃ (c : V) (cv : Value) (b : Bool) (fs : List (Str × V)), xs = [.ref a, c] ∧ (∀ u, RelV c u → u = cv) ∧ PySem.W.kitOne X.K (.ref D) cv = some b ∧ H dd = some (.xd fs) ∧ Q (.bl b) H) := by
  intro pins s σ H xs us Q I r h
  obtain ⟨c, cv, b, fs, rfl, hcv, e, ea, q⟩ := h
  obtain ⟨u1, u2, rfl, r1, r2⟩ := vals2 r
  cases (show u1 = Value.ref a from r1)
  have ec := hcv _ r2
  subst ec
  obtain ⟨od, J⟩ := inst_at hz hf I ea
  exact PySem.W.kia_one (PySem.W.kitx_exc C.hcl C.hga C.hgt C.hsub C.ha C.hn C.ht C.hm) I.kIn J e (fun z => nomatch z) fun tk => ⟨.bl b, H, I.tok tk, rfl, q⟩
theorem call_isXT (C : ExcD X.K D) (hz : Zc (.ref D) (some dd) oe) (hf : ∃ vs, oe.data = .fields vs) : CallR (X.suite a ((a, oe) :: pn)) (.builtin "isinstance")
    (fun xs H Q => ∃ (tp : Addr) (cs : List V) (us : List Value) (b : Bool) (fs : List (Str × V)), xs = [.ref a, .ref tp] ∧ H tp = some (.tup cs) ∧ Paired ClsV cs us ∧ PySem.W.kitAny X.K (.ref D) us = some b ∧ H dd = some (.xd fs) ∧ Q (.bl b) H) := by
  intro pins s σ H xs us Q I r h
  obtain ⟨tp, cs, ws, b, fs, rfl, hT, k, e, ea, q⟩ := h
  obtain ⟨u1, u2, rfl, r1, r2⟩ := vals2 r
  cases (show u1 = Value.ref a from r1)
  cases (show u2 = Value.ref tp from r2)
  obtain ⟨od, J⟩ := inst_at hz hf I ea
  obtain ⟨_, its, rv, o, h1, h2, n, h3⟩ := (show ObjOk X.prog X.w H s.heap tp (.tup cs) from I.hok tp _ hT)
  have e3 := ClsV.all k rv
  subst e3
  obtain ⟨oc, od, dt, sl⟩ := o
  simp only at h2 h3
  subst h2 h3
  exact PySem.W.kia_tup (PySem.W.kitx_exc C.hcl C.hga C.hgt C.hsub C.ha C.hn C.ht C.hm) I.kIn J h1 e (fun z => nomatch z) fun tk => ⟨.bl b, H, I.tok tk, rfl, q⟩
end
/-! ### defs that an exception may leave -/
structure FnGX (P : Program) (W : World) (K : PySem.W.Frag) (gl : Str → Option Value) (B : Heap) (k : Nat) (f : Addr) (fd : FuncData) (ps : List Str) (sp : Sp) : Prop where
  cnt : ∀ vs H Q E, sp vs H Q E → vs.length = ps.length
  go : ∀ (A : Around) (fr : List PySem.Env) (s : Shared) (H : Hp) (ar : Args) (us : List Value) (vs : List V) (Q : VK) (E : XK),
    A.guards = some [] → Room k A → Env0 P W K gl B A fr s H → BindsTo s fd ar (ps.zip us) → Vals vs us → sp vs H Q E →
    codeAny (model P W) A (.call (.ref f) ar) (CR (L2.CX P W) fr P W H s Q E) s
section
variable {P : Program} {W : World} {K : PySem.W.Frag} {gl : Str → Option Value} {B : Heap}
theorem FnGX.of_body {name qn : Str} {st : Stmt} {f : Addr} {fd : FuncData} {N ps : List Str} {k : Nat} {sp : Sp} (F : Fun K name qn st f fd) (S : FnScope N ps (defScope st)) (cnt : ∀ vs H Q E, sp vs H Q E → vs.length = ps.length)
    (body : ∀ (cv : Value) (A : Around) (fr : List PySem.Env) (s : Shared) (H : Hp) (vs : List V) (Q : VK) (E : XK), (A.deeper (envOfC qn (defScope st) s.heap.objs.size f cv)).guards = some [] →
      Room k (A.deeper (envOfC qn (defScope st) s.heap.objs.size f cv)) → sp vs H Q E →
      ∃ t, PSs (cxOf (L2.CX P W) P W K gl B N qn (defScope st) f cv A fr s H E) (defBody st) t ∧ t { nx := fun _ H' => Q .non H', rt := Q } (L2.start N vs) H) :
    FnGX P W K gl B (k + 1) f fd ps sp := by
  obtain ⟨oc, od, kV, dc, pm, an, cv, ct, sl, rfl, at_, code⟩ := F.ex
  constructor
  · exact cnt
  intro A fr s H ar us vs Q E gd room env bnd rel want
  have here : K.In s.heap := env.mod.kin.keeps fun b o z => (env.bs b o z).1
  have kinds : ∀ y ∈ ps.zip us, (defScope st).names.lookup y.1 = some .local ∨ ((defScope st).names.lookup y.1 = some .cell ∧ ((cellsFrom (s.heap.objs.size + 1) (defScope st).names []).lookup y.1).isSome = true) := by
    rintro ⟨nm, v⟩ hy
    rcases S.par nm (List.of_mem_zip hy).1 with z | z
    · exact Or.inl z
    · exact Or.inr ⟨z, PySem.W.cellsFrom_some _ _ _ (Or.inl z)⟩
  refine codeAny_call_function room.depth (here _ _ at_) rfl S.co S.gen rfl (PySem.W.codeRec_of here code) (bnd _ _ _ _ ?_)
  refine wpAny_newFunctionEnv_cells S.kind kinds fun e0 he s1 x => ?_
  cases he
  have calm : s.heap.NoLimit := env.mod.nolimit.keeps fun b o z => (env.bs b o z).1
  refine And.intro (calm.keeps x.toInCall.keep) (codeAny_func ?_)
  obtain ⟨t, pt, run⟩ := body cv A fr s H vs Q E gd (room.deeper _) want
  have J : Inv (cxOf (L2.CX P W) P W K gl B N qn (defScope st) f cv A fr s H E) [] (L2.start N vs) H s1 := inv_start S room.hd env (cnt _ _ _ _ want) rel x
  refine wpAny_mono (pt.run [] s1 (L2.start N vs) H _ J run) ?_ fun _ _ z => z
  intro fl s2 z
  match fl, z with
  | .ret u, ⟨v, _, H2, J2, rv, q⟩ => exact ⟨v, H2, J2.os, J2.bare, J2.base, J2.hok, rv, q⟩
  | .next, ⟨_, H2, J2, q⟩ => exact ⟨V.non, H2, J2.os, J2.bare, J2.base, J2.hok, rfl, q⟩
  | .brk, ⟨_, _, _, q⟩ => exact q.elim
  | .cont, ⟨_, _, _, q⟩ => exact q.elim
end
section
variable {X : Cx} {k : Nat} {f : Addr} {fd : FuncData} {ps : List Str} {sp : Sp} {x : Str} {p pos : Pos} {e : Expr} {es : List Expr} {t : TA} {W : WX}
theorem FnGX.step {pins : List (Addr × Obj)} {σ : L2.St} {H : Hp} {s : Shared} {Q : VK} {us : List Value} {vs : List V} (F : FnGX X.prog X.w X.K X.mg X.base k f fd ps sp) (gd : X.A.guards = some []) (room : Room k X.A) (bnd : Binds X.K fd ps []) (tk : Takes X W)
    (J : Inv X pins σ H s) (rel : Vals vs us) (want : sp vs H Q fun c d H' => W c d σ H') : wpAny (model X.prog X.w) X.A (call (.ref f) us) (EP X pins σ Q) X.xe s := by
  have n1 : (us ++ []).length = ps.length := by
    rw [List.append_nil, ← rel.length]
    exact F.cnt _ _ _ _ want
  have b1 := bnd s us J.kIn n1
  rw [List.append_nil] at b1
  refine wpAny_call (codeAny_mono (F.go X.A X.stack s H ⟨us, []⟩ us vs Q _ gd room J.env0 b1 rel want) ?_)
  intro r s2 z
  match r, z with
  | .ok (.ret u), z => exact J.after z
  | .ok .next, z => exact z.elim
  | .ok .brk, z => exact z.elim
  | .ok .cont, z => exact z.elim
  | .error er, z => exact passAt tk σ pins H s er s2 J z
/-- f(e, ..), which may raise -/
theorem FnGX.call (F : FnGX X.prog X.w X.K X.mg X.base k f fd ps sp) (gd : X.A.guards = some []) (room : Room k X.A) (hg : Gl X x) (hm : X.mg x = some (.ref f)) (hk : PySem.W.keepIn X.K (.ref f) = true) (bnd : Binds X.K fd ps []) (tk : Takes X W)
    (ha : PA X (e :: es) t) (hdb : (x == ("__debug__" : Str)) = false) (he : starEach (e :: es) X.env = (false, eval e X.env) :: starEach es X.env) (hpl : (backTo pos (starEach es X.env)).any (·.1) = false) :
    PE X (.Call (.Name x p) (e :: es) [] pos) fun σ H Q => t σ H fun vs H1 => sp vs H1 Q fun c d H' => W c d σ H' := by
  constructor
  intro pins s σ H Q J z
  refine wpAny_Call_Name_kw (ld_glob J hg hm ?_ hdb)
  refine PySem.W.callWith_K (h₀ := X.base) J.ok.mod.kin hk (thn (ha.run pos pins s σ H _ J z) ?_) he hpl
  rintro us s1 ⟨vs, H1, J1, rel, want⟩
  exact ⟨J1.kIn, F.step gd room bnd tk J1 rel want⟩
end
end VL

set_option maxRecDepth 100000
set_option maxHeartbeats 2000000
/-! VL: the syntax against the text; each construct. -/
namespace VL
open PySem L2 Evl PyProof.Rows PySem.Spec

/-! ### names -/
structure Tab where
  fname : Nat → Option Str
  gname : Nat → Str
  cname : Nat → Option Str
  iname : Nat → Option Str := fun _ => none
  dname : Nat → Option Str := fun _ => none
  ename : Nat → Option Str := fun _ => none
  xname : Nat → Option Str := fun _ => none
def glB (sc : Scope) (x : Str) : Bool := decide (sc.names.lookup x = some .globalImplicit)
def visB (sc : Scope) (x : Str) : Bool := match sc.names.lookup x with
  | some .local => true
  | some .cell => true
  | some .free => true
  | _ => false
def locB (sc : Scope) (x : Str) : Bool := match sc.names.lookup x with
  | some .local => true
  | some .cell => true
  | _ => false
def plainName (x : Str) : Bool := !(x == ("__debug__" : Str)) && !(x == ("__classdict__" : Str)) && decide (x ≠ "__name__")
theorem glB_ok {X : Cx} {x : Str} (h : glB X.env.scope x = true) : Gl X x := by
  show X.env.scope.names.lookup x = some .globalImplicit
  exact of_decide_eq_true h
theorem visB_ok {sc : Scope} {x : Str} (h : visB sc x = true) : Vis sc x := by
  unfold visB at h
  split at h
  · exact .inl (by assumption)
  · exact .inr (.inl (by assumption))
  · exact .inr (.inr (by assumption))
  · cases h
theorem locB_ok {sc : Scope} {x : Str} (h : locB sc x = true) : Loc sc x := by
  unfold locB at h
  split at h
  · exact .inl (by assumption)
  · exact .inr (by assumption)
  · cases h
theorem plainName_ok {x : Str} (h : plainName x = true) : (x == ("__debug__" : Str)) = false ∧ (x == ("__classdict__" : Str)) = false ∧ x ≠ "__name__" := by
  unfold plainName at h
  simp only [Bool.and_eq_true, Bool.not_eq_true', decide_eq_true_eq] at h
  exact ⟨h.1.1, h.1.2, h.2⟩
def agVar (sc : Scope) (N : List Str) (i : Nat) (x : Expr) : Bool := match x with
  | .Name id _ => decide (N[i]? = some id) && visB sc id && plainName id
  | _ => false
def bName : Blt → Str
  | .len => "len" | .abs => "abs" | .int => "int" | .str => "str" | .max2 => "max" | .min2 => "min" | .maxL => "max" | .minL => "min"
  | .sum => "sum" | .all => "all" | .any => "any" | .tuple => "tuple" | .repr => "repr"
def bltNames : List Str := ["len", "abs", "int", "str", "max", "min", "sum", "all", "any", "tuple", "list", "range", "isinstance", "bool", "dict", "repr", "sorted", "zip", "enumerate", "reversed"]
theorem bName_mem (b : Blt) : bName b ∈ bltNames := by cases b <;> decide +kernel
theorem bName_boot (b : Blt) : bootBuiltins (bName b) = some (bVal b) := by cases b <;> decide +kernel
theorem bName_plain (b : Blt) : plainName (bName b) = true := by cases b <;> decide +kernel
def notStar : Expr → Bool
  | .Starred _ _ => false
  | _ => true
def notSlice : Expr → Bool
  | .Slice _ _ _ _ => false
  | _ => true
def notSet : Expr → Bool
  | .Set _ _ _ => false
  | _ => true
/-- no super() -/
def notSup : Expr → Bool
  | .Call _ _ _ _ => false
  | _ => true
theorem star_cons {x : Expr} (h : notStar x = true) (r : List Expr) (env : PySem.Env) : starEach (x :: r) env = (false, eval x env) :: starEach r env := by
  cases x <;> first | rfl | cases h
theorem star_all : ∀ {es : List Expr}, es.all notStar = true → ∀ (pos : Pos) (env : PySem.Env), (backTo pos (starEach es env)).any (·.1) = false
  | [], _, _, _ => rfl
  | e :: es, h, pos, env => by
    rw [List.all_cons, Bool.and_eq_true] at h
    rw [star_cons h.1]
    show (false || (backTo pos (starEach es env)).any (·.1)) = false
    rw [star_all h.2] <;> rfl
theorem plainIx_of {x : Expr} (h : notSlice x = true) : PlainIx x := fun o i => by
  cases x <;> first | rfl | cases h
theorem folded_of {x : Expr} (h : notSet x = true) (env : PySem.Env) : ∀ v, foldedSetIterable x env v = pure v := fun v => by
  cases x <;> first | rfl | cases h
theorem base_of {x : Expr} (h : notSup x = true) (f : Str) (env : PySem.Env) : attributeBase x f env (eval x env) = eval x env := by
  cases x <;> first | rfl | cases h
/-- a test that is its value's truth -/
def plainT : Expr → Bool
  | .UnaryOp .Not _ _ => false
  | .BoolOp _ _ _ => false
  | .IfExp _ _ _ _ => false
  | .Compare _ _ _ _ => false
  | _ => true
theorem plainT_ok {x : Expr} (h : plainT x = true) (env : PySem.Env) : ∀ whole, isTrue x env whole = (do let v ← whole; standAt x.pos; holding [v] (truthy v)) := fun whole => by
  cases x <;> first | rfl | cases h | (rename_i op _ _; cases op <;> first | rfl | cases h)

/-- a target: its name's kind by the block's scope as written and as it runs -/
def tgN (sc0 sc : Scope) (id : Str) : Bool := (decide (sc0.names.lookup id = some .local) && decide (sc.names.lookup id = some .local)) || (decide (sc0.names.lookup id = some .cell) && decide (sc.names.lookup id = some .cell))
def agNames (sc0 sc : Scope) (N : List Str) : List Nat → List Expr → Bool
  | [], [] => true
  | i :: is, .Name id _ :: es => decide (N[i]? = some id) && tgN sc0 sc id && agNames sc0 sc N is es
  | _, _ => false
def agTg (sc0 sc : Scope) (N : List Str) : Tg → Expr → Bool
  | .nm i, x => match x with
    | .Name id _ => decide (N[i]? = some id) && tgN sc0 sc id
    | _ => false
  | .tup is, x => match x with
    | .Tuple es _ _ => agNames sc0 sc N is es
    | _ => false
def tgIds : Tg → List Nat
  | .nm i => [i]
  | .tup is => is
def ownP (N : List Str) : List Nat → List (Str × Nat)
  | [] => []
  | i :: is => (N.getD i "", i) :: ownP N is
theorem ownP_ids (N : List Str) (is : List Nat) : (ownP N is).map (·.2) = is := by
  induction is with
  | nil => rfl
  | cons i is ih => simp [ownP, ih]

def tail2 (op : BoolOp) (z : Expr) (pos : Pos) : List Expr → Expr
  | [] => z
  | w :: r => .BoolOp op (z :: w :: r) pos
def zipOk (it : It) (t : Expr) : Bool := match it with
  | .zip _ _ => match t with
    | .Tuple _ _ _ => true
    | _ => false
  | _ => true
mutual
def agE (T : Tab) (sc : Scope) (N : List Str) : E → Expr → Bool
  | .var i, x => agVar sc N i x
  | .vw i, x => agVar sc N i x
  | .cint i, x => match x with
    | .Constant (.int j) _ _ => decide (i = j)
    | _ => false
  | .cstr i, x => match x with
    | .Constant (.str j) _ _ => decide (i = j)
    | _ => false
  | .cbl i, x => match x with
    | .Constant (.bool j) _ _ => decide (i = j)
    | _ => false
  | .cnon, x => match x with
    | .Constant .none _ _ => true
    | _ => false
  | .glob g, x => match x with
    | .Name id _ => decide (id = T.gname g) && glB sc id && plainName id
    | _ => false
  | .bin op a b, x => match x with
    | .BinOp l o r _ => decide (op = o) && agE T sc N a l && agE T sc N b r
    | _ => false
  | .neg a, x => match x with
    | .UnaryOp .USub y _ => agE T sc N a y
    | _ => false
  | .not a, x => match x with
    | .UnaryOp .Not y _ => agE T sc N a y
    | _ => false
  | .cmp op a b, x => match x with
    | .Compare l [o] [r] _ => decide (op = o) && agE T sc N a l && agE T sc N b r && !behindInMarks o r
    | _ => false
  | .chain o1 o2 a b c, x => match x with
    | .Compare l [p1, p2] [r1, r2] _ => decide (o1 = p1) && decide (o2 = p2) && agE T sc N a l && agE T sc N b r1 && agE T sc N c r2 && !lastMarks [p1, p2] [r1, r2]
    | _ => false
  | .and a b, x => match x with
    | .BoolOp .And (y :: z :: rest) p => agE T sc N a y && agE T sc N b (tail2 .And z p rest)
    | _ => false
  | .or a b, x => match x with
    | .BoolOp .Or (y :: z :: rest) p => agE T sc N a y && agE T sc N b (tail2 .Or z p rest)
    | _ => false
  | .ite c a b, x => match x with
    | .IfExp t l r _ => agE T sc N c t && agE T sc N a l && agE T sc N b r
    | _ => false
  | .tup es, x => match x with
    | .Tuple xs _ _ => agEs T sc N es xs
    | _ => false
  | .fz n, x => agN T sc N n x
  | .new n, x => agN T sc N n x
  | .sub a i, x => match x with
    | .Subscript l r _ => agE T sc N a l && agE T sc N i r && notSlice r
    | _ => false
  | .slice a lo hi, x => match x with
    | .Subscript l (.Slice u v none _) _ => agE T sc N a l && agO T sc N lo u && agO T sc N hi v
    | _ => false
  | .call f es, x => match x with
    | .Call (.Name id _) xs [] _ => decide (T.fname f = some id) && glB sc id && plainName id && agEs T sc N es xs
    | _ => false
  | .blt b es, x => match x with
    | .Call (.Name id _) (y :: xs) [] _ => decide (id = bName b) && glB sc id && agEs T sc N es (y :: xs)
    | _ => false
  | .isi a t, x => match x with
    | .Call (.Name id _) [y, .Name id2 _] [] _ => decide (id = "isinstance") && glB sc id && decide (id2 = Str.ofString t) && glB sc id2 && agE T sc N a y && notStar y && (["int", "bool", "str", "list", "tuple"] : List String).contains t
    | _ => false
  | .smt m o a, x => match x with
    | .Call (.Attribute y nm apos) [z] [] cpos => (match m with | .join => decide (nm = "join")) && agE T sc N o y && agE T sc N a z && notStar z && notSup y && (apos.endLine == cpos.line)
    | _ => false
  | .attr a f, x => match x with
    | .Attribute y g _ => decide (f = g) && agE T sc N a y && notSup y
    | _ => false
  | .mcall o m es, x => match x with
    | .Call (.Attribute y nm apos) xs [] cpos => decide (m = nm) && agE T sc N o y && agEs T sc N es xs && notSup y && (apos.endLine == cpos.line) && decide (xs.length < 30)
    | _ => false
  | .make c es, x => match x with
    | .Call (.Name id _) (y :: xs) [] _ => decide (T.cname c = some id) && glB sc id && plainName id && agEs T sc N es (y :: xs)
    | _ => false
  | .tru a, x => agE T sc N a x && plainT x
  | .isC a c, x => match x with
    | .Call (.Name id _) [y, .Name id2 _] [] _ => decide (id = "isinstance") && glB sc id && decide (T.iname c = some id2) && glB sc id2 && plainName id2 && agE T sc N a y && notStar y
    | _ => false
  | .gIn neg a g, x => match x with
    | .Compare l [o] [.Name id p] _ => decide (o = if neg then .NotIn else .In) && agE T sc N a l && decide (T.dname g = some id) && glB sc id && plainName id && !behindInMarks o (.Name id p)
    | _ => false
  | .gGet g a, x => match x with
    | .Subscript (.Name id _) r _ => decide (T.dname g = some id) && glB sc id && plainName id && agE T sc N a r && notSlice r
    | _ => false
  | .idx l a, x => match x with
    | .Call (.Attribute y nm apos) [z] [] cpos => decide (nm = "index") && agE T sc N l y && agE T sc N a z && notStar1 z && notSup y && (apos.endLine == cpos.line)
    | _ => false
  | .revT a, x => match x with
    | .Subscript l (.Slice none none (some (.UnaryOp .USub (.Constant (.int 1) _ _) _)) _) _ => agE T sc N a l
    | _ => false
def agEs (T : Tab) (sc : Scope) (N : List Str) : Es → List Expr → Bool
  | .nil, xs => match xs with
    | [] => true
    | _ => false
  | .cons e es, xs => match xs with
    | y :: ys => agE T sc N e y && notStar y && agEs T sc N es ys
    | _ => false
def agO (T : Tab) (sc : Scope) (N : List Str) : Oe → Option Expr → Bool
  | .no, x => match x with
    | none => true
    | _ => false
  | .so e, x => match x with
    | some y => agE T sc N e y
    | _ => false
def agN (T : Tab) (sc : Scope) (N : List Str) : Nw → Expr → Bool
  | .lst es, x => match x with
    | .List xs _ => agEs T sc N es xs
    | _ => false
  | .comp elt tg it cond own, x => match x with
    | .ListComp y [⟨t, i, ifs, a⟩] scope _ => decide (a = 0) && blkC N sc scope (ownP N own) && (tgIds tg).all (fun i => own.contains i) && agTg scope (relS scope sc) N tg t && agI T sc N it i && zipOk it t && notSet i && agE T (relS scope sc) N elt y &&
      (match ifs with
      | [] => match cond with
        | .no => true
        | _ => false
      | [c] => agC T (relS scope sc) N cond c
      | _ => false)
    | _ => false
  | .slice a lo hi, x => match x with
    | .Subscript l (.Slice u v none _) _ => agE T sc N a l && agO T sc N lo u && agO T sc N hi v
    | _ => false
  | .listOf a, x => match x with
    | .Call (.Name id _) [y] [] _ => decide (id = "list") && glB sc id && agE T sc N a y && notStar y
    | _ => false
  | .cat a b, x => match x with
    | .BinOp l o r _ => decide (o = .Add) && agE T sc N a l && agE T sc N b r
    | _ => false
  | .rep a b, x => match x with
    | .BinOp l o r _ => decide (o = .Mult) && agE T sc N a l && agE T sc N b r
    | _ => false
  | .rev a, x => match x with
    | .Subscript l (.Slice none none (some (.UnaryOp .USub (.Constant (.int 1) _ _) _)) _) _ => agE T sc N a l
    | _ => false
  | .dct1 k v, x => match x with
    | .Dict [some y] [z] _ => agE T sc N k y && agE T sc N v z
    | _ => false
  | .split o a, x => match x with
    | .Call (.Attribute y nm apos) [z] [] cpos => decide (nm = "split") && agE T sc N o y && agE T sc N a z && notStar z && notSup y && (apos.endLine == cpos.line)
    | _ => false
  | .dct0, x => match x with
    | .Dict [] [] _ => true
    | _ => false
  | .dictOf a, x => match x with
    | .Call (.Name id _) [y] [] _ => decide (id = "dict") && glB sc id && agE T sc N a y && notStar y
    | _ => false
  | .sorted a, x => match x with
    | .Call (.Name id _) [y] [] _ => decide (id = "sorted") && glB sc id && agE T sc N a y && notStar y
    | _ => false
  | .rngL a b, x => match x with
    | .Call (.Name id _) [.Call (.Name id2 _) [y, z] [] _] [] _ => decide (id = "list") && glB sc id && decide (id2 = "range") && glB sc id2 && agE T sc N a y && notStar y && agE T sc N b z && notStar z
    | _ => false
def agC (T : Tab) (sc : Scope) (N : List Str) : Oe → Expr → Bool
  | .no, _ => false
  | .so e, x => agE T sc N e x
def agI (T : Tab) (sc : Scope) (N : List Str) : It → Expr → Bool
  | .rng1 a, x => match x with
    | .Call (.Name id _) [y] [] _ => decide (id = "range") && glB sc id && agE T sc N a y && notStar y
    | _ => false
  | .rng2 a b, x => match x with
    | .Call (.Name id _) [y, z] [] _ => decide (id = "range") && glB sc id && agE T sc N a y && notStar y && agE T sc N b z && notStar z
    | _ => false
  | .seq a, x => agE T sc N a x
  | .own i, x => agVar sc N i x
  | .chars a, x => agE T sc N a x
  | .keys a, x => agE T sc N a x
  | .zip a b, x => match x with
    | .Call (.Name id _) [y, z] [] _ => decide (id = "zip") && glB sc id && agE T sc N a y && notStar y && agE T sc N b z && notStar z
    | _ => false
end

/-! ### the context -/
def spOf (K : PySem.W.Frag) (Cl : Nat → Addr) (C : Ctx) (f : Nat) : Sp := fun vs H Q _ => ∃ cs F h ds Qa, StOk K Cl cs F H h ∧ Reps K cs F vs ds ∧ C.call f ds h Qa ∧
  ∀ v d cs' F' H' h', Stp cs F H cs' F' H' → StOk K Cl cs' F' H' h' → Rep K cs' F' v d → Qa d h' → Q v H'
structure XOk (C : Ctx) (T : Tab) (Cl : Nat → Addr) (X : Cx) : Prop where
  nd : X.N.Nodup
  calm : X.calm = true
  units : X.A.units + 65 < cLine
  gd : X.A.guards = some []
  blt : ∀ x, x ∈ bltNames → X.mg x = none
  glob : ∀ g d, C.glob g = some d → ∃ u v, X.mg (T.gname g) = some u ∧ RelV v u ∧ ∀ cs F, Rep X.K cs F v d
  fn : ∀ f x, T.fname f = some x → ∃ k a fd ps, FnG X.prog X.w X.K X.mg X.base k a fd ps (spOf X.K Cl C f) ∧ Room k X.A ∧ X.mg x = some (.ref a) ∧ PySem.W.keepIn X.K (.ref a) = true ∧ Binds X.K fd ps []
  cls : ∀ c x, T.cname c = some x → ∃ f k a fd ps, C.init c = some f ∧ FnG X.prog X.w X.K X.mg X.base k a fd ps (spOf X.K Cl C f) ∧ Room (k + 1) X.A ∧ X.mg x = some (.ref (Cl c)) ∧ Mk X.K (Cl c) a ∧ Binds X.K fd ps []
  mth : ∀ c m f, C.meth c m = some f → ∃ k a fd ps, FnG X.prog X.w X.K X.mg X.base k a fd ps (spOf X.K Cl C f) ∧ Room k X.A ∧ Cls X.K (Cl c) ∧ Meth X.K (Cl c) m a ∧ Binds X.K fd ps []
  fld : ∀ c f, C.fld c f = true → Cls X.K (Cl c) ∧ NoAttr X.K (Cl c) f
  gdc : ∀ g x, T.dname g = some x → ∃ kvs d, C.gdct g = some kvs ∧ X.mg x = some (.ref d) ∧ GDict X.K X.w d kvs
  isc : ∀ c x, T.iname c = some x → X.mg x = some (.ref (Cl c)) ∧ C8.InsC X.K (Cl c)
theorem XOk.blk {C : Ctx} {T : Tab} {Cl : Nat → Addr} {X : Cx} (O : XOk C T Cl X) (s : Shared) (H : Hp) (scope : Scope) (cl : List (Str × Addr)) (c : Addr) (fp : List Addr) : XOk C T Cl (X.blk s H scope (compEnvC scope cl c X.env) fp) where
  nd := O.nd
  calm := O.calm
  units := O.units
  gd := O.gd
  blt := O.blt
  glob := O.glob
  fn := O.fn
  cls := O.cls
  mth := O.mth
  fld := O.fld
  gdc := O.gdc
  isc := O.isc

/-! ### weakest readings -/
def WE (X : Cx) (e : Expr) : TE := fun σ H Q => ∀ pins s, Inv X pins σ H s → wpAny (model X.prog X.w) X.A (eval e X.env) (EP X pins σ Q) X.xe s
def WT (X : Cx) (e : Expr) : TT := fun σ H Q => ∀ pins s, Inv X pins σ H s → wpAny (model X.prog X.w) X.A (isTrue e X.env (eval e X.env)) (TP X pins σ Q) X.xe s
def WW (X : Cx) (e : Expr) : TT := fun σ H Q => ∀ (whole : Sem Value) pins s, Inv X pins σ H s → wpAny (model X.prog X.w) X.A (isTrue e X.env whole) (TP X pins σ Q) X.xe s
def WA (X : Cx) (es : List Expr) : TA := fun σ H Q => ∀ (pos : Pos) pins s, Inv X pins σ H s → wpAny (model X.prog X.w) X.A (spliced (backTo pos (starEach es X.env))) (AP X pins σ Q) X.xe s
def WO (X : Cx) (e : Option Expr) : TO := fun σ H Q => ∀ pins s, Inv X pins σ H s → wpAny (model X.prog X.w) X.A (evalPart e X.env) (fun u s' => ∃ o H', Inv X pins σ H' s' ∧ IsPart u o ∧ Q o H') X.xe s
section
variable {X : Cx}
theorem pe_we {e : Expr} : PE X e (WE X e) := ⟨fun pins s σ H Q I h => h pins s I⟩
theorem pt_we {e : Expr} : PT X e (WT X e) := ⟨fun pins s σ H Q I h => h pins s I⟩
theorem po_we {e : Option Expr} : PO X e (WO X e) := ⟨fun pins s σ H Q I h => h pins s I⟩
theorem wo_of {e : Option Expr} {t : TO} (p : PO X e t) {σ : L2.St} {H : Hp} {Q : Option Int → Hp → Prop} (h : t σ H Q) : WO X e σ H Q := fun pins s I => p.run pins s σ H Q I h
theorem pa_we {e : List Expr} : PA X e (WA X e) := ⟨fun pos pins s σ H Q I h => h pos pins s I⟩
theorem we_of {e : Expr} {t : TE} (p : PE X e t) {σ : L2.St} {H : Hp} {Q : VK} (h : t σ H Q) : WE X e σ H Q := fun pins s I => p.run pins s σ H Q I h
theorem wt_of {e : Expr} {t : TT} (p : PT X e t) {σ : L2.St} {H : Hp} {Q : Bool → Hp → Prop} (h : t σ H Q) : WT X e σ H Q := fun pins s I => p.run pins s σ H Q I h
theorem wa_of {e : List Expr} {t : TA} (p : PA X e t) {σ : L2.St} {H : Hp} {Q : List V → Hp → Prop} (h : t σ H Q) : WA X e σ H Q := fun pos pins s I => p.run pos pins s σ H Q I h
end

/-! ### what is shown of each construct -/
def EOk (K : PySem.W.Frag) (Cl : Nat → Addr) (b : Bool) (cs : List Addr) (F H : Hp) (Q : AV → AHeap → Prop) (R : VK) : Prop :=
  ∀ v d cs' F' H' h', Stp cs F H cs' F' H' → StOk K Cl cs' F' H' h' → RepB K cs' F' H' b v d → Q d h' → R v H'
def BOk (K : PySem.W.Frag) (Cl : Nat → Addr) (cs : List Addr) (F H : Hp) (Q : Bool → AHeap → Prop) (R : Bool → Hp → Prop) : Prop :=
  ∀ k cs' F' H' h', Stp cs F H cs' F' H' → StOk K Cl cs' F' H' h' → Q k h' → R k H'
def AOk (K : PySem.W.Frag) (Cl : Nat → Addr) (b : Bool) (cs : List Addr) (F H : Hp) (Q : List AV → AHeap → Prop) (R : List V → Hp → Prop) : Prop :=
  ∀ v d cs' F' H' h', Stp cs F H cs' F' H' → StOk K Cl cs' F' H' h' → RepBs K cs' F' H' b v d → Q d h' → R v H'
def OOk (K : PySem.W.Frag) (Cl : Nat → Addr) (cs : List Addr) (F H : Hp) (Q : Option Int → AHeap → Prop) (R : Option Int → Hp → Prop) : Prop :=
  ∀ k cs' F' H' h', Stp cs F H cs' F' H' → StOk K Cl cs' F' H' h' → Q k h' → R k H'
def NOk (K : PySem.W.Frag) (Cl : Nat → Addr) (cs : List Addr) (F H : Hp) (Q : Cell → AHeap → Prop) (R : VK) : Prop :=
  ∀ p c cs' F' H' h', Stp cs F H cs' F' H' → StOk K Cl cs' F' H' h' → H p = none → F' p = none → p ∉ cs' → COk K Cl cs' F' H' p c → Q c h' → R (.ref p) H'
section
variable (C : Ctx) (T : Tab) (Cl : Nat → Addr)
def SE (X : Cx) (b : Bool) (e : E) (x : Expr) : Prop := ∀ ρ h Q σ cs F H R, StOk X.K Cl cs F H h → EnvOk X.K Cl cs F H σ ρ → WpE C b e ρ h Q → EOk X.K Cl b cs F H Q R → WE X x σ H R
def ST (X : Cx) (e : E) (x : Expr) : Prop := ∀ ρ h Q σ cs F H R, StOk X.K Cl cs F H h → EnvOk X.K Cl cs F H σ ρ → WpT C e ρ h Q → BOk X.K Cl cs F H Q R → WT X x σ H R
def SA (X : Cx) (es : Es) (x : List Expr) : Prop := ∀ ρ h Q σ cs F H R, StOk X.K Cl cs F H h → EnvOk X.K Cl cs F H σ ρ → WpEs C es ρ h Q → AOk X.K Cl false cs F H Q R → WA X x σ H R
def SB (X : Cx) (es : Es) (x : List Expr) : Prop := ∀ ρ h Q σ cs F H R, StOk X.K Cl cs F H h → EnvOk X.K Cl cs F H σ ρ → WpBs C es ρ h Q → AOk X.K Cl true cs F H Q R → WA X x σ H R
def SO (X : Cx) (e : Oe) (x : Option Expr) : Prop := ∀ ρ h Q σ cs F H R, StOk X.K Cl cs F H h → EnvOk X.K Cl cs F H σ ρ → WpO C e ρ h Q → OOk X.K Cl cs F H Q R → WO X x σ H R
def SN (X : Cx) (e : Nw) (x : Expr) : Prop := ∀ ρ h Q σ cs F H R, StOk X.K Cl cs F H h → EnvOk X.K Cl cs F H σ ρ → WpN C e ρ h Q → NOk X.K Cl cs F H Q R → WE X x σ H R
end

section
variable {C : Ctx} {T : Tab} {Cl : Nat → Addr} {X : Cx} {b : Bool} {K : PySem.W.Frag} {cs cs' cs'' : List Addr} {F F' F'' H H' H'' : Hp} {h : AHeap}
theorem EOk.lift {Q : AV → AHeap → Prop} {R : VK} (p : EOk K Cl b cs F H Q R) (x : Stp cs F H cs' F' H') : EOk K Cl b cs' F' H' Q R :=
  fun v d cs2 F2 H2 h2 y S r q => p v d cs2 F2 H2 h2 (x.trans y) S r q
theorem BOk.lift {Q : Bool → AHeap → Prop} {R : Bool → Hp → Prop} (p : BOk K Cl cs F H Q R) (x : Stp cs F H cs' F' H') : BOk K Cl cs' F' H' Q R :=
  fun k cs2 F2 H2 h2 y S q => p k cs2 F2 H2 h2 (x.trans y) S q
theorem NOk.lift {Q : Cell → AHeap → Prop} {R : VK} (p : NOk K Cl cs F H Q R) (x : Stp cs F H cs' F' H') : NOk K Cl cs' F' H' Q R :=
  fun v d cs2 F2 H2 h2 y S r1 r2 r3 r4 q => p v d cs2 F2 H2 h2 (x.trans y) S (x.fresh r1) r2 r3 r4 q
theorem EOk.post {Q : AV → AHeap → Prop} {R : VK} (p : EOk K Cl b cs F H Q R) : PostV K Cl cs F H h (fun z => Q z h) R := fun v d F' H' x S r q => p v d cs F' H' h x S (.inl r) q
/-- what stands behind a lock -/
def Lk (R : VK) : VK := fun v H => R v H ∨ ∃ d u, H d = some u ∧ Mut (some u) ∧ ∀ od, R v (upd H d (.frz od u))
theorem we_lock {x : Expr} {σ : L2.St} {R : VK} (w : WE X x σ H (Lk R)) : WE X x σ H R := fun pins s I => by
  refine thn (w pins s I) fun v s1 ⟨x, H1, I1, r, q⟩ => ?_
  rcases q with q | ⟨d, u, e, mu, q⟩
  · exact ⟨x, H1, I1, r, q⟩
  · obtain ⟨od, I2⟩ := I1.lock e mu
    exact ⟨x, _, I2, r, q od⟩
theorem NOk.fz {Q : AV → AHeap → Prop} {R : VK} (p : EOk K Cl b cs F H Q R) : NOk K Cl cs F H (fun c h1 => match c with
    | .lst xs => Q (.lst xs) h1
    | .dct xs => Q (.dct xs) h1
    | _ => False) (Lk R) := fun a c cs' F' H' h' x S n1 n2 n3 r q => by
  cases c with
  | lst xs =>
    obtain ⟨vs, e, r⟩ := r
    have x2 : Stp cs F H cs' (upd F' a (.lst vs)) H' := by
      refine ⟨x.f.trans (Ex.new n2), x.c, x.k, x.d, fun b q1 q2 => ?_, x.m⟩
      by_cases hb : b = a
      · subst hb; exact n1
      · rw [upd_ne hb] at q2; exact x.n b q1 q2
    exact .inl (p _ (.lst xs) _ _ _ _ x2 (S.freeze n2 n3 e) (.inl (.lst upd_same (r.mono (Ex.new n2) ⟨[], by simp⟩))) q)
  | dct xs =>
    obtain ⟨vs, e, r⟩ := r
    refine .inr ⟨a, .dK vs, e, trivial, fun od => ?_⟩
    have S1 : StOk K Cl cs' F' (upd H' a (.frz od (.dK vs))) h' := S.chgN n2 n3
    have x2 : Stp cs F H cs' (upd F' a (.frz od (.dK vs))) (upd H' a (.frz od (.dK vs))) := by
      refine ⟨x.f.trans (Ex.new n2), x.c, fun b u q1 q2 => ?_, fun b q => ?_, fun b q1 q2 => ?_, x.m⟩
      · rw [upd_ne (fun z => by subst z; rw [n1] at q1; cases q1)]
        exact x.k b u q1 q2
      · by_cases hb : b = a
        · subst hb; rw [upd_same]; simp
        · rw [upd_ne hb]; exact x.d b q
      · by_cases hb : b = a
        · subst hb; exact n1
        · rw [upd_ne hb] at q2; exact x.n b q1 q2
    exact p _ (.dct xs) _ _ _ _ x2 (S1.freeze n2 n3 upd_same) (.inl (.dct upd_same (r.mono (Ex.new n2) ⟨[], by simp⟩))) q
  | obj c fs => exact q.elim
  | dead => exact q.elim
theorem NOk.fzL {Q : AV → AHeap → Prop} {R : VK} (p : EOk K Cl b cs F H Q R) : NOk K Cl cs F H (fun c h1 => match c with
    | .lst xs => Q (.lst xs) h1
    | _ => False) R := fun a c cs' F' H' h' x S n1 n2 n3 r q => by
  cases c with
  | lst xs =>
    obtain ⟨vs, e, r⟩ := r
    have x2 : Stp cs F H cs' (upd F' a (.lst vs)) H' := by
      refine ⟨x.f.trans (Ex.new n2), x.c, x.k, x.d, fun b q1 q2 => ?_, x.m⟩
      by_cases hb : b = a
      · subst hb; exact n1
      · rw [upd_ne hb] at q2; exact x.n b q1 q2
    exact p _ (.lst xs) _ _ _ _ x2 (S.freeze n2 n3 e) (.inl (.lst upd_same (r.mono (Ex.new n2) ⟨[], by simp⟩))) q
  | dct xs => exact q.elim
  | obj c fs => exact q.elim
  | dead => exact q.elim
theorem NOk.new {Q : AV → AHeap → Prop} {R : VK} (p : EOk K Cl b cs F H Q R) : NOk K Cl cs F H (fun c h1 => Q (.adr h1.length) (h1 ++ [c])) R := fun a c cs' F' H' h' x S n1 n2 n3 r q => by
  have x2 : Stp cs F H (cs' ++ [a]) F' H' := by
    refine ⟨x.f, ?_, x.k, x.d, x.n, fun b q1 q2 => ?_⟩
    · obtain ⟨r, e⟩ := x.c
      exact ⟨r ++ [a], by rw [e, List.append_assoc]⟩
    · rw [List.mem_append] at q1
      rcases q1 with q1 | q1
      · exact x.m b q1 q2
      · simp at q1; subst q1; exact n1
  refine p _ (.adr h'.length) _ _ _ _ x2 (S.cellNew n2 n3 (r.mono (fun _ _ z => z) ⟨[a], rfl⟩ fun _ z => z)) (.inl (.adr ?_)) q
  rw [← S.len]
  simp

/-! ### expressions -/
theorem s_var {i : Nat} {x : Expr} (hag : agVar X.env.scope X.N i x = true) : SE C Cl X b (.var i) x := fun ρ h Q σ cs F H R S V w p => by
  unfold agVar at hag
  split at hag
  · rename_i id pos
    simp only [Bool.and_eq_true, decide_eq_true_eq] at hag
    obtain ⟨⟨h1, h2⟩, h3⟩ := hag
    obtain ⟨n1, n2, _⟩ := plainName_ok h3
    simp only [WpE] at w
    split at w
    · rename_i d hd
      obtain ⟨v, e, r⟩ := V.val i d hd
      exact we_of (pe_var h1 (visB_ok h2) n1 n2) ⟨v, e, p _ _ _ _ _ _ .refl S (.inl r) w⟩
    · exact w.elim
  · cases hag
theorem own_rep {i : Nat} {σ : L2.St} {ρ : Env} {c : Cell} (V : EnvOk K Cl cs F H σ ρ) (e : getS ρ i = .own c) : ∃ v, σ[i]? = some (some v) ∧ ∀ d, (∃ xs, c = .lst xs ∧ d = .lst xs) ∨ (∃ xs, c = .dct xs ∧ d = .dct xs) → RepB K cs F H true v d := by
  obtain ⟨a, h1, h2, h3, h4⟩ := V.own i c e
  refine ⟨_, h1, fun d q => ?_⟩
  rcases q with ⟨xs, rfl, rfl⟩ | ⟨xs, rfl, rfl⟩
  · obtain ⟨vs, q1, q2⟩ := h4
    exact .inr ⟨rfl, a, rfl, h2, h3, .inl ⟨vs, xs, rfl, q1, q2⟩⟩
  · obtain ⟨vs, q1, q2⟩ := h4
    exact .inr ⟨rfl, a, rfl, h2, h3, .inr ⟨vs, xs, rfl, q1, q2⟩⟩
theorem s_vw {i : Nat} {x : Expr} (hag : agVar X.env.scope X.N i x = true) : SE C Cl X b (.vw i) x := fun ρ h Q σ cs F H R S V w p => by
  unfold agVar at hag
  split at hag
  · rename_i id pos
    simp only [Bool.and_eq_true, decide_eq_true_eq] at hag
    obtain ⟨⟨h1, h2⟩, h3⟩ := hag
    obtain ⟨n1, n2, _⟩ := plainName_ok h3
    cases b with
    | false => simp only [WpE] at w
    | true =>
      simp only [WpE] at w
      split at w
      · rename_i xs hd
        obtain ⟨v, e, r⟩ := own_rep V hd
        exact we_of (pe_var h1 (visB_ok h2) n1 n2) ⟨v, e, p _ _ _ _ _ _ .refl S (r _ (.inl ⟨xs, rfl, rfl⟩)) w⟩
      · rename_i xs hd
        obtain ⟨v, e, r⟩ := own_rep V hd
        exact we_of (pe_var h1 (visB_ok h2) n1 n2) ⟨v, e, p _ _ _ _ _ _ .refl S (r _ (.inr ⟨xs, rfl, rfl⟩)) w⟩
      · exact w.elim
  · cases hag
theorem s_glob {g : Nat} {id : Str} {pos : Pos} (O : XOk C T Cl X) (h0 : id = T.gname g) (h1 : glB X.env.scope id = true) (h2 : plainName id = true) : SE C Cl X b (.glob g) (.Name id pos) := fun ρ h Q σ cs F H R S V w p => by
  simp only [WpE] at w
  split at w
  · rename_i d hd
    obtain ⟨u, v, e1, e2, r⟩ := O.glob g d hd
    rw [← h0] at e1
    exact we_of (pe_glob (glB_ok h1) e1 e2 (plainName_ok h2).1) (p _ _ _ _ _ _ .refl S (.inl (r _ _)) w)
  · exact w.elim
theorem s_bin {op : Operator} {a c : E} {l r : Expr} {pos : Pos} (ha : SE C Cl X false a l) (hc : SE C Cl X false c r) : SE C Cl X b (.bin op a c) (.BinOp l op r pos) := fun ρ h Q σ cs F H R S V w p => by
  simp only [WpE] at w
  refine we_of (pe_op opw_ok pe_we pe_we) (ha _ _ _ _ _ _ _ _ S V w fun v1 d1 cs1 F1 H1 h1 x1 S1 r1 q1 => ?_)
  refine hc _ _ _ _ _ _ _ _ S1 (V.step x1) q1 fun v2 d2 cs2 F2 H2 h2 x2 S2 r2 q2 => ?_
  exact binK_ok S2 (r1.step x2) r2 q2 ((p.lift (x1.trans x2)).post)
theorem un_w {f : Value → Sem Value} : UnR X f (fun x H Q => ∀ (pins : List (Addr × Obj)) (s : Shared) (σ : L2.St) (v : Value), Inv X pins σ H s → RelV x v → wpAny (model X.prog X.w) X.A (f v) (EP X pins σ Q) X.xe s) :=
  fun pins s σ H x v Q I rx h => h pins s σ v I rx
theorem s_neg {a : E} {l : Expr} {pos : Pos} (ha : SE C Cl X false a l) : SE C Cl X b (.neg a) (.UnaryOp .USub l pos) := fun ρ h Q σ cs F H R S V w p => by
  simp only [WpE] at w
  refine we_of (pe_un un_neg pe_we) (ha _ _ _ _ _ _ _ _ S V w fun v1 d1 cs1 F1 H1 h1 x1 S1 r1 q1 => ?_)
  unfold negK at q1
  split at q1
  · cases r1.int
    exact ⟨_, rfl, (p.lift x1).post.int S1 q1⟩
  · exact q1.elim
theorem s_cmp {op : CmpOp} {a c : E} {l r : Expr} {pos : Pos} (O : XOk C T Cl X) (ha : SE C Cl X true a l) (hc : SE C Cl X true c r) (hm : behindInMarks op r = false) : SE C Cl X b (.cmp op a c) (.Compare l [op] [r] pos) := fun ρ h Q σ cs F H R S V w p => by
  simp only [WpE] at w
  refine we_of (pe_cmpR opw_ok pe_we pe_we hm) (ha _ _ _ _ _ _ _ _ S V w fun v1 d1 cs1 F1 H1 h1 x1 S1 r1 q1 => ?_)
  refine hc _ _ _ _ _ _ _ _ S1 (V.step x1) q1 fun v2 d2 cs2 F2 H2 h2 x2 S2 r2 q2 => ?_
  exact cmpK_ok (by have := O.units; omega) S2 (r1.step x2) r2 q2 ((p.lift (x1.trans x2)).post)
theorem s_cmpT {op : CmpOp} {a c : E} {l r : Expr} {pos : Pos} (O : XOk C T Cl X) (ha : SE C Cl X true a l) (hc : SE C Cl X true c r) (hm : behindInMarks op r = false) : ST C Cl X (.cmp op a c) (.Compare l [op] [r] pos) := fun ρ h Q σ cs F H R S V w p => by
  simp only [WpT] at w
  refine wt_of (pt_cmpR opw_ok pe_we pe_we hm) (ha _ _ _ _ _ _ _ _ S V w fun v1 d1 cs1 F1 H1 h1 x1 S1 r1 q1 => ?_)
  refine hc _ _ _ _ _ _ _ _ S1 (V.step x1) q1 fun v2 d2 cs2 F2 H2 h2 x2 S2 r2 q2 => ?_
  refine cmpK_ok (by have := O.units; omega) S2 (r1.step x2) r2 q2 fun v d F' H' y S3 rv qv => ?_
  split at qv
  · cases rv
    exact ⟨_, rfl, p _ _ _ _ _ ((x1.trans x2).trans y) S3 qv⟩
  · exact qv.elim
theorem s_chain {o1 o2 : CmpOp} {a c e : E} {l r1 r2 : Expr} {pos : Pos} (O : XOk C T Cl X) (ha : SE C Cl X false a l) (hc : SE C Cl X false c r1) (he : SE C Cl X false e r2) (hm : lastMarks [o1, o2] [r1, r2] = false) :
    SE C Cl X b (.chain o1 o2 a c e) (.Compare l [o1, o2] [r1, r2] pos) := fun ρ h Q σ cs F H R S V w p => by
  simp only [WpE] at w
  refine we_of (pe_chain opw_ok opw_ok pe_we pe_we pe_we hm) (ha _ _ _ _ _ _ _ _ S V w fun v1 d1 cs1 F1 H1 h1 x1 S1 r1 q1 => ?_)
  refine hc _ _ _ _ _ _ _ _ S1 (V.step x1) q1 fun v2 d2 cs2 F2 H2 h2 x2 S2 r2 q2 => ?_
  refine cmpK_ok (by have := O.units; omega) S2 (r1.step x2) r2 q2 fun v d F' H' y S3 rv qv => ?_
  split at qv
  · cases rv
    refine ⟨true, rfl, ?_⟩
    rw [if_pos rfl]
    refine he _ _ _ _ _ _ _ _ S3 (V.step ((x1.trans x2).trans y)) qv fun v3 d3 cs3 F3 H3 h3 x3 S4 r3 q3 => ?_
    exact cmpK_ok (by have := O.units; omega) S4 ((r2.step y).step x3) r3 q3 ((p.lift (((x1.trans x2).trans y).trans x3)).post)
  · cases rv
    refine ⟨false, rfl, ?_⟩
    rw [if_neg Bool.false_ne_true]
    exact p _ _ _ _ _ _ ((x1.trans x2).trans y) S3 (.inl (.bl false)) qv
  · exact qv.elim
theorem s_chainT {o1 o2 : CmpOp} {a c e : E} {l r1 r2 : Expr} {pos : Pos} (O : XOk C T Cl X) (ha : SE C Cl X false a l) (hc : SE C Cl X false c r1) (he : SE C Cl X false e r2) (hm : lastMarks [o1, o2] [r1, r2] = false) :
    ST C Cl X (.chain o1 o2 a c e) (.Compare l [o1, o2] [r1, r2] pos) := fun ρ h Q σ cs F H R S V w p => by
  simp only [WpT] at w
  refine wt_of (pt_chain opw_ok opw_ok pe_we pe_we pe_we hm) (ha _ _ _ _ _ _ _ _ S V w fun v1 d1 cs1 F1 H1 h1 x1 S1 r1 q1 => ?_)
  refine hc _ _ _ _ _ _ _ _ S1 (V.step x1) q1 fun v2 d2 cs2 F2 H2 h2 x2 S2 r2 q2 => ?_
  refine cmpK_ok (by have := O.units; omega) S2 (r1.step x2) r2 q2 fun v d F' H' y S3 rv qv => ?_
  split at qv
  · cases rv
    refine ⟨true, rfl, ?_⟩
    rw [if_pos rfl]
    refine he _ _ _ _ _ _ _ _ S3 (V.step ((x1.trans x2).trans y)) qv fun v3 d3 cs3 F3 H3 h3 x3 S4 r3 q3 => ?_
    refine cmpK_ok (by have := O.units; omega) S4 ((r2.step y).step x3) r3 q3 fun v d F' H' y' S5 rv' qv' => ?_
    split at qv'
    · cases rv'
      exact ⟨_, rfl, p _ _ _ _ _ ((((x1.trans x2).trans y).trans x3).trans y') S5 qv'⟩
    · exact qv'.elim
  · cases rv
    refine ⟨false, rfl, ?_⟩
    rw [if_neg Bool.false_ne_true]
    exact ⟨false, rfl, p _ _ _ _ _ ((x1.trans x2).trans y) S3 qv⟩
  · exact qv.elim
theorem s_not {a : E} {l : Expr} {pos : Pos} (ha : SE C Cl X false a l) : SE C Cl X b (.not a) (.UnaryOp .Not l pos) := fun ρ h Q σ cs F H R S V w p => by
  simp only [WpE] at w
  refine we_of (pe_not pe_we) (ha _ _ _ _ _ _ _ _ S V w fun v1 d1 cs1 F1 H1 h1 x1 S1 r1 q1 => ?_)
  split at q1
  · cases r1.bl
    exact ⟨_, rfl, (p.lift x1).post.bl S1 q1⟩
  · exact q1.elim
theorem s_notT {a : E} {l : Expr} {pos : Pos} (ha : ST C Cl X a l) : ST C Cl X (.not a) (.UnaryOp .Not l pos) := fun ρ h Q σ cs F H R S V w p => by
  simp only [WpT] at w
  exact wt_of (pt_not pt_we) (ha _ _ _ _ _ _ _ _ S V w fun k cs1 F1 H1 h1 x1 S1 q1 => p _ _ _ _ _ x1 S1 q1)
theorem pe_two {op : BoolOp} {y z : Expr} {rest : List Expr} {pos : Pos} {tz : TE} (hz : PE X (tail2 op z pos rest) tz) : PE X (.BoolOp op (z :: rest) pos) tz := by
  cases rest with
  | nil => exact pe_one hz
  | cons w r => exact hz
theorem s_and {a c : E} {y z : Expr} {rest : List Expr} {pos : Pos} (ha : SE C Cl X false a y) (hc : SE C Cl X false c (tail2 .And z pos rest)) : SE C Cl X b (.and a c) (.BoolOp .And (y :: z :: rest) pos) := fun ρ h Q σ cs F H R S V w p => by
  simp only [WpE] at w
  refine we_of (pe_and pe_we (pe_two (y := y) pe_we)) (ha _ _ _ _ _ _ _ _ S V w fun v1 d1 cs1 F1 H1 h1 x1 S1 r1 q1 => ?_)
  split at q1
  · cases r1.bl
    refine ⟨true, rfl, ?_⟩
    rw [if_pos rfl]
    exact hc _ _ _ _ _ _ _ _ S1 (V.step x1) q1 fun v2 d2 cs2 F2 H2 h2 x2 S2 r2 q2 => p _ _ _ _ _ _ (x1.trans x2) S2 (.inl r2.plain) q2
  · cases r1.bl
    refine ⟨false, rfl, ?_⟩
    rw [if_neg Bool.false_ne_true]
    exact p _ _ _ _ _ _ x1 S1 (.inl (.bl false)) q1
  · exact q1.elim
theorem s_or {a c : E} {y z : Expr} {rest : List Expr} {pos : Pos} (ha : SE C Cl X false a y) (hc : SE C Cl X false c (tail2 .Or z pos rest)) : SE C Cl X b (.or a c) (.BoolOp .Or (y :: z :: rest) pos) := fun ρ h Q σ cs F H R S V w p => by
  simp only [WpE] at w
  refine we_of (pe_or pe_we (pe_two (y := y) pe_we)) (ha _ _ _ _ _ _ _ _ S V w fun v1 d1 cs1 F1 H1 h1 x1 S1 r1 q1 => ?_)
  split at q1
  · cases r1.bl
    refine ⟨false, rfl, ?_⟩
    rw [if_neg Bool.false_ne_true]
    exact hc _ _ _ _ _ _ _ _ S1 (V.step x1) q1 fun v2 d2 cs2 F2 H2 h2 x2 S2 r2 q2 => p _ _ _ _ _ _ (x1.trans x2) S2 (.inl r2.plain) q2
  · cases r1.bl
    refine ⟨true, rfl, ?_⟩
    rw [if_pos rfl]
    exact p _ _ _ _ _ _ x1 S1 (.inl (.bl true)) q1
  · exact q1.elim
/-- a conjunction's or disjunction's test asks its whole for nothing -/
theorem pw_of {op : BoolOp} {es : List Expr} {pos : Pos} {t : TT} (h : PT X (.BoolOp op es pos) t) : PW X (.BoolOp op es pos) t := ⟨fun whole pins s σ H Q I hw => by
  have := h.run pins s σ H Q I hw
  exact this⟩
theorem s_andT {a c : E} {y z : Expr} {rest : List Expr} {pos : Pos} (ha : ST C Cl X a y) (hc : ST C Cl X c (tail2 .And z pos rest)) : ST C Cl X (.and a c) (.BoolOp .And (y :: z :: rest) pos) := fun ρ h Q σ cs F H R S V w p => by
  simp only [WpT] at w
  have hz : PW X (.BoolOp .And (z :: rest) pos) (WT X (tail2 .And z pos rest)) := by
    cases rest with
    | nil => exact pw_and1 pt_we
    | cons w r => exact pw_of pt_we
  refine wt_of (pw_and pt_we hz).pt (ha _ _ _ _ _ _ _ _ S V w fun k cs1 F1 H1 h1 x1 S1 q1 => ?_)
  cases k with
  | true =>
    rw [if_pos rfl] at q1 ⊢
    exact hc _ _ _ _ _ _ _ _ S1 (V.step x1) q1 (p.lift x1)
  | false =>
    rw [if_neg Bool.false_ne_true] at q1 ⊢
    exact p _ _ _ _ _ x1 S1 q1
theorem s_orT {a c : E} {y z : Expr} {rest : List Expr} {pos : Pos} (ha : ST C Cl X a y) (hc : ST C Cl X c (tail2 .Or z pos rest)) : ST C Cl X (.or a c) (.BoolOp .Or (y :: z :: rest) pos) := fun ρ h Q σ cs F H R S V w p => by
  simp only [WpT] at w
  have hz : PW X (.BoolOp .Or (z :: rest) pos) (WT X (tail2 .Or z pos rest)) := by
    cases rest with
    | nil => exact pw_or1 pt_we
    | cons w r => exact pw_of pt_we
  refine wt_of (pw_or pt_we hz).pt (ha _ _ _ _ _ _ _ _ S V w fun k cs1 F1 H1 h1 x1 S1 q1 => ?_)
  cases k with
  | false =>
    rw [if_neg Bool.false_ne_true] at q1 ⊢
    exact hc _ _ _ _ _ _ _ _ S1 (V.step x1) q1 (p.lift x1)
  | true =>
    rw [if_pos rfl] at q1 ⊢
    exact p _ _ _ _ _ x1 S1 q1
theorem s_truT {a : E} {l : Expr} (ha : SE C Cl X false a l) (hl : plainT l = true) : ST C Cl X (.tru a) l := fun ρ h Q σ cs F H R S V w p => by
  simp only [WpT] at w
  refine wt_of (pt_truth pe_we (plainT_ok hl _)) (ha _ _ _ _ _ _ _ _ S V w fun v1 d1 cs1 F1 H1 h1 x1 S1 r1 q1 => ?_)
  obtain ⟨k, e1, e2⟩ := truK_ok S1 r1 q1
  exact ⟨k, e1, p _ _ _ _ _ x1 S1 e2⟩
theorem s_ite {c a d : E} {t l r : Expr} {pos : Pos} (hc : ST C Cl X c t) (ha : SE C Cl X false a l) (hd : SE C Cl X false d r) : SE C Cl X b (.ite c a d) (.IfExp t l r pos) := fun ρ h Q σ cs F H R S V w p => by
  simp only [WpE] at w
  refine we_of (pe_ifExp pt_we pe_we pe_we) (hc _ _ _ _ _ _ _ _ S V w fun k cs1 F1 H1 h1 x1 S1 q1 => ?_)
  cases k with
  | true =>
    rw [if_pos rfl] at q1 ⊢
    exact ha _ _ _ _ _ _ _ _ S1 (V.step x1) q1 fun v2 d2 cs2 F2 H2 h2 x2 S2 r2 q2 => p _ _ _ _ _ _ (x1.trans x2) S2 (.inl r2.plain) q2
  | false =>
    rw [if_neg Bool.false_ne_true] at q1 ⊢
    exact hd _ _ _ _ _ _ _ _ S1 (V.step x1) q1 fun v2 d2 cs2 F2 H2 h2 x2 S2 r2 q2 => p _ _ _ _ _ _ (x1.trans x2) S2 (.inl r2.plain) q2
theorem s_tup {es : Es} {xs : List Expr} {k : Nat} {pos : Pos} (ha : SA C Cl X es xs) : SE C Cl X b (.tup es) (.Tuple xs k pos) := fun ρ h Q σ cs F H R S V w p => by
  simp only [WpE] at w
  refine we_of (pe_tup pa_we) (ha _ _ _ _ _ _ _ _ S V w fun vs ds cs1 F1 H1 h1 x1 S1 rs q1 => ?_)
  have rs := rs.plain
  exact ⟨by rw [rs.length]; exact q1.1, (p.lift x1).post.newT S1 rs q1.2⟩
theorem s_fz {n : Nw} {x : Expr} (hn : SN C Cl X n x) : SE C Cl X b (.fz n) x := fun ρ h Q σ cs F H R S V w p => by
  simp only [WpE] at w
  exact we_lock (hn _ _ _ _ _ _ _ _ S V w (NOk.fz p))
theorem s_new {n : Nw} {x : Expr} (hn : SN C Cl X n x) : SE C Cl X b (.new n) x := fun ρ h Q σ cs F H R S V w p => by
  simp only [WpE] at w
  exact hn _ _ _ _ _ _ _ _ S V w (NOk.new p)
theorem s_sub {a i : E} {l r : Expr} {pos : Pos} (O : XOk C T Cl X) (ha : SE C Cl X true a l) (hi : SE C Cl X false i r) (hs : notSlice r = true) : SE C Cl X b (.sub a i) (.Subscript l r pos) := fun ρ h Q σ cs F H R S V w p => by
  simp only [WpE] at w
  refine we_of (pe_ix ixw_ok pe_we pe_we (plainIx_of hs)) (ha _ _ _ _ _ _ _ _ S V w fun v1 d1 cs1 F1 H1 h1 x1 S1 r1 q1 => ?_)
  refine hi _ _ _ _ _ _ _ _ S1 (V.step x1) q1 fun v2 d2 cs2 F2 H2 h2 x2 S2 r2 q2 => ?_
  exact subK_ok (by have := O.units; omega) S2 (r1.step x2) r2 q2 ((p.lift (x1.trans x2)).post)
theorem s_so {e : E} {x : Expr} (he : SE C Cl X false e x) : SO C Cl X (.so e) (some x) := fun ρ h Q σ cs F H R S V w p => by
  simp only [WpO] at w
  refine wo_of (po_some pe_we) (he _ _ _ _ _ _ _ _ S V w fun v1 d1 cs1 F1 H1 h1 x1 S1 r1 q1 => ?_)
  split at q1
  · cases r1.int
    exact ⟨_, rfl, p _ _ _ _ _ x1 S1 q1⟩
  · exact q1.elim
theorem s_no : SO C Cl X .no none := fun ρ h Q σ cs F H R S V w p => by
  simp only [WpO] at w
  exact wo_of po_none (p _ _ _ _ _ .refl S w)
theorem OOk.lift {Q : Option Int → AHeap → Prop} {R : Option Int → Hp → Prop} (p : OOk K Cl cs F H Q R) (x : Stp cs F H cs' F' H') : OOk K Cl cs' F' H' Q R :=
  fun k cs2 F2 H2 h2 y S q => p k cs2 F2 H2 h2 (x.trans y) S q
theorem AOk.lift {Q : List AV → AHeap → Prop} {R : List V → Hp → Prop} (p : AOk K Cl b cs F H Q R) (x : Stp cs F H cs' F' H') : AOk K Cl b cs' F' H' Q R :=
  fun v d cs2 F2 H2 h2 y S r q => p v d cs2 F2 H2 h2 (x.trans y) S r q
theorem s_slice {a : E} {lo hi : Oe} {l : Expr} {u v : Option Expr} {p2 pos : Pos} (ha : SE C Cl X false a l) (hl : SO C Cl X lo u) (hh : SO C Cl X hi v) : SE C Cl X b (.slice a lo hi) (.Subscript l (.Slice u v none p2) pos) := fun ρ h Q σ cs F H R S V w p => by
  simp only [WpE] at w
  refine we_of (pe_slice slw_ok pe_we po_we po_we) (ha _ _ _ _ _ _ _ _ S V w fun v1 d1 cs1 F1 H1 h1 x1 S1 r1 q1 => ?_)
  refine hl _ _ _ _ _ _ _ _ S1 (V.step x1) q1 fun k2 cs2 F2 H2 h2 x2 S2 q2 => ?_
  refine hh _ _ _ _ _ _ _ _ S2 ((V.step x1).step x2) q2 fun k3 cs3 F3 H3 h3 x3 S3 q3 => ?_
  exact sliceK_ok S3 ((r1.step x2).step x3) q3 ((p.lift ((x1.trans x2).trans x3)).post)
theorem s_nil : SA C Cl X .nil [] := fun ρ h Q σ cs F H R S V w p => by
  simp only [WpEs] at w
  exact wa_of pa_nil (p _ _ _ _ _ _ .refl S .nil w)
theorem s_cons {e : E} {es : Es} {x : Expr} {xs : List Expr} (he : SE C Cl X false e x) (hs : SA C Cl X es xs) (hx : notStar x = true) : SA C Cl X (.cons e es) (x :: xs) := fun ρ h Q σ cs F H R S V w p => by
  simp only [WpEs] at w
  refine wa_of (pa_cons pe_we pa_we (star_cons hx _ _)) (he _ _ _ _ _ _ _ _ S V w fun v1 d1 cs1 F1 H1 h1 x1 S1 r1 q1 => ?_)
  refine hs _ _ _ _ _ _ _ _ S1 (V.step x1) q1 fun v2 d2 cs2 F2 H2 h2 x2 S2 r2 q2 => ?_
  exact p _ _ _ _ _ _ (x1.trans x2) S2 (.cons (r1.step x2) r2) q2
theorem s_nilB : SB C Cl X .nil [] := fun ρ h Q σ cs F H R S V w p => by
  simp only [WpBs] at w
  exact wa_of pa_nil (p _ _ _ _ _ _ .refl S .nil w)
theorem s_consB {e : E} {es : Es} {x : Expr} {xs : List Expr} (he : SE C Cl X true e x) (hs : SB C Cl X es xs) (hx : notStar x = true) : SB C Cl X (.cons e es) (x :: xs) := fun ρ h Q σ cs F H R S V w p => by
  simp only [WpBs] at w
  refine wa_of (pa_cons pe_we pa_we (star_cons hx _ _)) (he _ _ _ _ _ _ _ _ S V w fun v1 d1 cs1 F1 H1 h1 x1 S1 r1 q1 => ?_)
  refine hs _ _ _ _ _ _ _ _ S1 (V.step x1) q1 fun v2 d2 cs2 F2 H2 h2 x2 S2 r2 q2 => ?_
  exact p _ _ _ _ _ _ (x1.trans x2) S2 (.cons (r1.step x2) r2) q2
theorem s_call {f : Nat} {es : Es} {id : Str} {p1 pos : Pos} {xs : List Expr} (O : XOk C T Cl X) (h0 : T.fname f = some id) (h1 : glB X.env.scope id = true) (h2 : plainName id = true) (hx : xs.all notStar = true) (hn : xs = [] → es = .nil) (ha : SA C Cl X es xs) :
    SE C Cl X b (.call f es) (.Call (.Name id p1) xs [] pos) := fun ρ h Q σ cs F H R S V w p => by
  simp only [WpE] at w
  obtain ⟨k, a, fd, ps, G, hr, hm, hk, hb⟩ := O.fn f id h0
  have key : WA X xs σ H fun vs H1 => spOf X.K Cl C f vs H1 R E0 := by
    refine ha _ _ _ _ _ _ _ _ S V w fun vs ds cs1 F1 H1 h1 x1 S1 rs q1 => ?_
    exact ⟨cs1, F1, h1, ds, Q, S1, rs.plain, q1, fun v d cs' F' H' h' y S' r q => p _ _ _ _ _ _ (x1.trans y) S' (.inl r) q⟩
  cases xs with
  | nil =>
    refine we_of (G.call0 O.gd hr (glB_ok h1) hm hk hb (plainName_ok h2).1) ?_
    show spOf X.K Cl C f [] H R E0
    cases es with
    | nil =>
      simp only [WpEs] at w
      exact ⟨cs, F, h, [], Q, S, .nil, w, fun v d cs' F' H' h' y S' r q => p _ _ _ _ _ _ y S' (.inl r) q⟩
    | cons e es => cases hn rfl
  | cons x xs =>
    rw [List.all_cons, Bool.and_eq_true] at hx
    exact we_of (G.call O.gd hr (glB_ok h1) hm hk hb pa_we (plainName_ok h2).1 (star_cons hx.1 _ _) (star_all hx.2 _ _)) key
theorem s_blt {bt : Blt} {es : Es} {id : Str} {p1 pos : Pos} {y : Expr} {xs : List Expr} (O : XOk C T Cl X) (h0 : id = bName bt) (h1 : glB X.env.scope id = true) (hx : (y :: xs).all notStar = true) (ha : SB C Cl X es (y :: xs)) :
    SE C Cl X b (.blt bt es) (.Call (.Name id p1) (y :: xs) [] pos) := fun ρ h Q σ cs F H R S V w p => by
  simp only [WpE] at w
  subst h0
  rw [List.all_cons, Bool.and_eq_true] at hx
  have hm := O.blt _ (bName_mem bt)
  obtain ⟨n1, n2, n3⟩ := plainName_ok (bName_plain bt)
  have hv := bName_boot bt
  have key : WA X (y :: xs) σ H fun vs H1 => CallW X (bVal bt) vs H1 R := by
    refine ha _ _ _ _ _ _ _ _ S V w fun vs ds cs1 F1 H1 h1 x1 S1 rs q1 => ?_
    exact bltK_ok O.calm O.gd (by have := O.units; omega) S1 rs q1 ((p.lift x1).post)
  have hg : Gl X (bName bt) := glB_ok h1
  revert hm hv key hg n1 n3
  generalize bName bt = nm
  generalize hbv : bVal bt = bv
  intro hm n1 n3 hv key hg
  cases bt <;> cases hbv <;> first
    | exact we_of (pe_callB callw_ok hg hm hv pa_we n3 n1 (star_cons hx.1 _ _) (star_all hx.2 _ _)) key
    | exact we_of (pe_callTy callw_ok hg hm hv pa_we n3 n1 (star_cons hx.1 _ _) (star_all hx.2 _ _)) key
end
end VL

set_option maxRecDepth 100000
set_option maxHeartbeats 2000000
/-! VL: isinstance, join, new lists, what is walked, comprehensions. -/
namespace VL
open PySem L2 Evl PyProof.Rows PySem.Spec

section
variable {C : Ctx} {T : Tab} {Cl : Nat → Addr} {X : Cx} {b : Bool} {K : PySem.W.Frag} {cs cs' cs'' : List Addr} {F F' F'' H H' H'' : Hp} {h : AHeap}
theorem tyx_l {a : Addr} {vs : List V} (q : SqL K H a vs) : TyX K H (.ref a) (.type "list") := by
  rcases q with (q | ⟨o, q⟩) | ⟨o, its, n, h1, h2, _⟩
  · exact .base (.lst q)
  · exact .base (.frz q)
  · exact .kList h1 h2
theorem tyx_t {a : Addr} {vs : List V} (q : SqT K H a vs) : TyX K H (.ref a) (.type "tuple") := by
  rcases q with (q | ⟨o, q⟩) | ⟨o, its, n, h1, h2, _⟩
  · exact .base (.tup q)
  · exact .fTuple q
  · exact .kTuple h1 h2
def tyNames : List String := ["int", "bool", "str", "list", "tuple"]
theorem ty_boot {t : String} (h : tyNames.contains t = true) : bootBuiltins (Str.ofString t) = some (.type t) ∧ Str.ofString t ∈ bltNames ∧ plainName (Str.ofString t) = true := by
  have h' : t ∈ tyNames := by simpa using h
  simp only [tyNames, List.mem_cons, List.not_mem_nil, or_false] at h'
  rcases h' with rfl | rfl | rfl | rfl | rfl <;> exact ⟨by decide +kernel, by decide +kernel, by decide +kernel⟩
theorem isiK_ok (S : StOk X.K Cl cs F H h) {x : V} {d : AV} (rx : RepB X.K cs F H b x d) {t : String} {Q : KA} {R : VK} (q : isiK d t h Q) (p : PostV X.K Cl cs F H h Q R) : rIsi X.K [x, .ty t] H R := by
  have fin : ∀ {tx : String} {k : Bool}, TyX X.K H x (.type tx) → kitB tx t = some k → Q (.bl k) → rIsi X.K [x, .ty t] H R := fun {tx k} h1 h2 q => ⟨x, .ty t, .type tx, .type t, k, rfl, .ty t, h1, kit_ty h2, p.bl S q⟩
  unfold isiK at q
  split at q
  · cases rx.non
    obtain ⟨e, q⟩ := q
    rcases e with rfl | rfl | rfl | rfl | rfl <;> exact fin (.base .non) (by decide +kernel) q
  · cases rx.bl
    rcases q with ⟨rfl, q⟩ | ⟨rfl, q⟩ | ⟨rfl | rfl | rfl, q⟩ <;> exact fin (.base (.bl _)) (by decide +kernel) q
  · cases rx.int
    rcases q with ⟨rfl, q⟩ | ⟨rfl | rfl | rfl | rfl, q⟩ <;> exact fin (.base (.int _)) (by decide +kernel) q
  · cases rx.str
    rcases q with ⟨rfl, q⟩ | ⟨rfl | rfl | rfl | rfl, q⟩ <;> exact fin (.base (.str _)) (by decide +kernel) q
  · rename_i xs
    have hx : ∃ a vs, x = .ref a ∧ SqT X.K H a vs := by
      rcases rx with r | ⟨_, _, _, _, _, ⟨_, _, e, _⟩ | ⟨_, _, e, _⟩⟩
      · cases r with
        | tup h1 r1 => exact ⟨_, _, rfl, ex_t S.sub h1⟩
      · cases e
      · cases e
    obtain ⟨a, vs, rfl, hq⟩ := hx
    rcases q with ⟨rfl, q⟩ | ⟨rfl | rfl | rfl | rfl, q⟩ <;> exact fin (tyx_t hq) (by decide +kernel) q
  · exact q.elim
  · split at q
    · rename_i xs hv
      obtain ⟨a, vs, rfl, hq, _⟩ := rx.view S hv
      rcases q with ⟨rfl, q⟩ | ⟨rfl | rfl | rfl | rfl, q⟩ <;> exact fin (tyx_l hq) (by decide +kernel) q
    · exact q.elim
theorem s_isi {a : E} {t : String} {id id2 : Str} {p1 p2 pos : Pos} {y : Expr} (O : XOk C T Cl X) (h0 : id = "isinstance") (h1 : glB X.env.scope id = true) (h2 : id2 = Str.ofString t) (h3 : glB X.env.scope id2 = true) (ht : tyNames.contains t = true) (hy : notStar y = true)
    (ha : SE C Cl X true a y) : SE C Cl X b (.isi a t) (.Call (.Name id p1) [y, .Name id2 p2] [] pos) := fun ρ h Q σ cs F H R S V w p => by
  simp only [WpE] at w
  subst h0 h2
  obtain ⟨e1, e2, e3⟩ := ty_boot ht
  obtain ⟨n1, n2, n3⟩ := plainName_ok e3
  have pt : PE X (.Name (Str.ofString t) p2) (tC (.ty t)) := pe_bltn (glB_ok h3) (O.blt _ e2) e1 rfl n3 n1
  refine we_of (pe_callB call_isi (glB_ok h1) (O.blt _ (by decide +kernel)) (by decide +kernel) (pa_cons pe_we (pa_cons pt pa_nil) (star_cons hy _ _)) (by decide +kernel) (by decide +kernel) (star_cons hy _ _)) ?_
  refine ha _ _ _ _ _ _ _ _ S V w fun v1 d1 cs1 F1 H1 h1 x1 S1 r1 q1 => ?_
  exact isiK_ok S1 r1 q1 ((p.lift x1).post)
theorem s_smt {m : Sm} {o a : E} {nm : Str} {y z : Expr} {apos cpos : Pos} (hm : (match m with | .join => decide (nm = "join")) = true) (ho : SE C Cl X false o y) (ha : SE C Cl X true a z) (hz : notStar z = true) (hy : notSup y = true) (hl : (apos.endLine == cpos.line) = true) :
    SE C Cl X b (.smt m o a) (.Call (.Attribute y nm apos) [z] [] cpos) := fun ρ h Q σ cs F H R S V w p => by
  simp only [WpE] at w
  cases m with
  | join =>
    have hm : nm = "join" := of_decide_eq_true hm
    subst hm
    refine we_of (pe_join pe_we pe_we (star_cons hz _ _) (base_of hy _ _) hl) ?_
    refine ho _ _ _ _ _ _ _ _ S V w fun v1 d1 cs1 F1 H1 h1 x1 S1 r1 q1 => ?_
    split at q1
    · cases r1.str
      refine ⟨⟨_, rfl⟩, ha _ _ _ _ _ _ _ _ S1 (V.step x1) q1 fun v2 d2 cs2 F2 H2 h2 x2 S2 r2 q2 => ?_⟩
      unfold smtK at q2
      simp only at q2
      split at q2
      · rename_i ys hv
        obtain ⟨xs, hv, hn⟩ := Option.bind_eq_some_iff.mp hv
        obtain ⟨a, vs, rfl, hq, r⟩ := r2.viewT S2 hv
        rw [r.strs hn] at hq
        exact ⟨_, a, ys, rfl, rfl, hq, q2.1, (p.lift (x1.trans x2)).post.str S2 q2.2⟩
      · exact q2.elim
    · exact q1.elim

/-! ### objects of own classes -/
theorem Rep.adr_inv {K : PySem.W.Frag} {cs : List Addr} {F : Hp} {v : V} {n : Nat} (r : Rep K cs F v (.adr n)) : ∃ a, v = .ref a ∧ cs[n]? = some a := by
  cases r with
  | adr e => exact ⟨_, rfl, e⟩
theorem obj_at (S : StOk K Cl cs F H h) {n c : Nat} {a : Addr} {fs : List (Str × AV)} (e : cs[n]? = some a) (hc : cells h n = .obj c fs) : ∃ dx fvs, H a = some (.ins (Cl c) dx fvs) ∧ RepF K cs F fvs fs := by
  have := S.cell n a e
  rw [hc] at this
  exact this
theorem s_attr {a : E} {f : Str} {y : Expr} {pos : Pos} (O : XOk C T Cl X) (ha : SE C Cl X false a y) (hy : notSup y = true) : SE C Cl X b (.attr a f) (.Attribute y f pos) := fun ρ h Q σ cs F H R S V w p => by
  simp only [WpE] at w
  refine we_of (pe_fld pe_we (base_of hy _ _)) (ha _ _ _ _ _ _ _ _ S V w fun v1 d1 cs1 F1 H1 h1 x1 S1 r1 q1 => ?_)
  split at q1
  · rename_i n
    split at q1
    · rename_i c fs hc
      obtain ⟨hf, q1⟩ := q1
      split at q1
      · rename_i d hd
        obtain ⟨a, rfl, e⟩ := Rep.adr_inv r1.plain
        obtain ⟨dx, fvs, e2, r⟩ := obj_at S1 e hc
        obtain ⟨v, hv, rv⟩ := r.get hd
        exact ⟨a, Cl c, dx, fvs, v, rfl, e2, (O.fld c f hf).1, (O.fld c f hf).2, hv, p _ _ _ _ _ _ x1 S1 (.inl rv) q1⟩
      · exact q1.elim
    · exact q1.elim
  · exact q1.elim
theorem few_form {xs : List Expr} (hx : xs.all notStar = true) (hn : xs.length < 30) (pos : Pos) (env : PySem.Env) : methodCallForm xs.length (backTo pos (starEach xs env)) [] = true := by
  have := star_all hx pos env
  unfold methodCallForm
  rw [List.any_eq_false] at this
  have e : (backTo pos (starEach xs env)).all (fun x => !x.1) = true := by
    rw [List.all_eq_true]
    intro x hx
    have := this x hx
    simpa using this
  simp [e, hn]
theorem s_mcall {o : E} {m : Str} {es : Es} {y : Expr} {apos cpos : Pos} {xs : List Expr} (O : XOk C T Cl X) (ho : SE C Cl X false o y) (hy : notSup y = true) (hl : (apos.endLine == cpos.line) = true) (hx : xs.all notStar = true) (hn : xs.length < 30) (hnil : xs = [] → es = .nil) (ha : SA C Cl X es xs) :
    SE C Cl X b (.mcall o m es) (.Call (.Attribute y m apos) xs [] cpos) := fun ρ h Q σ cs F H R S V w p => by
  simp only [WpE] at w
  have key : ∀ v1 d1 cs1 F1 H1 h1, Stp cs F H cs1 F1 H1 → StOk X.K Cl cs1 F1 H1 h1 → RepB X.K cs1 F1 H1 false v1 d1 → (match d1 with
      | .adr n => match cells h1 n with
        | .obj c fs => match fs.lookup m with
          | some _ => False
          | none => match C.meth c m with
            | some f => WpEs C es ρ h1 fun xs h2 => C.call f (d1 :: xs) h2 Q
            | none => False
        | _ => False
      | _ => False) → ∃ a CC dx fs sp, v1 = .ref a ∧ H1 a = some (.ins CC dx fs) ∧ fs.lookup m = none ∧ MethAt X CC m sp ∧ WA X xs σ H1 fun vs H2 => sp (v1 :: vs) H2 R E0 := by
    intro v1 d1 cs1 F1 H1 h1 x1 S1 r1 q1
    split at q1
    · rename_i n
      split at q1
      · rename_i c fs hc
        split at q1
        · exact q1.elim
        · rename_i hlk
          split at q1
          · rename_i f hf
            obtain ⟨a, rfl, e⟩ := Rep.adr_inv r1.plain
            obtain ⟨dx, fvs, e2, r⟩ := obj_at S1 e hc
            obtain ⟨k, g, fd, ps, G, room, hc1, hm, hb⟩ := O.mth c m f hf
            refine ⟨a, Cl c, dx, fvs, spOf X.K Cl C f, rfl, e2, r.none hlk, ⟨k, g, fd, ps, hc1, hm, G, room, hb⟩, ?_⟩
            refine ha _ _ _ _ _ _ _ _ S1 (V.step x1) q1 fun vs ds cs2 F2 H2 h2 x2 S2 rs q2 => ?_
            exact ⟨cs2, F2, h2, .adr n :: ds, Q, S2, .cons (r1.plain.mono x2.f x2.c) rs.plain, q2, fun v d cs' F' H' h' y S' r q => p _ _ _ _ _ _ ((x1.trans x2).trans y) S' (.inl r) q⟩
          · exact q1.elim
      · exact q1.elim
    · exact q1.elim
  cases xs with
  | nil =>
    have := hnil rfl
    subst this
    refine we_of (pe_methG0 pe_we (base_of hy _ _) hl O.gd) (ho _ _ _ _ _ _ _ _ S V w fun v1 d1 cs1 F1 H1 h1 x1 S1 r1 q1 => ?_)
    obtain ⟨a, CC, dx, fs, sp, e1, e2, e3, e4, _⟩ := key v1 d1 cs1 F1 H1 h1 x1 S1 r1 q1
    subst e1
    split at q1
    · rename_i n
      split at q1
      · rename_i c fs' hc
        split at q1
        · exact q1.elim
        · rename_i hlk
          split at q1
          · rename_i f hf
            obtain ⟨a', ea, e⟩ := Rep.adr_inv r1.plain
            cases ea
            obtain ⟨dx', fvs, e2', r⟩ := obj_at S1 e hc
            obtain ⟨k, g, fd, ps, G, room, hc1, hm, hb⟩ := O.mth c m f hf
            simp only [WpEs] at q1
            exact ⟨a, Cl c, dx', fvs, spOf X.K Cl C f, rfl, e2', r.none hlk, ⟨k, g, fd, ps, hc1, hm, G, room, hb⟩, cs1, F1, h1, [.adr n], Q, S1, .cons r1.plain .nil, q1, fun v d cs' F' H' h' y S' r q => p _ _ _ _ _ _ (x1.trans y) S' (.inl r) q⟩
          · exact q1.elim
      · exact q1.elim
    · exact q1.elim
  | cons x xs =>
    have hx2 := hx
    rw [List.all_cons, Bool.and_eq_true] at hx2
    refine we_of (pe_methG pe_we (base_of hy _ _) hl (few_form hx hn _ _) O.gd pa_we (star_cons hx2.1 _ _) (star_all hx2.2 _ _)) (ho _ _ _ _ _ _ _ _ S V w fun v1 d1 cs1 F1 H1 h1 x1 S1 r1 q1 => ?_)
    exact key v1 d1 cs1 F1 H1 h1 x1 S1 r1 q1
theorem s_make {c : Nat} {es : Es} {id : Str} {p1 pos : Pos} {x : Expr} {xs : List Expr} (O : XOk C T Cl X) (h0 : T.cname c = some id) (h1 : glB X.env.scope id = true) (h2 : plainName id = true) (hx : (x :: xs).all notStar = true) (ha : SA C Cl X es (x :: xs)) :
    SE C Cl X b (.make c es) (.Call (.Name id p1) (x :: xs) [] pos) := fun ρ h Q σ cs F H R S V w p => by
  simp only [WpE] at w
  obtain ⟨f, k, g, fd, ps, hi, G, room, hm, M, hb⟩ := O.cls c id h0
  rw [List.all_cons, Bool.and_eq_true] at hx
  refine we_of (G.make M O.gd room (glB_ok h1) hm hb pa_we (plainName_ok h2).1 (star_cons hx.1 _ _) (star_all hx.2 _ _)) (ha _ _ _ _ _ _ _ _ S V w fun vs ds cs1 F1 H1 h1' x1 S1 rs q1 => ?_)
  rw [hi] at q1
  intro a dx na nd ne
  have ne2 : a ≠ dx := fun z => ne z.symm
  have hF : F1 a = none := by
    cases q : F1 a with
    | none => rfl
    | some u => rw [S1.sub _ _ q] at na; cases na
  have hc : a ∉ cs1 := fun z => by
    obtain ⟨n, hn⟩ := List.mem_iff_getElem?.mp z
    exact (S1.cell n a hn).some na
  have na2 : upd H1 dx (.own a) a = none := by rw [upd_ne ne2]; exact na
  have S2 := (S1.newN (o := .own a) nd).newN (o := .ins (Cl c) dx []) na2
  have y1 : Stp cs1 F1 H1 cs1 F1 (upd (upd H1 dx (.own a)) a (.ins (Cl c) dx [])) := (Stp.newN nd).trans (Stp.newN na2)
  have S3 := S2.cellNew (c := .obj c []) hF hc ⟨dx, [], upd_same, .nil⟩
  have y2 : Stp cs1 F1 H1 (cs1 ++ [a]) F1 (upd (upd H1 dx (.own a)) a (.ins (Cl c) dx [])) := by
    refine ⟨y1.f, ⟨[a], rfl⟩, y1.k, y1.d, y1.n, fun b q1 q2 => ?_⟩
    rw [List.mem_append] at q1
    rcases q1 with q1 | q1
    · exact absurd q1 q2
    · simp at q1; subst q1; exact na
  have ga : (cs1 ++ [a])[h1'.length]? = some a := by
    rw [← S1.len]
    simp
  refine ⟨cs1 ++ [a], F1, h1' ++ [.obj c []], .adr h1'.length :: ds, _, S3, .cons (.adr ga) (rs.plain.mono y2.f y2.c), q1, fun v d cs' F' H' h' y S' r q => ?_⟩
  split at q
  · cases r
    refine ⟨rfl, p _ _ _ _ _ _ ((x1.trans y2).trans y) S' (.inl (.adr ?_)) q⟩
    obtain ⟨r, e⟩ := y.c
    exact get_pre e ga
  · exact q.elim

/-! ### dicts of the module, places, tuples turned round, own classes asked for -/
theorem s_gGet {a : E} {g : Nat} {id : Str} {p1 pos : Pos} {r : Expr} (O : XOk C T Cl X) (h0 : T.dname g = some id) (h1 : glB X.env.scope id = true) (h2 : plainName id = true) (hs : notSlice r = true) (ha : SE C Cl X false a r) :
    SE C Cl X b (.gGet g a) (.Subscript (.Name id p1) r pos) := fun ρ h Q σ cs F H R S V w p => by
  simp only [WpE] at w
  obtain ⟨kvs, d, hg, m1, D⟩ := O.gdc g id h0
  rw [hg] at w
  have pt : PE X (.Name id p1) (tC (.ref d)) := pe_glob (glB_ok h1) m1 rfl (plainName_ok h2).1
  refine we_of (pe_ix (ix_gdict D) pt pe_we (plainIx_of hs)) ?_
  refine ha _ _ _ _ _ _ _ _ S V w fun v1 d1 cs1 F1 H1 h1 x1 S1 r1 q1 => ?_
  unfold gGetK at q1
  simp only at q1
  split at q1
  · cases r1.str
    split at q1
    · rename_i i hi
      exact ⟨_, _, rfl, rfl, hi, (p.lift x1).post.int S1 q1⟩
    · exact q1.elim
  · exact q1.elim
theorem s_gIn {neg : Bool} {a : E} {g : Nat} {id : Str} {p1 pos : Pos} {l : Expr} {o : CmpOp} (O : XOk C T Cl X) (ho : o = if neg then .NotIn else .In) (h0 : T.dname g = some id) (h1 : glB X.env.scope id = true) (h2 : plainName id = true) (hm : behindInMarks o (.Name id p1) = false) (ha : SE C Cl X false a l) :
    SE C Cl X b (.gIn neg a g) (.Compare l [o] [.Name id p1] pos) := fun ρ h Q σ cs F H R S V w p => by
  simp only [WpE] at w
  obtain ⟨kvs, d, hg, m1, D⟩ := O.gdc g id h0
  rw [hg] at w
  have pt : PE X (.Name id p1) (tC (.ref d)) := pe_glob (glB_ok h1) m1 rfl (plainName_ok h2).1
  cases neg with
  | true =>
    simp only [if_true] at ho
    subst ho
    refine we_of (pe_cmpR (op_gNotIn D) pe_we pt hm) (ha _ _ _ _ _ _ _ _ S V w fun v1 d1 cs1 F1 H1 h1 x1 S1 r1 q1 => ?_)
    unfold gInK at q1
    simp only at q1
    split at q1
    · cases r1.str
      exact ⟨_, rfl, rfl, (p.lift x1).post.bl S1 q1⟩
    · exact q1.elim
  | false =>
    simp only [Bool.false_eq_true, if_false] at ho
    subst ho
    refine we_of (pe_cmpR (op_gIn D) pe_we pt hm) (ha _ _ _ _ _ _ _ _ S V w fun v1 d1 cs1 F1 H1 h1 x1 S1 r1 q1 => ?_)
    unfold gInK at q1
    simp only at q1
    split at q1
    · cases r1.str
      exact ⟨_, rfl, rfl, (p.lift x1).post.bl S1 q1⟩
    · exact q1.elim
theorem s_gInT {neg : Bool} {a : E} {g : Nat} {id : Str} {p1 pos : Pos} {l : Expr} {o : CmpOp} (O : XOk C T Cl X) (ho : o = if neg then .NotIn else .In) (h0 : T.dname g = some id) (h1 : glB X.env.scope id = true) (h2 : plainName id = true) (hm : behindInMarks o (.Name id p1) = false) (ha : SE C Cl X false a l) :
    ST C Cl X (.gIn neg a g) (.Compare l [o] [.Name id p1] pos) := fun ρ h Q σ cs F H R S V w p => by
  simp only [WpT] at w
  obtain ⟨kvs, d, hg, m1, D⟩ := O.gdc g id h0
  rw [hg] at w
  have pt : PE X (.Name id p1) (tC (.ref d)) := pe_glob (glB_ok h1) m1 rfl (plainName_ok h2).1
  cases neg with
  | true =>
    simp only [if_true] at ho
    subst ho
    refine wt_of (pt_cmpR (op_gNotIn D) pe_we pt hm) (ha _ _ _ _ _ _ _ _ S V w fun v1 d1 cs1 F1 H1 h1 x1 S1 r1 q1 => ?_)
    unfold gInK at q1
    simp only at q1
    split at q1
    · cases r1.str
      exact ⟨_, rfl, rfl, _, rfl, p _ _ _ _ _ x1 S1 q1⟩
    · exact q1.elim
  | false =>
    simp only [Bool.false_eq_true, if_false] at ho
    subst ho
    refine wt_of (pt_cmpR (op_gIn D) pe_we pt hm) (ha _ _ _ _ _ _ _ _ S V w fun v1 d1 cs1 F1 H1 h1 x1 S1 r1 q1 => ?_)
    unfold gInK at q1
    simp only at q1
    split at q1
    · cases r1.str
      exact ⟨_, rfl, rfl, _, rfl, p _ _ _ _ _ x1 S1 q1⟩
    · exact q1.elim
theorem s_idx {l a : E} {nm : Str} {y z : Expr} {apos cpos : Pos} (hm : nm = "index") (hl : SE C Cl X true l y) (ha : SE C Cl X false a z) (hz : notStar1 z = true) (hy : notSup y = true) (hp : (apos.endLine == cpos.line) = true) :
    SE C Cl X b (.idx l a) (.Call (.Attribute y nm apos) [z] [] cpos) := fun ρ h Q σ cs F H R S V w p => by
  simp only [WpE] at w
  subst hm
  refine we_of (pe_index pe_we pe_we hz (base_of hy _ _) hp) ?_
  refine hl _ _ _ _ _ _ _ _ S V w fun v1 d1 cs1 F1 H1 h1 x1 S1 r1 q1 => ?_
  obtain ⟨hv, q1⟩ := q1
  obtain ⟨xs0, hv⟩ := Option.isSome_iff_exists.mp hv
  obtain ⟨a0, vs0, e0, hq0, _⟩ := r1.view S1 hv
  refine ⟨by rw [e0]; exact .inl ⟨rfl, _, hq0⟩, ?_⟩
  refine ha _ _ _ _ _ _ _ _ S1 (V.step x1) q1 fun v2 d2 cs2 F2 H2 h2 x2 S2 r2 q2 => ?_
  unfold idxK at q2
  split at q2
  · rename_i xs hv2
    obtain ⟨f1, f2, q3⟩ := q2
    obtain ⟨a1, vs, e1, hq, r⟩ := (r1.step x2).view S2 hv2
    split at q3
    · rename_i j hj
      obtain ⟨hlt, hp1, hp2⟩ := List.findIdx?_eq_some_iff_getElem.mp hj
      have hlv : j < vs.length := by rw [r.length]; exact hlt
      refine ⟨a1, vs, v2, j, vs[j], e1, rfl, hq, (r2.flat f1).1, (r.flat f2 r2 f1).1, List.getElem?_eq_getElem hlv, ?_, fun m z' hm hz' => ?_, (p.lift (x1.trans x2)).post.int S2 q3⟩
      · rw [r.flatAt f2 r2 f1 (List.getElem?_eq_getElem hlv) (List.getElem?_eq_getElem hlt)]
        exact hp1
      · have hm2 : m < xs.length := Nat.lt_trans hm hlt
        rw [r.flatAt f2 r2 f1 hz' (List.getElem?_eq_getElem hm2)]
        exact Bool.eq_false_iff.mpr (hp2 m hm)
    · exact q3.elim
  · exact q2.elim
theorem s_revT {a : E} {l : Expr} {k : Nat} {p1 p2 p3 pos : Pos} (ha : SE C Cl X false a l) : SE C Cl X b (.revT a) (.Subscript l (.Slice none none (some (.UnaryOp .USub (.Constant (.int 1) k p1) p2)) p3) pos) := fun ρ h Q σ cs F H R S V w p => by
  simp only [WpE] at w
  refine we_of (pe_revT pe_we) (ha _ _ _ _ _ _ _ _ S V w fun v1 d1 cs1 F1 H1 h1 x1 S1 r1 q1 => ?_)
  split at q1
  · have r1' := r1.plain
    cases r1' with
    | tup g1 g2 => exact ⟨_, _, rfl, ex_t S1.sub g1, (p.lift x1).post.newT S1 g2.rev q1⟩
  · exact q1.elim
theorem s_isC {a : E} {c : Nat} {id id2 : Str} {p1 p2 pos : Pos} {y : Expr} (O : XOk C T Cl X) (h0 : id = "isinstance") (h1 : glB X.env.scope id = true) (h2 : T.iname c = some id2) (h3 : glB X.env.scope id2 = true) (h4 : plainName id2 = true) (hy : notStar y = true)
    (ha : SE C Cl X false a y) : SE C Cl X b (.isC a c) (.Call (.Name id p1) [y, .Name id2 p2] [] pos) := fun ρ h Q σ cs F H R S V w p => by
  simp only [WpE] at w
  subst h0
  obtain ⟨m1, IC⟩ := O.isc c id2 h2
  have pt : PE X (.Name id2 p2) (tC (.ref (Cl c))) := pe_glob (glB_ok h3) m1 rfl (plainName_ok h4).1
  refine we_of (pe_callB (C8.call_isC IC) (glB_ok h1) (O.blt _ (by decide +kernel)) (by decide +kernel) (pa_cons pe_we (pa_cons pt pa_nil) (star_cons hy _ _)) (by decide +kernel) (by decide +kernel) (star_cons hy _ _)) ?_
  refine ha _ _ _ _ _ _ _ _ S V w fun v1 d1 cs1 F1 H1 h1 x1 S1 r1 q1 => ?_
  unfold isCK at q1
  split at q1
  · rename_i n
    split at q1
    · rename_i c' fs hc
      obtain ⟨rfl, q1⟩ := q1
      obtain ⟨a, rfl, e⟩ := Rep.adr_inv r1.plain
      obtain ⟨dx, fvs, e2, r⟩ := obj_at S1 e hc
      exact ⟨a, dx, fvs, rfl, e2, (p.lift x1).post.bl S1 q1⟩
    · exact q1.elim
  · exact q1.elim

/-! ### new lists -/
theorem NOk.made {Q : Cell → AHeap → Prop} {R : VK} (p : NOk K Cl cs F H Q R) (S : StOk K Cl cs F H h) {a : Addr} {o : HO} {c : Cell} (ha : H a = none) (r : COk K Cl cs F (upd H a o) a c) (q : Q c h) : R (.ref a) (upd H a o) := by
  have hF : F a = none := by
    cases w : F a with
    | none => rfl
    | some u => rw [S.sub _ _ w] at ha; cases ha
  have hc : a ∉ cs := fun z => by
    obtain ⟨n, hn⟩ := List.mem_iff_getElem?.mp z
    exact (S.cell n a hn).some ha
  exact p a c cs F _ h (.newN ha) (S.newN ha) ha hF hc r q
theorem n_lst {es : Es} {xs : List Expr} {pos : Pos} (ha : SA C Cl X es xs) : SN C Cl X (.lst es) (.List xs pos) := fun ρ h Q σ cs F H R S V w p => by
  simp only [WpN] at w
  refine we_of (pe_lst pa_we) (ha _ _ _ _ _ _ _ _ S V w fun vs ds cs1 F1 H1 h1 x1 S1 rs q1 => ?_)
  have rs := rs.plain
  exact ⟨by rw [rs.length]; exact q1.1, fun a ha => (p.lift x1).made S1 ha (show COk X.K Cl cs1 F1 _ a (.lst ds) from ⟨vs, upd_same, rs⟩) q1.2⟩
theorem reps_strs {K : PySem.W.Frag} {cs : List Addr} {F : Hp} : ∀ ys : List Str, Reps K cs F (ys.map V.str) (ys.map AV.str)
  | [] => .nil
  | y :: ys => .cons (.str y) (reps_strs ys)
theorem n_split {o a : E} {nm : Str} {y z : Expr} {apos cpos : Pos} (hm : nm = "split") (ho : SE C Cl X false o y) (ha : SE C Cl X false a z) (hz : notStar z = true) (hy : notSup y = true) (hl : (apos.endLine == cpos.line) = true) :
    SN C Cl X (.split o a) (.Call (.Attribute y nm apos) [z] [] cpos) := fun ρ h Q σ cs F H R S V w p => by
  simp only [WpN] at w
  subst hm
  refine we_of (pe_split pe_we pe_we (star_cons hz _ _) (base_of hy _ _) hl) ?_
  refine ho _ _ _ _ _ _ _ _ S V w fun v1 d1 cs1 F1 H1 h1 x1 S1 r1 q1 => ?_
  split at q1
  · cases r1.str
    refine ⟨⟨_, rfl⟩, ha _ _ _ _ _ _ _ _ S1 (V.step x1) q1 fun v2 d2 cs2 F2 H2 h2 x2 S2 r2 q2 => ?_⟩
    split at q2
    · cases r2.str
      obtain ⟨q3, q4, q5⟩ := q2
      exact ⟨_, _, rfl, rfl, q3, q4, fun a ha => (p.lift (x1.trans x2)).made S2 ha (show COk X.K Cl cs2 F2 _ a (.lst _) from ⟨_, upd_same, reps_strs _⟩) q5⟩
    · exact q2.elim
  · exact q1.elim
theorem n_slice {a : E} {lo hi : Oe} {l : Expr} {u v : Option Expr} {p2 pos : Pos} (ha : SE C Cl X true a l) (hl : SO C Cl X lo u) (hh : SO C Cl X hi v) : SN C Cl X (.slice a lo hi) (.Subscript l (.Slice u v none p2) pos) := fun ρ h Q σ cs F H R S V w p => by
  simp only [WpN] at w
  refine we_of (pe_slice sl_list pe_we po_we po_we) (ha _ _ _ _ _ _ _ _ S V w fun v1 d1 cs1 F1 H1 h1 x1 S1 r1 q1 => ?_)
  refine hl _ _ _ _ _ _ _ _ S1 (V.step x1) q1 fun k2 cs2 F2 H2 h2 x2 S2 q2 => ?_
  refine hh _ _ _ _ _ _ _ _ S2 ((V.step x1).step x2) q2 fun k3 cs3 F3 H3 h3 x3 S3 q3 => ?_
  split at q3
  · rename_i xs hv
    obtain ⟨a, vs, rfl, hq, r⟩ := ((r1.step x2).step x3).view S3 hv
    exact ⟨a, vs, rfl, hq, fun a ha => (p.lift ((x1.trans x2).trans x3)).made S3 ha (show COk X.K Cl cs3 F3 _ a (.lst (cut xs k2 k3)) from ⟨_, upd_same, r.cut k2 k3⟩) q3⟩
  · exact q3.elim
theorem n_list {a : E} {id : Str} {p1 pos : Pos} {y : Expr} (O : XOk C T Cl X) (h0 : id = "list") (h1 : glB X.env.scope id = true) (hy : notStar y = true) (ha : SE C Cl X true a y) : SN C Cl X (.listOf a) (.Call (.Name id p1) [y] [] pos) := fun ρ h Q σ cs F H R S V w p => by
  simp only [WpN] at w
  subst h0
  refine we_of (pe_callTy call_list_of (glB_ok h1) (O.blt _ (by decide +kernel)) (by decide +kernel) (pa_cons pe_we pa_nil (star_cons hy _ _)) (by decide +kernel) (by decide +kernel) (star_cons hy _ _)) ?_
  refine ha _ _ _ _ _ _ _ _ S V w fun v1 d1 cs1 F1 H1 h1 x1 S1 r1 q1 => ?_
  split at q1
  · rename_i xs hv
    obtain ⟨a, vs, rfl, hq, r⟩ := r1.viewT S1 hv
    exact ⟨a, vs, rfl, hq, fun a ha => (p.lift x1).made S1 ha (show COk X.K Cl cs1 F1 _ a (.lst xs) from ⟨_, upd_same, r⟩) q1⟩
  · exact q1.elim
theorem n_cat {a c : E} {l r : Expr} {pos : Pos} (ha : SE C Cl X true a l) (hc : SE C Cl X true c r) : SN C Cl X (.cat a c) (.BinOp l .Add r pos) := fun ρ h Q σ cs F H R S V w p => by
  simp only [WpN] at w
  refine we_of (pe_op op_cat pe_we pe_we) (ha _ _ _ _ _ _ _ _ S V w fun v1 d1 cs1 F1 H1 h1 x1 S1 r1 q1 => ?_)
  refine hc _ _ _ _ _ _ _ _ S1 (V.step x1) q1 fun v2 d2 cs2 F2 H2 h2 x2 S2 r2 q2 => ?_
  split at q2
  · rename_i xs ys hx hy
    obtain ⟨a1, vs, rfl, e1, t1⟩ := (r1.step x2).viewW S2 hx
    obtain ⟨a2, ws, rfl, e2, t2⟩ := r2.viewW S2 hy
    exact ⟨a1, a2, vs, ws, rfl, rfl, e1, e2, by rw [t1.length, t2.length]; exact q2.1, fun a ha => (p.lift (x1.trans x2)).made S2 ha (show COk X.K Cl cs2 F2 _ a (.lst (xs ++ ys)) from ⟨_, upd_same, t1.append t2⟩) q2.2⟩
  · exact q2.elim

theorem Reps.rep {vs : List V} {ds : List AV} (r : Reps K cs F vs ds) : ∀ n : Nat, Reps K cs F (List.replicate n vs).flatten (List.replicate n ds).flatten
  | 0 => .nil
  | n + 1 => by rw [List.replicate_succ, List.replicate_succ, List.flatten_cons, List.flatten_cons]; exact r.append (Reps.rep r n)
theorem n_rep {a c : E} {l r : Expr} {pos : Pos} (ha : SE C Cl X true a l) (hc : SE C Cl X false c r) : SN C Cl X (.rep a c) (.BinOp l .Mult r pos) := fun ρ h Q σ cs F H R S V w p => by
  simp only [WpN] at w
  refine we_of (pe_op op_rep pe_we pe_we) (ha _ _ _ _ _ _ _ _ S V w fun v1 d1 cs1 F1 H1 h1 x1 S1 r1 q1 => ?_)
  refine hc _ _ _ _ _ _ _ _ S1 (V.step x1) q1 fun v2 d2 cs2 F2 H2 h2 x2 S2 r2 q2 => ?_
  split at q2
  · rename_i xs k hx
    obtain ⟨a1, vs, rfl, e1, t1⟩ := (r1.step x2).viewW S2 hx
    have r2 := r2.plain
    cases r2
    exact ⟨a1, k, vs, rfl, rfl, e1, q2.1.1, q2.1.2, by rw [t1.length]; exact q2.2.1, fun a ha => (p.lift (x1.trans x2)).made S2 ha (show COk X.K Cl cs2 F2 _ a (.lst (List.replicate k.toNat xs).flatten) from ⟨_, upd_same, t1.rep k.toNat⟩) q2.2.2⟩
  · exact q2.elim

theorem Stp.chgNew {p : Addr} {o : HO} (x : Stp cs F H cs' F' H') (hp : H p = none) : Stp cs F H cs' F' (upd H' p o) := by
  refine ⟨x.f, x.c, fun b u q n => ?_, fun b q => ?_, x.n, x.m⟩
  · rw [upd_ne fun z => by subst z; rw [hp] at q; cases q]
    exact x.k b u q n
  · by_cases hb : b = p
    · subst hb; rw [upd_same]; simp
    · rw [upd_ne hb]; exact x.d b q
theorem keyOf_rep {d : AV} {v : V} {k : Key} (e : keyOf d = some k) (r : RepB K cs F H false v d) : v = kV k := by
  have r := r.plain
  cases d <;> simp only [keyOf] at e <;> cases e <;> cases r <;> rfl
theorem n_dct1 {k v : E} {x y : Expr} {pos : Pos} (hk : SE C Cl X false k x) (hv : SE C Cl X false v y) : SN C Cl X (.dct1 k v) (.Dict [some x] [y] pos) := fun ρ h Q σ cs F H R S V w p => by
  simp only [WpN] at w
  refine we_of (pe_disp (pps_cons pe_we pe_we pps_nil) rfl rfl (by simp) (by simp)) ?_
  intro a na
  have S1 := S.newN (o := .dK []) na
  have x0 : Stp cs F H cs F (upd H a (.dK [])) := Stp.newN na
  refine hk _ _ _ _ _ _ _ _ S1 (V.step x0) w fun v1 d1 cs1 F1 H1 h1 x1 S2 r1 q1 => ?_
  refine hv _ _ _ _ _ _ _ _ S2 ((V.step x0).step x1) q1 fun v2 d2 cs2 F2 H2 h2 x2 S3 r2 q2 => ?_
  split at q2
  · rename_i key e
    have x12 := x1.trans x2
    have here : upd H a (.dK []) a = some (.dK []) := upd_same
    have hc : a ∉ cs := fun z => by
      obtain ⟨n, hn⟩ := List.mem_iff_getElem?.mp z
      exact (S.cell n a hn).some na
    have hF : F a = none := by
      cases q : F a with
      | none => rfl
      | some u => rw [S.sub _ _ q] at na; cases na
    have e2 : H2 a = some (.dK []) := x12.k a _ here hc
    have hF2 : F2 a = none := by
      cases q : F2 a with
      | none => rfl
      | some u =>
        have := x12.n a hF (by rw [q]; simp)
        rw [here] at this; cases this
    have hn2 : a ∉ cs2 := fun z => by
      have := x12.m a z hc
      rw [here] at this; cases this
    refine ⟨e2, [(key, v2)], ?_, by simp, ?_⟩
    · rw [keyOf_rep e r1]; rfl
    · exact p a (.dct [(key, d2)]) cs2 F2 _ h2 ((x0.trans x12).chgNew na) (S3.chgN hF2 hn2) na hF2 hn2 ⟨_, upd_same, .cons r2.plain .nil⟩ q2
  · exact q2.elim
theorem n_dct0 {pos : Pos} : SN C Cl X .dct0 (.Dict [] [] pos) := fun ρ h Q σ cs F H R S V w p => by
  simp only [WpN] at w
  exact we_of pe_dnewK fun a ha => p.made S ha (show COk X.K Cl cs F _ a (.dct []) from ⟨_, upd_same, .nil⟩) w
theorem n_dictOf {a : E} {id : Str} {p1 pos : Pos} {y : Expr} (O : XOk C T Cl X) (h0 : id = "dict") (h1 : glB X.env.scope id = true) (hy : notStar y = true) (ha : SE C Cl X false a y) : SN C Cl X (.dictOf a) (.Call (.Name id p1) [y] [] pos) := fun ρ h Q σ cs F H R S V w p => by
  simp only [WpN] at w
  subst h0
  refine we_of (pe_callTy call_dictD (glB_ok h1) (O.blt _ (by decide +kernel)) (by decide +kernel) (pa_cons pe_we pa_nil (star_cons hy _ _)) (by decide +kernel) (by decide +kernel) (star_cons hy _ _)) ?_
  refine ha _ _ _ _ _ _ _ _ S V w fun v1 d1 cs1 F1 H1 h1 x1 S1 r1 q1 => ?_
  split at q1
  · rename_i xs hv
    obtain ⟨a, vs, rfl, hq, r⟩ := r1.viewD S1 hv
    exact ⟨a, vs, rfl, hq, fun a ha => (p.lift x1).made S1 ha (show COk X.K Cl cs1 F1 _ a (.dct xs) from ⟨_, upd_same, r⟩) q1⟩
  · exact q1.elim
theorem reps_ints {K : PySem.W.Frag} {cs : List Addr} {F : Hp} : ∀ ns : List Int, Reps K cs F (ns.map V.int) (ns.map AV.int)
  | [] => .nil
  | n :: ns => .cons (.int n) (reps_ints ns)
theorem n_sorted {a : E} {id : Str} {p1 pos : Pos} {y : Expr} (O : XOk C T Cl X) (h0 : id = "sorted") (h1 : glB X.env.scope id = true) (hy : notStar y = true) (ha : SE C Cl X false a y) : SN C Cl X (.sorted a) (.Call (.Name id p1) [y] [] pos) := fun ρ h Q σ cs F H R S V w p => by
  simp only [WpN] at w
  subst h0
  refine we_of (pe_callB cr_sortedI (glB_ok h1) (O.blt _ (by decide +kernel)) (by decide +kernel) (pa_cons pe_we pa_nil (star_cons hy _ _)) (by decide +kernel) (by decide +kernel) (star_cons hy _ _)) ?_
  refine ha _ _ _ _ _ _ _ _ S V w fun v1 d1 cs1 F1 H1 h1 x1 S1 r1 q1 => ?_
  split at q1
  · rename_i ns hv
    obtain ⟨xs, hv1, hv2⟩ := Option.bind_eq_some_iff.mp hv
    obtain ⟨a, vs, rfl, hq, r⟩ := r1.view S1 hv1
    rw [r.ints hv2] at hq
    exact ⟨a, ns, rfl, hq, fun ns' p1 g1 g2 g3 => (p.lift x1).made S1 g3 (show COk X.K Cl cs1 F1 _ p1 (.lst (ns'.map .int)) from ⟨_, upd_same, reps_ints ns'⟩) (q1 ns' g1 g2)⟩
  · exact q1.elim
theorem n_rngL {a c : E} {id id2 : Str} {p1 p2 pos pos2 : Pos} {y z : Expr} (O : XOk C T Cl X) (h0 : id = "list") (h1 : glB X.env.scope id = true) (h2 : id2 = "range") (h3 : glB X.env.scope id2 = true) (hy : notStar y = true) (hz : notStar z = true) (ha : SE C Cl X false a y) (hc : SE C Cl X false c z) :
    SN C Cl X (.rngL a c) (.Call (.Name id p1) [.Call (.Name id2 p2) [y, z] [] pos2] [] pos) := fun ρ h Q σ cs F H R S V w p => by
  simp only [WpN] at w
  subst h0 h2
  refine we_of (pe_listRgW O.calm (glB_ok h1) (O.blt _ (by decide +kernel)) (prg_2 (glB_ok h3) (O.blt _ (by decide +kernel)) pe_we pe_we (star_cons hy _ _) (star_cons hz _ _) (star_all (es := [z]) (by rw [List.all_cons, hz]; rfl) _ _)) rfl) ?_
  refine ha _ _ _ _ _ _ _ _ S V w fun v1 d1 cs1 F1 H1 h1 x1 S1 r1 q1 => ?_
  refine hc _ _ _ _ _ _ _ _ S1 (V.step x1) q1 fun v2 d2 cs2 F2 H2 h2 x2 S2 r2 q2 => ?_
  split at q2
  · rename_i i n
    obtain ⟨b5, q2⟩ := q2
    cases r1.int
    cases r2.int
    refine ⟨i, n, rfl, rfl, b5, fun q hq => (p.lift (x1.trans x2)).made S2 hq (show COk X.K Cl cs2 F2 _ q (.lst ((List.range (n - i).toNat).map fun (k : Nat) => .int (i + (k : Int)))) from ⟨_, upd_same, ?_⟩) q2⟩
    unfold rgV
    have := reps_ints (K := X.K) (cs := cs2) (F := F2) ((List.range (n - i).toNat).map fun (k : Nat) => i + (k : Int))
    rw [List.map_map, List.map_map] at this
    exact this
  · exact q2.elim
theorem n_rev {a : E} {l : Expr} {k : Nat} {p1 p2 p3 pos : Pos} (ha : SE C Cl X true a l) : SN C Cl X (.rev a) (.Subscript l (.Slice none none (some (.UnaryOp .USub (.Constant (.int 1) k p1) p2)) p3) pos) := fun ρ h Q σ cs F H R S V w p => by
  simp only [WpN] at w
  refine we_of (pe_revL pe_we) (ha _ _ _ _ _ _ _ _ S V w fun v1 d1 cs1 F1 H1 h1 x1 S1 r1 q1 => ?_)
  split at q1
  · rename_i xs hv
    obtain ⟨a, vs, rfl, hq, r⟩ := r1.view S1 hv
    exact ⟨a, vs, rfl, hq, fun a ha => (p.lift x1).made S1 ha (show COk X.K Cl cs1 F1 _ a (.lst xs.reverse) from ⟨_, upd_same, r.rev⟩) q1⟩
  · exact q1.elim

/-! ### what is walked -/
/-- from where the walk began: st, also through what the frame owns -/
def Rl (st : Bool) (cs : List Addr) (F H : Hp) (cs' : List Addr) (F' H' : Hp) : Prop := match st with
  | true => Stp cs F H cs' F' H'
  | false => Ex F F' ∧ ∃ r, cs' = cs ++ r
theorem Rl.of {st : Bool} (x : Stp cs F H cs' F' H') : Rl st cs F H cs' F' H' := by
  cases st with
  | true => exact x
  | false => exact ⟨x.f, x.c⟩
def IOk (K : PySem.W.Frag) (Cl : Nat → Addr) (st : Bool) (cs : List Addr) (F H : Hp) (Q : List AV → (AHeap → Prop) → AHeap → Prop) (R : L2.It → Hp → Prop) : Prop :=
  ∀ J items chk G Y cs' F' H' h', Stp cs F H cs' F' H' → StOk K Cl cs' F' H' h' → L2.Walk J items.length G Y →
    (∀ cs2 F2 H2 h2, Rl st cs' F' H' cs2 F2 H2 → StOk K Cl cs2 F2 H2 h2 → chk h2 → G H2) →
    (∀ i H2 v H3 cs2 F2 h2 d, StOk K Cl cs2 F2 H2 h2 → Ex F' F2 → (∃ r, cs2 = cs' ++ r) → items[i]? = some d → chk h2 → Y i H2 v H3 → ∃ F3, Stp cs2 F2 H2 cs2 F3 H3 ∧ StOk K Cl cs2 F3 H3 h2 ∧ Rep K cs2 F3 v d) →
    Q items chk h' → R J H'
def WI (X : Cx) (tg iter : Expr) : TI := fun σ H R => ∀ pins s, Inv X pins σ H s → wpAny (model X.prog X.w) X.A (eval iter X.env) (fun v s1 => wpAny (model X.prog X.w) X.A (pyIter v) (PIE X pins σ tg R) X.xe s1) X.xe s
theorem pi_we {tg iter : Expr} : PI X tg iter (WI X tg iter) := ⟨fun pins s σ H R I h => h pins s I⟩
theorem wi_of {tg iter : Expr} {t : TI} (p : PI X tg iter t) {σ : L2.St} {H : Hp} {R : L2.It → Hp → Prop} (h : t σ H R) : WI X tg iter σ H R := fun pins s I => p.run pins s σ H R I h
def SI (C : Ctx) (Cl : Nat → Addr) (X : Cx) (st : Bool) (tg : Expr) (e : It) (x : Expr) : Prop := ∀ ρ h Q σ cs F H (R : L2.It → Hp → Prop), StOk X.K Cl cs F H h → EnvOk X.K Cl cs F H σ ρ → WpI C e ρ h Q → IOk X.K Cl st cs F H Q R → WI X tg x σ H R
theorem i_rng1 {st : Bool} {tg : Expr} {a : E} {id : Str} {p1 pos : Pos} {y : Expr} (O : XOk C T Cl X) (h0 : id = "range") (h1 : glB X.env.scope id = true) (hy : notStar y = true) (ha : SE C Cl X false a y) : SI C Cl X st tg (.rng1 a) (.Call (.Name id p1) [y] [] pos) := fun ρ h Q σ cs F H R S V w p => by
  simp only [WpI] at w
  subst h0
  refine wi_of (pi_range1 (glB_ok h1) (O.blt _ (by decide +kernel)) (pa_cons pe_we pa_nil (star_cons hy _ _)) (star_cons hy _ _)) ?_
  refine ha _ _ _ _ _ _ _ _ S V w fun v1 d1 cs1 F1 H1 h1 x1 S1 r1 q1 => ?_
  split at q1
  · rename_i n
    cases r1.int
    refine ⟨n, rfl, q1.1.1, q1.1.2, p _ _ _ (fun _ => True) (YFn fun i => .int (0 + i)) _ _ _ _ x1 S1 (by rw [List.length_map, List.length_range]; exact walk_range) (fun _ _ _ _ _ _ _ => trivial) ?_ q1.2⟩
    intro i H2 v H3 cs2 F2 h2 d S e c hd _ ⟨y1, y2⟩
    subst y1 y2
    rw [List.getElem?_map] at hd
    obtain ⟨j, hj, rfl⟩ := Option.map_eq_some_iff.mp hd
    have hj' := (List.getElem?_eq_some_iff.mp hj).2
    simp at hj'
    subst hj'
    refine ⟨F2, .refl, S, ?_⟩
    show Rep X.K cs2 F2 (.int (0 + (i : Int))) (.int (i : Int))
    rw [Int.zero_add]
    exact .int _
  · exact q1.elim
theorem i_rng2 {st : Bool} {tg : Expr} {a c : E} {id : Str} {p1 pos : Pos} {y z : Expr} (O : XOk C T Cl X) (h0 : id = "range") (h1 : glB X.env.scope id = true) (hy : notStar y = true) (hz : notStar z = true) (ha : SE C Cl X false a y) (hc : SE C Cl X false c z) :
    SI C Cl X st tg (.rng2 a c) (.Call (.Name id p1) [y, z] [] pos) := fun ρ h Q σ cs F H R S V w p => by
  simp only [WpI] at w
  subst h0
  refine wi_of (pi_range2W (glB_ok h1) (O.blt _ (by decide +kernel)) (pa_cons pe_we (pa_cons pe_we pa_nil (star_cons hz _ _)) (star_cons hy _ _)) (by rw [star_cons hy, star_cons hz]; rfl) (star_cons hz _ _)) ?_
  refine ha _ _ _ _ _ _ _ _ S V w fun v1 d1 cs1 F1 H1 h1 x1 S1 r1 q1 => ?_
  refine hc _ _ _ _ _ _ _ _ S1 (V.step x1) q1 fun v2 d2 cs2 F2 H2 h2 x2 S2 r2 q2 => ?_
  split at q2
  · rename_i i0 n
    cases r1.int
    cases r2.int
    refine ⟨i0, n, rfl, p _ _ _ (fun _ => True) (YFn fun i => .int (i0 + i)) _ _ _ _ (x1.trans x2) S2 (by simpa using walk_range) (fun _ _ _ _ _ _ _ => trivial) ?_ q2.2⟩
    intro i H2 v H3 cs2 F2 h2 d S e c hd _ ⟨y1, y2⟩
    subst y1 y2
    rw [List.getElem?_map] at hd
    obtain ⟨j, hj, rfl⟩ := Option.map_eq_some_iff.mp hd
    have hj' := (List.getElem?_eq_some_iff.mp hj).2
    simp at hj'
    subst hj'
    exact ⟨F2, .refl, S, .int _⟩
  · exact q2.elim
theorem i_chars {st : Bool} {tg : Expr} {a : E} {x : Expr} (ha : SE C Cl X false a x) : SI C Cl X st tg (.chars a) x := fun ρ h Q σ cs F H R S V w p => by
  simp only [WpI] at w
  refine wi_of (pi_str pe_we) (ha _ _ _ _ _ _ _ _ S V w fun v1 d1 cs1 F1 H1 h1 x1 S1 r1 q1 => ?_)
  split at q1
  · rename_i z
    cases r1.str
    refine ⟨z, rfl, p _ _ _ (fun _ => True) _ _ _ _ _ x1 S1 (by simpa using walk_str) (fun _ _ _ _ _ _ _ => trivial) ?_ q1⟩
    intro i H2 v H3 cs2 F2 h2 d S e c hd _ ⟨y1, cc, y2, y3⟩
    subst y1 y3
    rw [List.getElem?_map] at hd
    obtain ⟨j, hj, rfl⟩ := Option.map_eq_some_iff.mp hd
    have : z.cps[i]? = some j := by simpa using hj
    rw [y2] at this
    cases this
    exact ⟨F2, .refl, S, .str _⟩
  · exact q1.elim
theorem keys_reps {K : PySem.W.Frag} {cs : List Addr} {F : Hp} {us : List (Key × V)} {kvs : List (Key × AV)} (r : RepK K cs F us kvs) {i : Nat} {k : Key} {v : V} (e : us[i]? = some (k, v)) : ∃ d, kvs[i]? = some (k, d) := by
  induction us generalizing kvs i with
  | nil => simp at e
  | cons u us ih =>
    cases r with
    | cons r rs =>
      cases i with
      | zero => simp at e ⊢; exact e.1
      | succ i => simp at e ⊢; exact ih rs e
theorem i_keys {st : Bool} {tg : Expr} {a : E} {x : Expr} (ha : SE C Cl X false a x) : SI C Cl X st tg (.keys a) x := fun ρ h Q σ cs F H R S V w p => by
  simp only [WpI] at w
  refine wi_of (pi_keys pe_we) (ha _ _ _ _ _ _ _ _ S V w fun v1 d1 cs1 F1 H1 h1 x1 S1 r1 q1 => ?_)
  split at q1
  · rename_i kvs
    have r1' := r1.plain
    cases r1' with
    | dct g1 g2 =>
      rename_i a o us
      refine ⟨a, o, rfl, .inl ⟨us, S1.sub _ _ g1, ?_⟩⟩
      refine p _ _ _ (fun H => H a = some (.frz o (.dK us))) _ _ _ _ _ x1 S1 (by rw [List.length_map, ← g2.length]; exact walk_keys) (fun cs2 F2 H2 h2 rl S2 _ => ?_) ?_ q1
      · have mo : Ex F1 F2 := by
          cases st with
          | true => exact Stp.f rl
          | false => exact rl.1
        exact S2.sub _ _ (mo _ _ g1)
      · intro i H2 v H3 cs2 F2 h2 d S e c hd _ ⟨y1, k, u, y2, y3⟩
        subst y1 y3
        obtain ⟨d0, hk⟩ := keys_reps g2 y2
        rw [List.getElem?_map, hk] at hd
        cases hd
        refine ⟨F2, .refl, S, ?_⟩
        cases k with
        | inl i => exact .int i
        | inr z => exact .str z
  · exact q1.elim
theorem i_zip {st : Bool} {tg : Expr} {a c : E} {id : Str} {p1 pos : Pos} {y z : Expr} (O : XOk C T Cl X) (h0 : id = "zip") (h1 : glB X.env.scope id = true) (hy : notStar y = true) (hz : notStar z = true) (ht : ∃ es k tp, tg = .Tuple es k tp) (ha : SE C Cl X false a y) (hc : SE C Cl X false c z) :
    SI C Cl X st tg (.zip a c) (.Call (.Name id p1) [y, z] [] pos) := fun ρ h Q σ cs F H R S V w p => by
  simp only [WpI] at w
  subst h0
  obtain ⟨es, kk, tp, rfl⟩ := ht
  refine wi_of (pi_zip (glB_ok h1) (O.blt _ (by decide +kernel)) (pa_cons pe_we (pa_cons pe_we pa_nil (star_cons hz _ _)) (star_cons hy _ _)) (star_cons hy _ _) (star_all (es := [z]) (by rw [List.all_cons, hz]; rfl) _ _)) ?_
  refine ha _ _ _ _ _ _ _ _ S V w fun v1 d1 cs1 F1 H1 h1 x1 S1 r1 q1 => ?_
  refine hc _ _ _ _ _ _ _ _ S1 (V.step x1) q1 fun v2 d2 cs2 F2 H2 h2 x2 S2 r2 q2 => ?_
  split at q2
  · rename_i xs ys
    have r1' := (r1.step x2).plain
    have r2' := r2.plain
    cases r1' with
    | lst g1 g2 =>
      cases r2' with
      | lst k1 k2 =>
        rename_i a1 vs a2 ws
        refine ⟨a1, a2, vs, ws, rfl, sq_of (S2.sub _ _ g1), sq_of (S2.sub _ _ k1), ?_⟩
        refine p _ _ _ (fun H => SqL X.K H a1 vs ∧ SqL X.K H a2 ws) _ _ _ _ _ (x1.trans x2) S2 (walk_zip (by rw [List.length_map, List.length_zip, g2.length, k2.length])) (fun cs3 F3 H3 h3 rl S3 _ => ?_) ?_ q2
        · have mo : Ex F2 F3 := by
            cases st with
            | true => exact Stp.f rl
            | false => exact rl.1
          exact ⟨sq_of (S3.sub _ _ (mo _ _ g1)), sq_of (S3.sub _ _ (mo _ _ k1))⟩
        · intro i H3 v H4 cs3 F3 h3 d S e c hd _ ⟨T, x, y, y1, y2, y3, y4, y5⟩
          subst y1 y3
          obtain ⟨da, ha, ra⟩ := g2.get' y4
          obtain ⟨db, hb, rb⟩ := k2.get' y5
          have hd' : d = .tup [da, db] := by
            rw [List.getElem?_map, List.getElem?_zip_eq_some (z := (da, db)) |>.mpr ⟨ha, hb⟩] at hd
            cases hd; rfl
          subst hd'
          refine ⟨upd F3 T (.tup [x, y]), Stp.newF S y2, S.newF y2, .tup (.inl (.inl upd_same)) ?_⟩
          have hF : F3 T = none := by
            cases q : F3 T with
            | none => rfl
            | some u => rw [S.sub _ _ q] at y2; cases y2
          exact .cons ((ra.mono e c).mono (Ex.new hF) ⟨[], by simp⟩) (.cons ((rb.mono e c).mono (Ex.new hF) ⟨[], by simp⟩) .nil)
  · exact q2.elim
theorem WpI_seq_vw {i : Nat} {ρ : Env} {h : AHeap} {Q} (w : WpI C (.seq (.vw i)) ρ h Q) : False := by
  simp only [WpI, WpE] at w
/-- a list or a tuple: which of the two shows where it is walked -/
theorem pi_seq {tg iter : Expr} {te : TE} (he : PE X iter te) : PI X tg iter (fun σ H R => te σ H fun x H1 => ∃ a, x = .ref a ∧ (((∃ xs, SqL X.K H1 a xs) ∧ R (Itl X.K a) H1) ∨ ((∃ xs, SqT X.K H1 a xs) ∧ R (Itt X.K a) H1))) := by
  refine ⟨fun pins s σ H R I h => ?_⟩
  refine thn (he.run pins s σ H _ I h) fun v s1 ⟨x, H1, I1, r1, a, e, q⟩ => ?_
  subst e
  rcases q with ⟨⟨xs, hq⟩, q⟩ | ⟨⟨xs, hq⟩, q⟩
  · obtain ⟨its, rv, pl, hz⟩ := I1.list hq
    cases r1
    have fresh : H1 s1.heap.objs.size = none := I1.hok.fresh (Nat.le_refl _)
    refine wpAny_pyIter_list pl.isList ⟨s1.heap.objs.size, [s1.heap.objs.size], _, Itl X.K a, H1, rfl, ?_, turn_list a _, ?_, ?_, q⟩
    · exact I1.kept (t' := s1.toks) fun _ _ z => Heap.get?_push_of_some _ z
    · exact ⟨_, Heap.get?_push_size _ rfl, rfl, rfl⟩
    · intro c hc
      obtain rfl : c = s1.heap.objs.size := by simpa using hc
      exact I1.fpOk (Nat.le_refl _) fresh
  · obtain ⟨its, rv, pl, hz⟩ := I1.tuple hq
    cases r1
    have fresh : H1 s1.heap.objs.size = none := I1.hok.fresh (Nat.le_refl _)
    refine wpAny_pyIter_tuple (show s1.heap.IsTuple a its.toArray from pl) ⟨s1.heap.objs.size, [s1.heap.objs.size], _, Itt X.K a, H1, rfl, ?_, turn_tuple a _, ?_, ?_, q⟩
    · exact I1.kept (t' := s1.toks) fun _ _ z => Heap.get?_push_of_some _ z
    · exact ⟨_, Heap.get?_push_size _ rfl, rfl, rfl⟩
    · intro c hc
      obtain rfl : c = s1.heap.objs.size := by simpa using hc
      exact I1.fpOk (Nat.le_refl _) fresh
theorem i_seq {st : Bool} {tg : Expr} {a : E} {x : Expr} (ha : SE C Cl X false a x) : SI C Cl X st tg (.seq a) x := fun ρ h Q σ cs F H R S V w p => by
  simp only [WpI] at w
  refine wi_of (pi_seq pe_we) (ha _ _ _ _ _ _ _ _ S V w fun v1 d1 cs1 F1 H1 h1 x1 S1 r1 q1 => ?_)
  split at q1
  · rename_i items hv
    have r1' := r1.plain
    rcases viewT_eq hv with e | hv'
    · subst e
      cases r1' with
      | tup g1 g2 =>
        rename_i a vs
        refine ⟨a, rfl, .inr ⟨⟨vs, ex_t S1.sub g1⟩, p _ items _ (fun H => SqT X.K H a vs) (YAt vs) _ _ _ _ x1 S1 (by rw [← g2.length]; exact walk_tup) (fun cs2 F2 H2 h2 rl S2 _ => ?_) ?_ q1⟩⟩
        · have mo : Ex F1 F2 := by
            cases st with
            | true => exact Stp.f rl
            | false => exact rl.1
          exact ex_t S2.sub (ex_t mo g1)
        · intro i H2 v H3 cs2 F2 h2 d S e c hd _ ⟨y1, y2⟩
          subst y1
          obtain ⟨v', e1, r2⟩ := g2.get hd
          rw [y2] at e1
          cases e1
          exact ⟨F2, .refl, S, r2.mono e c⟩
    · obtain ⟨a, vs, e, hq, r⟩ := r1.view S1 hv'
      have stay : ∀ cs2 F2 H2 h2, Ex F1 F2 → (∃ r, cs2 = cs1 ++ r) → StOk X.K Cl cs2 F2 H2 h2 → viewT h2 d1 = some items → ∃ vs2, SqL X.K H2 a vs2 ∧ Reps X.K cs2 F2 vs2 items := by
        intro cs2 F2 H2 h2 m1 m2 S2 hv2
        have r2 : RepB X.K cs2 F2 H2 false v1 d1 := .inl (r1'.mono m1 m2)
        have hv3 : view h2 d1 = some items := by
          rcases viewT_eq hv2 with z | z
          · subst z
            simp [VL.view] at hv'
          · exact z
        obtain ⟨a2, vs2, e2, hq2, rr⟩ := r2.view S2 hv3
        rw [e] at e2
        cases e2
        exact ⟨vs2, hq2, rr⟩
      refine ⟨a, e, .inl ⟨⟨vs, hq⟩, p (Itl X.K a) items _ (fun H => ∃ vs2, SqL X.K H a vs2 ∧ vs2.length = items.length) (fun i H v H' => H' = H ∧ ∀ vs2, SqL X.K H a vs2 → vs2[i]? = some v) _ _ _ _ x1 S1 ?_ (fun cs2 F2 H2 h2 rl S2 hc => ?_) ?_ q1⟩⟩
      · refine ⟨fun i H hi ⟨vs2, g1, g2⟩ => ⟨vs2, vs2[i], g1, by simp [hi, g2]⟩, fun H ⟨vs2, g1, g2⟩ => ⟨vs2, g1, Nat.le_of_eq g2⟩, fun i H v H' hi _ y => y⟩
      · have mo : Ex F1 F2 ∧ ∃ r, cs2 = cs1 ++ r := by
          cases st with
          | true => exact ⟨Stp.f rl, Stp.c rl⟩
          | false => exact rl
        obtain ⟨vs2, g1, g2⟩ := stay cs2 F2 H2 h2 mo.1 mo.2 S2 hc
        exact ⟨vs2, g1, g2.length⟩
      · intro i H2 v H3 cs2 F2 h2 d S2 e c hd hc ⟨y1, y2⟩
        subst y1
        obtain ⟨vs2, g1, g2⟩ := stay cs2 F2 H3 h2 e c S2 hc
        obtain ⟨v', e1, r2⟩ := g2.get hd
        rw [y2 vs2 g1] at e1
        cases e1
        exact ⟨F2, .refl, S2, r2⟩
  · exact q1.elim
theorem i_own {tg : Expr} {i : Nat} {x : Expr} (hag : agVar X.env.scope X.N i x = true) : SI C Cl X true tg (.own i) x := fun ρ h Q σ cs F H R S V w p => by
  unfold agVar at hag
  split at hag
  · rename_i id pos
    simp only [Bool.and_eq_true, decide_eq_true_eq] at hag
    obtain ⟨⟨h1, h2⟩, h3⟩ := hag
    obtain ⟨n1, n2, _⟩ := plainName_ok h3
    simp only [WpI] at w
    split at w
    · rename_i items hd
      obtain ⟨a, e1, e2, e3, vs, e4, r⟩ := V.own i _ hd
      refine wi_of (pi_list (pe_var h1 (visB_ok h2) n1 n2)) ⟨_, e1, a, rfl, ⟨vs, sq_of e4⟩, p _ items _ (fun H => SqL X.K H a vs) (YAt vs) _ _ _ _ .refl S (by rw [← r.length]; exact walk_list) (fun cs2 F2 H2 h2 rl S2 _ => ?_) ?_ w⟩
      · exact sq_of (Stp.k rl _ _ e4 e2)
      · intro j H2 v H3 cs2 F2 h2 d S2 e c hd _ ⟨y1, y2⟩
        subst y1
        obtain ⟨v', g1, r2⟩ := r.get hd
        rw [y2] at g1
        cases g1
        exact ⟨F2, .refl, S2, r2.mono e c⟩
    · exact w.elim
  · cases hag

/-! ### targets -/
def gNames : List Nat → TGs
  | [] => gNil
  | i :: is => gCons (gName i) (gNames is)
def gOf (K : PySem.W.Frag) : Tg → TG
  | .nm i => gName i
  | .tup is => fun v σ H Q => gTup K is.length (gNames is) v σ H Q ∨ gUnl K is.length (gNames is) v σ H Q
/-- a name that may be stored to in this context -/
def Sto (sc0 : Scope) (X : Cx) : Prop := ∀ id, tgN sc0 X.env.scope id = true → Loc X.env.scope id ∧ (X.fn id = true ∨ X.env.scope.names.lookup id = some .local)
theorem pgs_names {sc0 : Scope} (nd : X.N.Nodup) (st : Sto sc0 X) : ∀ {is : List Nat} {es : List Expr}, agNames sc0 X.env.scope X.N is es = true → PGs X es (gNames is) ∧ (assignEach es X.env).length = is.length ∧ (assignEach es X.env).findIdx? (·.1) = none
  | [], [], _ => ⟨pgs_nil, rfl, rfl⟩
  | [], _ :: _, h => by simp [agNames] at h
  | i :: is, [], h => by simp [agNames] at h
  | i :: is, e :: es, h => by
    cases e <;> simp [agNames] at h
    rename_i id pos
    obtain ⟨⟨h1, h2⟩, h3⟩ := h
    obtain ⟨g1, g2, g3⟩ := pgs_names nd st h3
    obtain ⟨s1, s2⟩ := st id h2
    refine ⟨pgs_cons (pg_name nd h1 s1 s2) g1 rfl, ?_, ?_⟩
    · show (assignEach es X.env).length + 1 = is.length + 1
      rw [g2]
    · show ((false, assign (.Name id pos) X.env) :: assignEach es X.env).findIdx? (·.1) = none
      rw [List.findIdx?_cons, g3] <;> rfl
theorem pg_ok {sc0 : Scope} (nd : X.N.Nodup) (calm : X.calm = true) (st : Sto sc0 X) {tg : Tg} {x : Expr} (h : agTg sc0 X.env.scope X.N tg x = true) : PG X x (gOf X.K tg) := by
  cases tg with
  | nm i =>
    cases x <;> simp [agTg] at h
    obtain ⟨s1, s2⟩ := st _ h.2
    exact pg_name nd h.1 s1 s2
  | tup is =>
    cases x <;> simp [agTg] at h
    obtain ⟨g1, g2, g3⟩ := pgs_names nd st h
    exact ⟨fun pins s σ H v u Q I r hw => hw.elim (fun z => (pg_tup calm g1 g2 g3).run pins s σ H v u Q I r z) fun z => (pg_unl calm g1 g2 g3).run pins s σ H v u Q I r z⟩
theorem sets_len {ρ' : Env} : ∀ {is : List Nat} {xs : List AV} {ρ : Env}, setsS ρ is xs = some ρ' → xs.length = is.length := by
  intro is
  induction is with
  | nil => intro xs ρ h; cases xs <;> simp [setsS] at h ⊢
  | cons i is ih => intro xs ρ h; cases xs <;> simp [setsS] at h ⊢; exact ih h
theorem tgK_tup {is : List Nat} {x : AV} {ρ : Env} {Q : Env → Prop} (w : tgK (.tup is) x ρ Q) : ∃ xs ρ', (x = .tup xs ∨ x = .lst xs) ∧ setsS ρ is xs = some ρ' ∧ Q ρ' := by
  unfold tgK at w
  simp only at w
  split at w
  · rename_i xs
    split at w
    · rename_i ρ' hs
      exact ⟨xs, ρ', .inl rfl, hs, w⟩
    · exact w.elim
  · rename_i xs
    split at w
    · rename_i ρ' hs
      exact ⟨xs, ρ', .inr rfl, hs, w⟩
    · exact w.elim
  · exact w.elim
theorem gTL_of {K : PySem.W.Frag} {cs : List Addr} {F H : Hp} (sub : Ex F H) {is : List Nat} {v : V} {d : AV} {xs : List AV} {σ : L2.St} {R : L2.St → Hp → Prop} {ρ ρ' : Env} (r : Rep K cs F v d) (e : d = .tup xs ∨ d = .lst xs) (hs : setsS ρ is xs = some ρ')
    (k : ∀ vs, Reps K cs F vs xs → gNames is vs σ H R) : gOf K (.tup is) v σ H R := by
  rcases e with rfl | rfl
  · cases r with
    | tup g1 g2 =>
      rename_i a vs
      exact .inl ⟨a, vs, rfl, ex_t sub g1, by rw [g2.length, sets_len hs], k vs g2⟩
  · cases r with
    | lst g1 g2 =>
      rename_i a vs
      exact .inr ⟨a, vs, rfl, sq_of (sub _ _ g1), by rw [g2.length, sets_len hs], k vs g2⟩
theorem sets_ok {ρ' : Env} : ∀ {is : List Nat} {xs : List AV} {vs : List V} {σ : L2.St} {ρ : Env} {R : L2.St → Hp → Prop}, EnvOk K Cl cs F H σ ρ → Reps K cs F vs xs → setsS ρ is xs = some ρ' →
    (∀ σ', EnvOk K Cl cs F H σ' ρ' → (∀ own : List Nat, (∀ i ∈ is, i ∈ own) → wipe σ' own = wipe σ own) → R σ' H) → gNames is vs σ H R
  | [], [], _, σ, ρ, R, V, .nil, e, k => by
    simp [setsS] at e
    subst e
    exact ⟨rfl, k σ V fun _ _ => rfl⟩
  | [], _ :: _, _, _, _, _, _, _, e, _ => by simp [setsS] at e
  | _ :: _, [], _, _, _, _, _, _, e, _ => by simp [setsS] at e
  | i :: is, x :: xs, _, σ, ρ, R, V, .cons r rs, e, k => by
    rename_i v vs
    simp only [setsS] at e
    refine ⟨v, vs, rfl, sets_ok (V.setV r) rs e fun σ' V' hw => k σ' V' fun own ho => ?_⟩
    rw [hw own fun j hj => ho j (List.mem_cons_of_mem _ hj)]
    exact wipe_set (ho i List.mem_cons_self)
where
  wipe_set {σ : L2.St} {i : Nat} {v : Option V} : ∀ {own : List Nat}, i ∈ own → wipe (σ.set i v) own = wipe σ own
    | j :: own, h => by
      unfold wipe
      by_cases hj : i ∈ own
      · rw [wipe_set hj]
      · have e : i = j := by
          rcases List.mem_cons.mp h with e | e
          · exact e
          · exact absurd e hj
        subst e
        have : ∀ (own : List Nat) (σ : L2.St), i ∉ own → (wipe (σ.set i v) own) = (wipe σ own).set i v := by
          intro own
          induction own with
          | nil => intro σ _; rfl
          | cons k own ih =>
            intro σ hk
            unfold wipe
            rw [ih σ fun z => hk (List.mem_cons_of_mem _ z)]
            exact List.set_comm _ _ fun z => hk (z ▸ List.mem_cons_self)
        rw [this own σ hj, List.set_set]
theorem tg_ok {σ : L2.St} {ρ : Env} {tg : Tg} {d : AV} {v : V} {Q : Env → Prop} {R : L2.St → Hp → Prop} (S : StOk K Cl cs F H h) (V : EnvOk K Cl cs F H σ ρ) (r : Rep K cs F v d) (w : tgK tg d ρ Q)
    (k : ∀ σ' ρ', EnvOk K Cl cs F H σ' ρ' → (∀ own : List Nat, (∀ i ∈ tgIds tg, i ∈ own) → wipe σ' own = wipe σ own) → Q ρ' → R σ' H) : gOf K tg v σ H R := by
  cases tg with
  | nm i =>
    exact k _ _ (V.setV r) (fun own ho => sets_ok.wipe_set (ho i (by simp [tgIds]))) w
  | tup is =>
    obtain ⟨xs, ρ', e, hs, w⟩ := tgK_tup w
    exact gTL_of S.sub r e hs fun vs g2 => sets_ok V g2 hs fun σ' V' hw => k σ' ρ' V' hw w

/-! ### comprehensions -/
def WEb (X : Cx) (scope : Scope) (e : Expr) : TE := fun σ H Q => ∀ (s : Shared) (H0 : Hp) (D : Addr) (cl : List (Str × Addr)) (fp : List Addr), WE (X.blk s H0 scope (compEnvC scope cl D X.env) fp) e σ H Q
def WTb (X : Cx) (scope : Scope) (e : Expr) : TT := fun σ H Q => ∀ (s : Shared) (H0 : Hp) (D : Addr) (cl : List (Str × Addr)) (fp : List Addr), WT (X.blk s H0 scope (compEnvC scope cl D X.env) fp) e σ H Q
/-- a test of a comprehension: none, or one -/
def WCb (X : Cx) (scope : Scope) : List Expr → TT
  | [] => tYes
  | c :: _ => WTb X scope c
theorem sto_blk {X : Cx} {scope : Scope} (s : Shared) (H0 : Hp) (D : Addr) (cl : List (Str × Addr)) (fp : List Addr) : Sto scope (X.blk s H0 scope (compEnvC scope cl D X.env) fp) := fun id h => by
  unfold tgN at h
  simp only [Bool.or_eq_true, Bool.and_eq_true, decide_eq_true_eq] at h
  rcases h with ⟨h1, h2⟩ | ⟨h1, h2⟩
  · exact ⟨.inl h2, .inr h2⟩
  · refine ⟨.inr h2, .inl ?_⟩
    show (scope.names.lookup id == some .cell) = true
    rw [h1]; rfl
theorem wipe_in {i : Nat} : ∀ {own : List Nat} (σ : L2.St), i ∈ own → (wipe σ own)[i]? = if i < σ.length then some none else none
  | j :: own, σ, hi => by
    unfold wipe
    by_cases hj : j = i
    · subst hj
      rw [List.getElem?_set]
      simp [wipe_length]
    · rw [List.getElem?_set_ne hj]
      exact wipe_in σ (by simpa [Ne.symm hj] using hi)
theorem wipe_idem {σ : L2.St} {own : List Nat} : wipe (wipe σ own) own = wipe σ own := by
  apply List.ext_getElem?
  intro i
  by_cases hi : i ∈ own
  · rw [wipe_in _ hi, wipe_in _ hi, wipe_length]
  · rw [wipe_out hi]
def compB (C : Ctx) (elt : E) (tg : Tg) (cond : Oe) (own : List Nat) (ρ : Env) : AV → AHeap → (Option AV → AHeap → Prop) → Prop := fun x h2 R => tgK tg x (wipeS ρ own) fun ρ2 => WpC C cond ρ2 h2 fun k h3 =>
  if k = true then WpE C false elt ρ2 h3 fun y h4 => R (some y) h4 else R none h3
/-- what stands between two turns of a comprehension -/
def CInv (K : PySem.W.Frag) (Cl : Nat → Addr) (cs1 : List Addr) (F1 H1 : Hp) (B : AV → AHeap → (Option AV → AHeap → Prop) → Prop) (chk : AHeap → Prop) (items : List AV) (Q : List AV → AHeap → Prop) (D : Addr) (i : Nat) (H' : Hp) : Prop :=
  ∃ cs2 F2 h2 acc vs, Stp cs1 F1 H1 cs2 F2 H' ∧ StOk K Cl cs2 F2 H' h2 ∧ H' D = some (.lst vs) ∧ Reps K cs2 F2 vs acc ∧ D ∉ cs2 ∧ F2 D = none ∧ acc.length ≤ i ∧ compL B chk (items.drop i) acc h2 Q
theorem n_comp {elt : E} {tg : Tg} {it : It} {cond : Oe} {own : List Nat} {y t i : Expr} {ifs : List Expr} {scope : Scope} {pos : Pos} (O : XOk C T Cl X) (hb : BlkOk X.N X.env.scope scope (ownP X.N own)) (ho : ∀ i ∈ tgIds tg, i ∈ own)
    (ht : agTg scope (relS scope X.env.scope) X.N tg t = true) (hi : SI C Cl X true t it i) (hs : notSet i = true) (he : ∀ s H0 D cl fp, SE C Cl (X.blk s H0 scope (compEnvC scope cl D X.env) fp) false elt y)
    (hc : (ifs = [] ∧ cond = .no) ∨ ∃ c e, ifs = [c] ∧ cond = .so e ∧ ∀ s H0 D cl fp, ST C Cl (X.blk s H0 scope (compEnvC scope cl D X.env) fp) e c) : ∀ ρ h Q σ cs F H R, StOk X.K Cl cs F H h → EnvOk X.K Cl cs F H σ ρ → WpN C (.comp elt tg it cond own) ρ h Q → NOk X.K Cl cs F H Q R →
      tLc (WI X t i) (gOf X.K tg) (WCb X scope ifs) (WEb X scope y) own σ H R := fun ρ h Q σ cs F H R S V w p => by
  simp only [WpN] at w
  unfold tLc
  refine hi _ _ _ _ _ _ _ _ S V w fun J items chk G Y cs1 F1 H1 h1 x1 S1 wk hG hY q1 => ?_
  obtain ⟨hlen, q1⟩ := q1
  intro D hD
  have hF1 : F1 D = none := by
    cases w : F1 D with
    | none => rfl
    | some u => rw [S1.sub _ _ w] at hD; cases hD
  have hc1 : D ∉ cs1 := fun z => by
    obtain ⟨n, hn⟩ := List.mem_iff_getElem?.mp z
    exact (S1.cell n D hn).some hD
  refine lc_it wk (CInv X.K Cl cs1 F1 H1 (compB C elt tg cond own ρ) chk items (fun acc h2 => Q (.lst acc) h2) D) ?_ ?_ ?_ ?_
  · exact ⟨cs1, F1, h1, [], [], .newN hD, S1.newN hD, upd_same, .nil, hc1, hF1, Nat.le_refl _, q1⟩
  · rintro j H' hj ⟨cs2, F2, h2, acc, vs, x2, S2, e1, e2, e3, e4, e5, e6⟩
    refine hG cs2 F2 H' h2 x2 S2 ?_
    cases hd : items.drop j with
    | nil => rw [hd] at e6; exact e6.1
    | cons d r => rw [hd] at e6; exact e6.1
  · rintro j v H' H3 hj ⟨cs2, F2, h2, acc, vs, x2, S2, e1, e2, e3, e4, e5, e6⟩ hy
    rw [List.drop_eq_getElem_cons hj] at e6
    obtain ⟨ck, e6⟩ := e6
    obtain ⟨F3, x3, S3, rv⟩ := hY j H' v H3 cs2 F2 h2 _ S2 x2.f x2.c (List.getElem?_eq_getElem hj) ck hy
    have V3 : EnvOk X.K Cl cs2 F3 H3 σ ρ := V.step ((x1.trans x2).trans x3)
    refine tg_ok S3 (V3.wipe own) rv e6 fun σ4 ρ4 V4 hw e7 => ⟨by rw [hw own ho, wipe_idem], ?_⟩
    have d3 : H3 D = some (.lst vs) := x3.k _ _ e1 e3
    have n3 : F3 D = none := by
      cases w : F3 D with
      | none => rfl
      | some o =>
        have z := x3.n D e4 (by rw [w]; simp)
        rw [e1] at z; cases z
    have x13 : Stp cs1 F1 H1 cs2 F3 H3 := x2.trans x3
    -- the test
    have test : ∀ {R2 : Bool → Hp → Prop}, BOk X.K Cl cs2 F3 H3 (fun k h3 => if k = true then WpE C false elt ρ4 h3 fun y h4 => compL (compB C elt tg cond own ρ) chk (items.drop (j + 1)) (acc ++ [y]) h4 (fun acc h2 => Q (.lst acc) h2) else compL (compB C elt tg cond own ρ) chk (items.drop (j + 1)) acc h3 (fun acc h2 => Q (.lst acc) h2)) R2 → WCb X scope ifs σ4 H3 R2 := by
      intro R2 post
      rcases hc with ⟨rfl, rfl⟩ | ⟨c, e, rfl, rfl, hc⟩
      · simp only [WpC] at e7
        exact post _ _ _ _ _ .refl S3 e7
      · simp only [WpC] at e7
        intro s H0 D' cl fp
        exact hc s H0 D' cl fp _ _ _ _ _ _ _ _ S3 V4 e7 post
    refine test fun k cs4 F4 H4 h4 x4 S4 q4 => ?_
    have d4 : H4 D = some (.lst vs) := x4.k _ _ d3 e3
    have n4 : F4 D = none := by
      cases w : F4 D with
      | none => rfl
      | some o =>
        have z := x4.n D n3 (by rw [w]; simp)
        rw [d3] at z; cases z
    have c4 : D ∉ cs4 := fun z => by
      have := x4.m D z e3
      rw [d3] at this; cases this
    cases k with
    | false =>
      rw [if_neg Bool.false_ne_true] at q4 ⊢
      exact ⟨cs4, F4, h4, acc, vs, x13.trans x4, S4, d4, (e2.mono (x3.trans x4).f (x3.trans x4).c), c4, n4, by omega, q4⟩
    | true =>
      rw [if_pos rfl] at q4 ⊢
      intro s H0 D' cl fp
      refine he s H0 D' cl fp _ _ _ _ _ _ _ _ S4 (V4.step x4) q4 fun v5 d5 cs5 F5 H5 h5 x5 S5 r5 q5 => ?_
      have d5' : H5 D = some (.lst vs) := x5.k _ _ d4 c4
      have n5 : F5 D = none := by
        cases w : F5 D with
        | none => rfl
        | some o =>
          have z := x5.n D n4 (by rw [w]; simp)
          rw [d4] at z; cases z
      have c5 : D ∉ cs5 := fun z => by
        have := x5.m D z c4
        rw [d4] at this; cases this
      have x35 := (x3.trans x4).trans x5
      have lv : vs.length = acc.length := e2.length
      refine ⟨vs, d5', by omega, cs5, F5, h5, acc ++ [d5], vs ++ [v5], ((x13.trans x4).trans x5).chgNew hD, S5.chgN n5 c5, upd_same, (e2.mono x35.f x35.c).append (.cons r5.plain .nil), c5, n5, by rw [List.length_append, List.length_singleton]; omega, q5⟩
  · rintro H' ⟨cs2, F2, h2, acc, vs, x2, S2, e1, e2, e3, e4, e5, e6⟩
    rw [List.drop_of_length_le (Nat.le_refl _)] at e6
    exact p D (.lst acc) cs2 F2 H' h2 (x1.trans x2) S2 (x1.fresh hD) e4 e3 ⟨vs, e1, e2⟩ e6.2
end
end VL

set_option maxRecDepth 100000
set_option maxHeartbeats 4000000
/-! VL: every expression that agrees with the text. -/
namespace VL
open PySem L2 Evl PyProof.Rows PySem.Spec

section
variable {C : Ctx} {T : Tab} {Cl : Nat → Addr}
theorem agEs_all {sc : Scope} {N : List Str} : ∀ {es : Es} {xs : List Expr}, agEs T sc N es xs = true → xs.all notStar = true ∧ (xs = [] → es = .nil)
  | .nil, [], _ => ⟨rfl, fun _ => rfl⟩
  | .nil, _ :: _, h => by simp [agEs] at h
  | .cons e es, [], h => by simp [agEs] at h
  | .cons e es, x :: xs, h => by
    simp only [agEs, Bool.and_eq_true] at h
    refine ⟨?_, fun z => by cases z⟩
    rw [List.all_cons, h.1.2, (agEs_all h.2).1]; rfl
theorem agC_so {sc : Scope} {N : List Str} {e : Oe} {c : Expr} (h : agC T sc N e c = true) : ∃ e', e = .so e' := by
  cases e with
  | no => simp [agC] at h
  | so e => exact ⟨e, rfl⟩
/-- what a comprehension of the text must show -/
structure CompOk (C : Ctx) (T : Tab) (Cl : Nat → Addr) (X : Cx) (elt : E) (tg : Tg) (it : It) (cond : Oe) (own : List Nat) (y t i : Expr) (ifs : List Expr) (scope : Scope) : Prop where
  hb : BlkOk X.N X.env.scope scope (ownP X.N own)
  ho : ∀ i ∈ tgIds tg, i ∈ own
  ht : agTg scope (relS scope X.env.scope) X.N tg t = true
  hi : SI C Cl X true t it i
  hs : notSet i = true
  he : ∀ s H0 D cl fp, SE C Cl (X.blk s H0 scope (compEnvC scope cl D X.env) fp) false elt y
  hc : (ifs = [] ∧ cond = .no) ∨ ∃ c e, ifs = [c] ∧ cond = .so e ∧ ∀ s H0 D cl fp, ST C Cl (X.blk s H0 scope (compEnvC scope cl D X.env) fp) e c
section
variable {X : Cx} {elt : E} {tg : Tg} {it : It} {cond : Oe} {own : List Nat} {y t i : Expr} {ifs : List Expr} {scope : Scope}
theorem CompOk.pg (K : CompOk C T Cl X elt tg it cond own y t i ifs scope) (O : XOk C T Cl X) : ∀ (s : Shared) (H0 : Hp) (D : Addr) (cl : List (Str × Addr)) (fp : List Addr), PG (X.blk s H0 scope (compEnvC scope cl D X.env) fp) t (gOf X.K tg) := fun s H0 D cl fp =>
  pg_ok (X := X.blk s H0 scope (compEnvC scope cl D X.env) fp) O.nd O.calm (sto_blk s H0 D cl fp) K.ht
theorem CompOk.pts (K : CompOk C T Cl X elt tg it cond own y t i ifs scope) : ∀ (s : Shared) (H0 : Hp) (D : Addr) (cl : List (Str × Addr)) (fp : List Addr), PTs (X.blk s H0 scope (compEnvC scope cl D X.env) fp) ifs (WCb X scope ifs) := fun s H0 D cl fp => by
  rcases K.hc with ⟨rfl, _⟩ | ⟨c, e, rfl, _, _⟩
  · exact pts_nil
  · exact pts_one ⟨fun pins s' σ H Q I h => h s H0 D cl fp pins s' I⟩
theorem CompOk.pe (K : CompOk C T Cl X elt tg it cond own y t i ifs scope) : ∀ (s : Shared) (H0 : Hp) (D : Addr) (cl : List (Str × Addr)) (fp : List Addr), PE (X.blk s H0 scope (compEnvC scope cl D X.env) fp) y (WEb X scope y) := fun s H0 D cl fp =>
  ⟨fun pins s' σ H Q I h => h s H0 D cl fp pins s' I⟩
theorem CompOk.reads (K : CompOk C T Cl X elt tg it cond own y t i ifs scope) (O : XOk C T Cl X) : ∀ ρ h Q σ cs F H R, StOk X.K Cl cs F H h → EnvOk X.K Cl cs F H σ ρ → WpN C (.comp elt tg it cond own) ρ h Q → NOk X.K Cl cs F H Q R →
    tLc (WI X t i) (gOf X.K tg) (WCb X scope ifs) (WEb X scope y) ((ownP X.N own).map (·.2)) σ H R := by
  rw [ownP_ids]
  exact n_comp O K.hb K.ho K.ht K.hi K.hs K.he K.hc (pos := ⟨0, 0, 0, 0⟩)
theorem CompOk.sn (K : CompOk C T Cl X elt tg it cond own y t i ifs scope) (O : XOk C T Cl X) {pos : Pos} : SN C Cl X (.comp elt tg it cond own) (.ListComp y [⟨t, i, ifs, 0⟩] scope pos) := fun ρ h Q σ cs F H R S V w p =>
  we_of (pe_lc O.calm O.nd pi_we K.hb (K.pg O) K.pts K.pe (folded_of K.hs _)) (K.reads O ρ h Q σ cs F H R S V w p)
end

mutual
theorem sE : ∀ (e : E) (b : Bool) (x : Expr) (X : Cx), XOk C T Cl X → agE T X.env.scope X.N e x = true → SE C Cl X b e x
  | .var i, b, x, X, O, h => s_var (by simpa only [agE] using h)
  | .vw i, b, x, X, O, h => s_vw (by simpa only [agE] using h)
  | .cint i, b, x, X, O, h => fun ρ h' Q σ cs F H R S V w p => by
    simp only [agE] at h
    split at h
    · have e := of_decide_eq_true h
      subst e
      simp only [WpE] at w
      exact we_of pe_int (p _ _ _ _ _ _ .refl S (.inl (.int i)) w)
    · cases h
  | .cstr i, b, x, X, O, h => fun ρ h' Q σ cs F H R S V w p => by
    simp only [agE] at h
    split at h
    · have e := of_decide_eq_true h
      subst e
      simp only [WpE] at w
      exact we_of pe_str (p _ _ _ _ _ _ .refl S (.inl (.str i)) w)
    · cases h
  | .cbl i, b, x, X, O, h => fun ρ h' Q σ cs F H R S V w p => by
    simp only [agE] at h
    split at h
    · have e := of_decide_eq_true h
      subst e
      simp only [WpE] at w
      exact we_of pe_bl (p _ _ _ _ _ _ .refl S (.inl (.bl i)) w)
    · cases h
  | .cnon, b, x, X, O, h => fun ρ h' Q σ cs F H R S V w p => by
    simp only [agE] at h
    split at h
    · simp only [WpE] at w
      exact we_of pe_non (p _ _ _ _ _ _ .refl S (.inl .non) w)
    · cases h
  | .glob g, b, x, X, O, h => by
    simp only [agE] at h
    split at h
    · simp only [Bool.and_eq_true, decide_eq_true_eq] at h
      exact s_glob O h.1.1 h.1.2 h.2
    · cases h
  | .bin op a c, b, x, X, O, h => by
    simp only [agE] at h
    split at h
    · simp only [Bool.and_eq_true, decide_eq_true_eq] at h
      obtain ⟨⟨rfl, h1⟩, h2⟩ := h
      exact s_bin (sE a false _ X O h1) (sE c false _ X O h2)
    · cases h
  | .neg a, b, x, X, O, h => by
    simp only [agE] at h
    split at h
    · exact s_neg (sE a false _ X O h)
    · cases h
  | .not a, b, x, X, O, h => by
    simp only [agE] at h
    split at h
    · exact s_not (sE a false _ X O h)
    · cases h
  | .cmp op a c, b, x, X, O, h => by
    simp only [agE] at h
    split at h
    · simp only [Bool.and_eq_true, decide_eq_true_eq, Bool.not_eq_true'] at h
      obtain ⟨⟨⟨rfl, h1⟩, h2⟩, h3⟩ := h
      exact s_cmp O (sE a true _ X O h1) (sE c true _ X O h2) h3
    · cases h
  | .chain o1 o2 a c d, b, x, X, O, h => by
    simp only [agE] at h
    split at h
    · simp only [Bool.and_eq_true, decide_eq_true_eq, Bool.not_eq_true'] at h
      obtain ⟨⟨⟨⟨⟨rfl, rfl⟩, h1⟩, h2⟩, h3⟩, h4⟩ := h
      exact s_chain O (sE a false _ X O h1) (sE c false _ X O h2) (sE d false _ X O h3) h4
    · cases h
  | .and a c, b, x, X, O, h => by
    simp only [agE] at h
    split at h
    · simp only [Bool.and_eq_true] at h
      exact s_and (sE a false _ X O h.1) (sE c false _ X O h.2)
    · cases h
  | .or a c, b, x, X, O, h => by
    simp only [agE] at h
    split at h
    · simp only [Bool.and_eq_true] at h
      exact s_or (sE a false _ X O h.1) (sE c false _ X O h.2)
    · cases h
  | .ite c a d, b, x, X, O, h => by
    simp only [agE] at h
    split at h
    · simp only [Bool.and_eq_true] at h
      exact s_ite (sT c _ X O h.1.1) (sE a false _ X O h.1.2) (sE d false _ X O h.2)
    · cases h
  | .tup es, b, x, X, O, h => by
    simp only [agE] at h
    split at h
    · exact s_tup (sEs es _ X O h)
    · cases h
  | .fz n, b, x, X, O, h => s_fz (sN n x X O (by simpa only [agE] using h))
  | .new n, b, x, X, O, h => s_new (sN n x X O (by simpa only [agE] using h))
  | .sub a i, b, x, X, O, h => by
    simp only [agE] at h
    split at h
    · simp only [Bool.and_eq_true] at h
      exact s_sub O (sE a true _ X O h.1.1) (sE i false _ X O h.1.2) h.2
    · cases h
  | .slice a lo hi, b, x, X, O, h => by
    simp only [agE] at h
    split at h
    · simp only [Bool.and_eq_true] at h
      exact s_slice (sE a false _ X O h.1.1) (sO lo _ X O h.1.2) (sO hi _ X O h.2)
    · cases h
  | .call f es, b, x, X, O, h => by
    simp only [agE] at h
    split at h
    · simp only [Bool.and_eq_true, decide_eq_true_eq] at h
      obtain ⟨⟨⟨h0, h1⟩, h2⟩, h3⟩ := h
      obtain ⟨q1, q2⟩ := agEs_all h3
      exact s_call O h0 h1 h2 q1 q2 (sEs es _ X O h3)
    · cases h
  | .blt bt es, b, x, X, O, h => by
    simp only [agE] at h
    split at h
    · simp only [Bool.and_eq_true, decide_eq_true_eq] at h
      obtain ⟨⟨h0, h1⟩, h3⟩ := h
      exact s_blt O h0 h1 (agEs_all h3).1 (sBs es _ X O h3)
    · cases h
  | .isi a t, b, x, X, O, h => by
    simp only [agE] at h
    split at h
    · simp only [Bool.and_eq_true, decide_eq_true_eq] at h
      obtain ⟨⟨⟨⟨⟨⟨h0, h1⟩, h2⟩, h3⟩, h4⟩, h5⟩, h6⟩ := h
      exact s_isi O h0 h1 h2 h3 h6 h5 (sE a true _ X O h4)
    · cases h
  | .smt m o a, b, x, X, O, h => by
    simp only [agE] at h
    split at h
    · simp only [Bool.and_eq_true] at h
      obtain ⟨⟨⟨⟨⟨h0, h1⟩, h2⟩, h3⟩, h4⟩, h5⟩ := h
      exact s_smt h0 (sE o false _ X O h1) (sE a true _ X O h2) h3 h4 h5
    · cases h
  | .attr a f, b, x, X, O, h => by
    simp only [agE] at h
    split at h
    · simp only [Bool.and_eq_true, decide_eq_true_eq] at h
      obtain ⟨⟨rfl, h1⟩, h2⟩ := h
      exact s_attr O (sE a false _ X O h1) h2
    · cases h
  | .mcall o m es, b, x, X, O, h => by
    simp only [agE] at h
    split at h
    · simp only [Bool.and_eq_true, decide_eq_true_eq] at h
      obtain ⟨⟨⟨⟨⟨rfl, h1⟩, h2⟩, h3⟩, h4⟩, h5⟩ := h
      exact s_mcall O (sE o false _ X O h1) h3 h4 (agEs_all h2).1 h5 (agEs_all h2).2 (sEs es _ X O h2)
    · cases h
  | .make c es, b, x, X, O, h => by
    simp only [agE] at h
    split at h
    · simp only [Bool.and_eq_true, decide_eq_true_eq] at h
      obtain ⟨⟨⟨h0, h1⟩, h2⟩, h3⟩ := h
      exact s_make O h0 h1 h2 (agEs_all h3).1 (sEs es _ X O h3)
    · cases h
  | .tru a, b, x, X, O, h => fun ρ h' Q σ cs F H R S V w p => by simp only [WpE] at w
  | .isC a c, b, x, X, O, h => by
    simp only [agE] at h
    split at h
    · simp only [Bool.and_eq_true, decide_eq_true_eq] at h
      obtain ⟨⟨⟨⟨⟨⟨h0, h1⟩, h2⟩, h3⟩, h4⟩, h5⟩, h6⟩ := h
      exact s_isC O h0 h1 h2 h3 h4 h6 (sE a false _ X O h5)
    · cases h
  | .gIn neg a g, b, x, X, O, h => by
    simp only [agE] at h
    split at h
    · simp only [Bool.and_eq_true, decide_eq_true_eq, Bool.not_eq_true'] at h
      obtain ⟨⟨⟨⟨⟨h0, h1⟩, h2⟩, h3⟩, h4⟩, h5⟩ := h
      exact s_gIn O h0 h2 h3 h4 h5 (sE a false _ X O h1)
    · cases h
  | .gGet g a, b, x, X, O, h => by
    simp only [agE] at h
    split at h
    · simp only [Bool.and_eq_true, decide_eq_true_eq] at h
      obtain ⟨⟨⟨⟨h0, h1⟩, h2⟩, h3⟩, h4⟩ := h
      exact s_gGet O h0 h1 h2 h4 (sE a false _ X O h3)
    · cases h
  | .idx l a, b, x, X, O, h => by
    simp only [agE] at h
    split at h
    · simp only [Bool.and_eq_true, decide_eq_true_eq] at h
      obtain ⟨⟨⟨⟨⟨h0, h1⟩, h2⟩, h3⟩, h4⟩, h5⟩ := h
      exact s_idx h0 (sE l true _ X O h1) (sE a false _ X O h2) h3 h4 h5
    · cases h
  | .revT a, b, x, X, O, h => by
    simp only [agE] at h
    split at h
    · exact s_revT (sE a false _ X O h)
    · cases h
theorem sT : ∀ (e : E) (x : Expr) (X : Cx), XOk C T Cl X → agE T X.env.scope X.N e x = true → ST C Cl X e x
  | .and a c, x, X, O, h => by
    simp only [agE] at h
    split at h
    · simp only [Bool.and_eq_true] at h
      exact s_andT (sT a _ X O h.1) (sT c _ X O h.2)
    · cases h
  | .or a c, x, X, O, h => by
    simp only [agE] at h
    split at h
    · simp only [Bool.and_eq_true] at h
      exact s_orT (sT a _ X O h.1) (sT c _ X O h.2)
    · cases h
  | .not a, x, X, O, h => by
    simp only [agE] at h
    split at h
    · exact s_notT (sT a _ X O h)
    · cases h
  | .cmp op a c, x, X, O, h => by
    simp only [agE] at h
    split at h
    · simp only [Bool.and_eq_true, decide_eq_true_eq, Bool.not_eq_true'] at h
      obtain ⟨⟨⟨rfl, h1⟩, h2⟩, h3⟩ := h
      exact s_cmpT O (sE a true _ X O h1) (sE c true _ X O h2) h3
    · cases h
  | .chain o1 o2 a c d, x, X, O, h => by
    simp only [agE] at h
    split at h
    · simp only [Bool.and_eq_true, decide_eq_true_eq, Bool.not_eq_true'] at h
      obtain ⟨⟨⟨⟨⟨rfl, rfl⟩, h1⟩, h2⟩, h3⟩, h4⟩ := h
      exact s_chainT O (sE a false _ X O h1) (sE c false _ X O h2) (sE d false _ X O h3) h4
    · cases h
  | .tru a, x, X, O, h => by
    simp only [agE, Bool.and_eq_true] at h
    exact s_truT (sE a false _ X O h.1) h.2
  | .cbl k, x, X, O, h => fun ρ h' Q σ cs F H R S V w p => by
    simp only [agE] at h
    split at h
    · have e := of_decide_eq_true h
      subst e
      simp only [WpT] at w
      exact wt_of (pt_truth pe_bl (plainT_ok rfl _)) ⟨_, rfl, p _ _ _ _ _ .refl S w⟩
    · cases h
  | .gIn neg a g, x, X, O, h => by
    simp only [agE] at h
    split at h
    · simp only [Bool.and_eq_true, decide_eq_true_eq, Bool.not_eq_true'] at h
      obtain ⟨⟨⟨⟨⟨h0, h1⟩, h2⟩, h3⟩, h4⟩, h5⟩ := h
      exact s_gInT O h0 h2 h3 h4 h5 (sE a false _ X O h1)
    · cases h
  | .isC _ _, _, _, _, _ => fun ρ h' Q σ cs F H R S V w p => by simp only [WpT] at w
  | .gGet _ _, _, _, _, _ => fun ρ h' Q σ cs F H R S V w p => by simp only [WpT] at w
  | .idx _ _, _, _, _, _ => fun ρ h' Q σ cs F H R S V w p => by simp only [WpT] at w
  | .revT _, _, _, _, _ => fun ρ h' Q σ cs F H R S V w p => by simp only [WpT] at w
  | .var _, _, _, _, _ => fun ρ h' Q σ cs F H R S V w p => by simp only [WpT] at w
  | .vw _, _, _, _, _ => fun ρ h' Q σ cs F H R S V w p => by simp only [WpT] at w
  | .cint _, _, _, _, _ => fun ρ h' Q σ cs F H R S V w p => by simp only [WpT] at w
  | .cstr _, _, _, _, _ => fun ρ h' Q σ cs F H R S V w p => by simp only [WpT] at w
  | .cnon, _, _, _, _ => fun ρ h' Q σ cs F H R S V w p => by simp only [WpT] at w
  | .glob _, _, _, _, _ => fun ρ h' Q σ cs F H R S V w p => by simp only [WpT] at w
  | .bin _ _ _, _, _, _, _ => fun ρ h' Q σ cs F H R S V w p => by simp only [WpT] at w
  | .neg _, _, _, _, _ => fun ρ h' Q σ cs F H R S V w p => by simp only [WpT] at w
  | .ite _ _ _, _, _, _, _ => fun ρ h' Q σ cs F H R S V w p => by simp only [WpT] at w
  | .tup _, _, _, _, _ => fun ρ h' Q σ cs F H R S V w p => by simp only [WpT] at w
  | .fz _, _, _, _, _ => fun ρ h' Q σ cs F H R S V w p => by simp only [WpT] at w
  | .new _, _, _, _, _ => fun ρ h' Q σ cs F H R S V w p => by simp only [WpT] at w
  | .sub _ _, _, _, _, _ => fun ρ h' Q σ cs F H R S V w p => by simp only [WpT] at w
  | .slice _ _ _, _, _, _, _ => fun ρ h' Q σ cs F H R S V w p => by simp only [WpT] at w
  | .call _ _, _, _, _, _ => fun ρ h' Q σ cs F H R S V w p => by simp only [WpT] at w
  | .blt _ _, _, _, _, _ => fun ρ h' Q σ cs F H R S V w p => by simp only [WpT] at w
  | .isi _ _, _, _, _, _ => fun ρ h' Q σ cs F H R S V w p => by simp only [WpT] at w
  | .smt _ _ _, _, _, _, _ => fun ρ h' Q σ cs F H R S V w p => by simp only [WpT] at w
  | .attr _ _, _, _, _, _ => fun ρ h' Q σ cs F H R S V w p => by simp only [WpT] at w
  | .mcall _ _ _, _, _, _, _ => fun ρ h' Q σ cs F H R S V w p => by simp only [WpT] at w
  | .make _ _, _, _, _, _ => fun ρ h' Q σ cs F H R S V w p => by simp only [WpT] at w
theorem sEs : ∀ (es : Es) (xs : List Expr) (X : Cx), XOk C T Cl X → agEs T X.env.scope X.N es xs = true → SA C Cl X es xs
  | .nil, xs, X, O, h => by
    simp only [agEs] at h
    split at h
    · exact s_nil
    · cases h
  | .cons e es, xs, X, O, h => by
    simp only [agEs] at h
    split at h
    · simp only [Bool.and_eq_true] at h
      exact s_cons (sE e false _ X O h.1.1) (sEs es _ X O h.2) h.1.2
    · cases h
theorem sBs : ∀ (es : Es) (xs : List Expr) (X : Cx), XOk C T Cl X → agEs T X.env.scope X.N es xs = true → SB C Cl X es xs
  | .nil, xs, X, O, h => by
    simp only [agEs] at h
    split at h
    · exact s_nilB
    · cases h
  | .cons e es, xs, X, O, h => by
    simp only [agEs] at h
    split at h
    · simp only [Bool.and_eq_true] at h
      exact s_consB (sE e true _ X O h.1.1) (sBs es _ X O h.2) h.1.2
    · cases h
theorem sO : ∀ (e : Oe) (x : Option Expr) (X : Cx), XOk C T Cl X → agO T X.env.scope X.N e x = true → SO C Cl X e x
  | .no, x, X, O, h => by
    simp only [agO] at h
    split at h
    · exact s_no
    · cases h
  | .so e, x, X, O, h => by
    simp only [agO] at h
    split at h
    · exact s_so (sE e false _ X O h)
    · cases h
theorem sC : ∀ (e : Oe) (c : Expr) (e' : E), e = .so e' → ∀ (X : Cx), XOk C T Cl X → agC T X.env.scope X.N e c = true → ST C Cl X e' c
  | .no, c, e', q, X, O, h => by cases q
  | .so e, c, e', q, X, O, h => by
    have q2 : e = e' := by injection q
    rw [← q2]
    exact sT e c X O (by simpa only [agC] using h)
theorem sN : ∀ (n : Nw) (x : Expr) (X : Cx), XOk C T Cl X → agN T X.env.scope X.N n x = true → SN C Cl X n x
  | .lst es, x, X, O, h => by
    simp only [agN] at h
    split at h
    · exact n_lst (sEs es _ X O h)
    · cases h
  | .comp elt tg it cond own, x, X, O, h => by
    simp only [agN] at h
    split at h
    · rename_i y t i ifs a scope pos
      simp only [Bool.and_eq_true, decide_eq_true_eq] at h
      obtain ⟨⟨⟨⟨⟨⟨⟨⟨rfl, hb⟩, ho⟩, ht⟩, hi⟩, hzz⟩, hs⟩, he⟩, hc⟩ := h
      have K : CompOk C T Cl X elt tg it cond own y t i ifs scope := by
        refine ⟨blkOk_by hb, fun j hj => by simpa using List.all_eq_true.mp ho j hj, ht, sI it true t i X O hi (fun _ => rfl) hzz, hs, fun s H0 D cl fp => sE elt false y _ (O.blk s H0 scope cl D fp) he, ?_⟩
        split at hc
        · split at hc
          · exact .inl ⟨rfl, rfl⟩
          · cases hc
        · rename_i c
          obtain ⟨e', q1⟩ := agC_so hc
          exact .inr ⟨c, e', rfl, q1, fun s H0 D cl fp => sC cond c e' q1 _ (O.blk s H0 scope cl D fp) hc⟩
        · cases hc
      exact K.sn O
    · cases h
  | .slice a lo hi, x, X, O, h => by
    simp only [agN] at h
    split at h
    · simp only [Bool.and_eq_true] at h
      exact n_slice (sE a true _ X O h.1.1) (sO lo _ X O h.1.2) (sO hi _ X O h.2)
    · cases h
  | .listOf a, x, X, O, h => by
    simp only [agN] at h
    split at h
    · simp only [Bool.and_eq_true, decide_eq_true_eq] at h
      exact n_list O h.1.1.1 h.1.1.2 h.2 (sE a true _ X O h.1.2)
    · cases h
  | .cat a c, x, X, O, h => by
    simp only [agN] at h
    split at h
    · simp only [Bool.and_eq_true, decide_eq_true_eq] at h
      obtain ⟨⟨rfl, h1⟩, h2⟩ := h
      exact n_cat (sE a true _ X O h1) (sE c true _ X O h2)
    · cases h
  | .rep a c, x, X, O, h => by
    simp only [agN] at h
    split at h
    · simp only [Bool.and_eq_true, decide_eq_true_eq] at h
      obtain ⟨⟨rfl, h1⟩, h2⟩ := h
      exact n_rep (sE a true _ X O h1) (sE c false _ X O h2)
    · cases h
  | .rev a, x, X, O, h => by
    simp only [agN] at h
    split at h
    · exact n_rev (sE a true _ X O h)
    · cases h
  | .dct1 k v, x, X, O, h => by
    simp only [agN] at h
    split at h
    · simp only [Bool.and_eq_true] at h
      exact n_dct1 (sE k false _ X O h.1) (sE v false _ X O h.2)
    · cases h
  | .split o a, x, X, O, h => by
    simp only [agN] at h
    split at h
    · simp only [Bool.and_eq_true, decide_eq_true_eq] at h
      obtain ⟨⟨⟨⟨⟨h0, h1⟩, h2⟩, h3⟩, h4⟩, h5⟩ := h
      exact n_split h0 (sE o false _ X O h1) (sE a false _ X O h2) h3 h4 h5
    · cases h
  | .dct0, x, X, O, h => by
    simp only [agN] at h
    split at h
    · exact n_dct0
    · cases h
  | .dictOf a, x, X, O, h => by
    simp only [agN] at h
    split at h
    · simp only [Bool.and_eq_true, decide_eq_true_eq] at h
      exact n_dictOf O h.1.1.1 h.1.1.2 h.2 (sE a false _ X O h.1.2)
    · cases h
  | .sorted a, x, X, O, h => by
    simp only [agN] at h
    split at h
    · simp only [Bool.and_eq_true, decide_eq_true_eq] at h
      exact n_sorted O h.1.1.1 h.1.1.2 h.2 (sE a false _ X O h.1.2)
    · cases h
  | .rngL a c, x, X, O, h => by
    simp only [agN] at h
    split at h
    · simp only [Bool.and_eq_true, decide_eq_true_eq] at h
      obtain ⟨⟨⟨⟨⟨⟨⟨h0, h1⟩, h2⟩, h3⟩, h4⟩, h5⟩, h6⟩, h7⟩ := h
      exact n_rngL O h0 h1 h2 h3 h5 h7 (sE a false _ X O h4) (sE c false _ X O h6)
    · cases h
theorem sI : ∀ (it : It) (st : Bool) (tg x : Expr) (X : Cx), XOk C T Cl X → agI T X.env.scope X.N it x = true → ((∃ i, it = .own i) → st = true) → zipOk it tg = true → SI C Cl X st tg it x
  | .rng1 a, st, tg, x, X, O, h, _, _ => by
    simp only [agI] at h
    split at h
    · simp only [Bool.and_eq_true, decide_eq_true_eq] at h
      exact i_rng1 O h.1.1.1 h.1.1.2 h.2 (sE a false _ X O h.1.2)
    · cases h
  | .rng2 a c, st, tg, x, X, O, h, _, _ => by
    simp only [agI] at h
    split at h
    · simp only [Bool.and_eq_true, decide_eq_true_eq] at h
      obtain ⟨⟨⟨⟨⟨h0, h1⟩, h2⟩, h3⟩, h4⟩, h5⟩ := h
      exact i_rng2 O h0 h1 h3 h5 (sE a false _ X O h2) (sE c false _ X O h4)
    · cases h
  | .seq a, st, tg, x, X, O, h, _, _ => i_seq (sE a false _ X O (by simpa only [agI] using h))
  | .own i, st, tg, x, X, O, h, hst, _ => by
    have e := hst ⟨i, rfl⟩
    subst e
    exact i_own (by simpa only [agI] using h)
  | .chars a, st, tg, x, X, O, h, _, _ => i_chars (sE a false _ X O (by simpa only [agI] using h))
  | .keys a, st, tg, x, X, O, h, _, _ => i_keys (sE a false _ X O (by simpa only [agI] using h))
  | .zip a c, st, tg, x, X, O, h, _, hz => by
    simp only [agI] at h
    split at h
    · simp only [Bool.and_eq_true, decide_eq_true_eq] at h
      obtain ⟨⟨⟨⟨⟨h0, h1⟩, h2⟩, h3⟩, h4⟩, h5⟩ := h
      have ht : ∃ es k tp, tg = .Tuple es k tp := by
        unfold zipOk at hz
        simp only at hz
        split at hz
        · exact ⟨_, _, _, rfl⟩
        · cases hz
      exact i_zip O h0 h1 h3 h5 ht (sE a false _ X O h2) (sE c false _ X O h4)
    · cases h
end
end
end VL

set_option maxRecDepth 100000
set_option maxHeartbeats 4000000
/-! VL: statements, defs. -/
namespace VL
open PySem L2 Evl PyProof.Rows PySem.Spec

/-! ### agreement -/
def notComp : Expr → Bool
  | .ListComp _ _ _ _ => false
  | .SetComp _ _ _ _ => false
  | .DictComp _ _ _ _ _ => false
  | _ => true
def notTup : Expr → Bool
  | .Tuple _ _ _ => false
  | _ => true
def compN : E → Option Nw
  | .fz (.comp a b c d e) => some (.comp a b c d e)
  | .new (.comp a b c d e) => some (.comp a b c d e)
  | _ => none
def isCompN : Nw → Bool
  | .comp _ _ _ _ _ => true
  | _ => false
def agApp (x : Expr) : Option (Expr × Expr) := match x with
  | .Call (.Attribute o nm apos) [y] [] cpos => if (decide (nm = "append") && notSup o && (apos.endLine == cpos.line) && notStar y) = true then some (o, y) else none
  | _ => none
mutual
def agS (T : Tab) (sc : Scope) (N : List Str) : S → Stmt → Bool
  | .asg tg e, st => match st with
    | .Assign [t] x _ => agTg sc sc N tg t && agE T sc N e x && (match tg with
      | .nm _ => notComp x || (compN e).isSome
      | .tup _ => notTup x && notComp x)
    | _ => false
  | .asgO i n, st => match st with
    | .Assign [t] x _ => agTg sc sc N (.nm i) t && agN T sc N n x && (notComp x || isCompN n)
    | _ => false
  | .frz _, _ => false
  | .par _ _ _ _, _ => false
  | .aug i op e, st => match st with
    | .AugAssign (.Name id _) o x _ => decide (N[i]? = some id) && tgN sc sc id && decide (op = o) && (decide (op = .Add) || decide (op = .Sub)) && agE T sc N e x
    | _ => false
  | .app i e, st => match st with
    | .Expr x _ => match agApp x with
      | some (o, y) => agVar sc N i o && agE T sc N e y
      | none => false
    | _ => false
  | .appE o e, st => match st with
    | .Expr x _ => match agApp x with
      | some (o', y) => agE T sc N o o' && agE T sc N e y
      | none => false
    | _ => false
  | .put i k e, st => match st with
    | .Assign [.Subscript o k' _] x _ => agVar sc N i o && agE T sc N k k' && agE T sc N e x && notSlice k'
    | _ => false
  | .putE o k e, st => match st with
    | .Assign [.Subscript o' k' _] x _ => agE T sc N o o' && agE T sc N k k' && agE T sc N e x && notSlice k'
    | _ => false
  | .fld o f e, st => match st with
    | .Assign [.Attribute o' g _] x _ => decide (f = g) && agE T sc N o o' && agE T sc N e x
    | _ => false
  | .expr e, st => match st with
    | .Expr x _ => agE T sc N e x && notComp x
    | _ => false
  | .ret e, st => match st with
    | .Return (some x) _ => agE T sc N e x
    | _ => false
  | .retN, st => match st with
    | .Return none _ => true
    | _ => false
  | .ite c a b, st => match st with
    | .If x p q _ => agE T sc N c x && agSs T sc N a p && agSs T sc N b q
    | _ => false
  | .wh c b, st => match st with
    | .While x p [] _ => agE T sc N c x && agSs T sc N b p
    | _ => false
  | .for tg it b, st => match st with
    | .For t x p [] _ => agTg sc sc N tg t && agI T sc N it x && zipOk it t && notSet x && (match it with | .own _ => false | _ => true) && agSs T sc N b p
    | _ => false
  | .pass, st => match st with
    | .Pass _ => true
    | _ => false
  | .brk, st => match st with
    | .Break _ => true
    | _ => false
  | .cont, st => match st with
    | .Continue _ => true
    | _ => false
  | .bad, _ => true
  | .rse c e, st => match st with
    | .Raise (some (.Call (.Name x _) [a] [] _)) none _ => decide (T.ename c = some x) && glB sc x && plainName x && notStar a && agE T sc N e a
    | _ => false
def agSs (T : Tab) (sc : Scope) (N : List Str) : Ss → List Stmt → Bool
  | .nil, st => match st with
    | [] => true
    | _ => false
  | .cons s r, st => match s with
    | .frz _ => agSs T sc N r st
    | s => match st with
      | x :: xs => agS T sc N s x && agSs T sc N r xs
      | [] => false
end

/-! ### what stands between statements: base of the innermost loop (csb, Fb), the def's entry (cs0, F0, H0) -/
structure Nt (K : PySem.W.Frag) (Cl : Nat → Addr) (csb : List Addr) (Fb : Hp) (cs0 : List Addr) (F0 H0 : Hp) (cs : List Addr) (F H : Hp) (h : AHeap) (σ : L2.St) (ρ : Env) : Prop where
  S : StOk K Cl cs F H h
  V : EnvOk K Cl cs F H σ ρ
  x : Stp cs0 F0 H0 cs F H
  o : ∀ i c a, getS ρ i = .own c → σ[i]? = some (some (.ref a)) → H0 a = none
  y : Ex Fb F ∧ ∃ r, cs = csb ++ r
structure DOk (X : Cx) (Cl : Nat → Addr) (csb : List Addr) (Fb : Hp) (cs0 : List Addr) (F0 H0 : Hp) (D : Kt) (D' : Ends) : Prop where
  nx : ∀ cs F H h σ ρ, Nt X.K Cl csb Fb cs0 F0 H0 cs F H h σ ρ → D.nx ρ h → D'.nx σ H
  rt : ∀ v d cs F H h, Stp cs0 F0 H0 cs F H → StOk X.K Cl cs F H h → Rep X.K cs F v d → D.rt d h → D'.rt v H
  bk : ∀ cs F H h σ ρ, Nt X.K Cl csb Fb cs0 F0 H0 cs F H h σ ρ → D.bk ρ h → D'.bk σ H
  ct : ∀ cs F H h σ ρ, Nt X.K Cl csb Fb cs0 F0 H0 cs F H h σ ρ → D.ct ρ h → D'.ct σ H
  ex : ∃ W : WX, Takes X W ∧ ∀ c n cs F H h σ ρ, Nt X.K Cl csb Fb cs0 F0 H0 cs F H h σ ρ → D.ex c n h → ∀ dd, H dd = none → W (.ref (Cl c)) (some dd) σ (upd H dd (.xd [("row", .int n)]))
/-- a class whose exceptions keep a row -/
structure ExcM (X : Cx) (x : Str) (C : Addr) : Prop where
  mg : X.mg x = some (.ref C)
  ox : OexC X.K C
  row : PySem.W.findIn X.K (.ref C) "row" = some none
  ini : ∃ fI k fd, PySem.W.findIn X.K (.ref C) "__init__" = some (some (.ref fI)) ∧ PySem.W.typeIn X.K (.ref fI) = some (.type "function") ∧ FnOk X.prog X.w X.K X.mg X.base CX0 k fI fd ["self", "row"] (spRow X.K) ∧ Room (k + 1) X.A ∧ Binds X.K fd ["self", "row"] []
structure SOk (C : Ctx) (T : Tab) (Cl : Nat → Addr) (X : Cx) : Prop extends XOk C T Cl X where
  exc : ∀ c x, T.ename c = some x → ExcM X x (Cl c)
  pass : PassesOwn (model X.prog X.w) X.A X.env X.xe
  sto : Sto X.env.scope X
def WS (X : Cx) (st : Stmt) : TS := fun D σ H => ∀ pins s, Inv X pins σ H s → wpAny (model X.prog X.w) X.A (exec st X.env) (SP X pins D) X.xe s
def WSs (X : Cx) (st : List Stmt) : TS := fun D σ H => ∀ pins s, Inv X pins σ H s → wpAny (model X.prog X.w) X.A (execs st X.env) (SP X pins D) X.xe s
section
variable {X : Cx}
theorem ps_we {e : Stmt} : PS X e (WS X e) := ⟨fun pins s σ H D I h => h pins s I⟩
theorem pss_we {e : List Stmt} : PSs X e (WSs X e) := ⟨fun pins s σ H D I h => h pins s I⟩
theorem ws_of {e : Stmt} {t : TS} (p : PS X e t) {σ : L2.St} {H : Hp} {D : Ends} (h : t D σ H) : WS X e D σ H := fun pins s I => p.run pins s σ H D I h
theorem wss_of {e : List Stmt} {t : TS} (p : PSs X e t) {σ : L2.St} {H : Hp} {D : Ends} (h : t D σ H) : WSs X e D σ H := fun pins s I => p.run pins s σ H D I h
end
section
variable (C : Ctx) (Cl : Nat → Addr)
def SS (X : Cx) (s : S) (st : Stmt) : Prop := ∀ csb Fb cs0 F0 H0 D D' ρ h σ cs F H, DOk X Cl csb Fb cs0 F0 H0 D D' → Nt X.K Cl csb Fb cs0 F0 H0 cs F H h σ ρ → WpS C s D ρ h → WS X st D' σ H
def SSs (X : Cx) (s : Ss) (st : List Stmt) : Prop := ∀ csb Fb cs0 F0 H0 D D' ρ h σ cs F H, DOk X Cl csb Fb cs0 F0 H0 D D' → Nt X.K Cl csb Fb cs0 F0 H0 cs F H h σ ρ → WpSs C s D ρ h → WSs X st D' σ H
end
section
variable {C : Ctx} {T : Tab} {Cl : Nat → Addr} {X : Cx} {K : PySem.W.Frag} {csb cs0 cs cs' : List Addr} {Fb F0 H0 F F' H H' : Hp} {h h' : AHeap} {σ σ' : L2.St} {ρ ρ' : Env}
theorem Nt.step (n : Nt K Cl csb Fb cs0 F0 H0 cs F H h σ ρ) (x : Stp cs F H cs' F' H') (S : StOk K Cl cs' F' H' h') : Nt K Cl csb Fb cs0 F0 H0 cs' F' H' h' σ ρ :=
  ⟨S, n.V.step x, n.x.trans x, n.o, n.y.1.trans x.f, by
    obtain ⟨r, e⟩ := n.y.2
    obtain ⟨r2, e2⟩ := x.c
    exact ⟨r ++ r2, by rw [e2, e, List.append_assoc]⟩⟩
theorem Nt.setV (n : Nt K Cl csb Fb cs0 F0 H0 cs F H h σ ρ) {i : Nat} {v : L2.V} {d : AV} (r : Rep K cs F v d) : Nt K Cl csb Fb cs0 F0 H0 cs F H h (σ.set i (some v)) (setS ρ i (.val d)) :=
  ⟨n.S, n.V.setV r, n.x, fun j c a h1 h2 => by
    by_cases hj : i = j
    · subst hj
      by_cases hi : i < ρ.length
      · rw [getS_set_same hi] at h1; cases h1
      · rw [setS_out (by omega)] at h1
        exact absurd (getS_lt (ρ := ρ) (i := i) (by rw [h1]; simp)) hi
    · rw [getS_set_ne hj] at h1
      rw [List.getElem?_set_ne hj] at h2
      exact n.o j c a h1 h2, n.y⟩
theorem upd_self {H : Hp} {a : Addr} {o : HO} (e : H a = some o) : upd H a o = H := by
  funext b
  unfold upd
  split
  · rename_i q; rw [q, e]
  · rfl
theorem set_self {σ : L2.St} {i : Nat} {v : Option V} (e : σ[i]? = some v) : σ.set i v = σ := by
  apply List.ext_getElem?
  intro j
  by_cases hj : i = j
  · subst hj
    rw [List.getElem?_set_self (List.getElem?_eq_some_iff.mp e).1, e]
  · rw [List.getElem?_set_ne hj]
/-- a slot's own cell -/
theorem Nt.setO (n : Nt K Cl csb Fb cs0 F0 H0 cs F H h σ ρ) {i : Nat} {a : Addr} {c : Cell} {o : HO} (n0 : H0 a = none) (n1 : a ∉ cs) (n2 : F a = none) (r : COk K Cl cs F (upd H a o) a c)
    (old : ∀ j c', j ≠ i → getS ρ j = .own c' → σ[j]? ≠ some (some (.ref a))) : Nt K Cl csb Fb cs0 F0 H0 cs F (upd H a o) h (σ.set i (some (.ref a))) (setS ρ i (.own c)) :=
  ⟨n.S.chgN n2 n1, n.V.setO n1 n2 r old, n.x.chgNew n0, fun j c a' h1 h2 => by
    by_cases hj : i = j
    · subst hj
      by_cases hi : i < ρ.length
      · rw [List.getElem?_set_self (by rw [← n.V.len]; exact hi)] at h2
        cases h2
        exact n0
      · rw [setS_out (by omega)] at h1
        exact absurd (getS_lt (ρ := ρ) (i := i) (by rw [h1]; simp)) hi
    · rw [getS_set_ne hj] at h1
      rw [List.getElem?_set_ne hj] at h2
      exact n.o j c a' h1 h2, n.y⟩
/-- a slot's own cell becomes a value; a dict is locked from then on -/
theorem Nt.frzC (n : Nt K Cl csb Fb cs0 F0 H0 cs F H h σ ρ) {i : Nat} {c : Cell} {d : AV} {a : Addr} {o : HO} (e : getS ρ i = .own c) (e1 : σ[i]? = some (some (.ref a))) (ho : H a = some o) (rd : Rep K cs (upd F a o) (.ref a) d) : Nt K Cl csb Fb cs0 F0 H0 cs (upd F a o) H h σ (setS ρ i (.val d)) := by
  obtain ⟨a', e1', n1, n2, r⟩ := n.V.own i c e
  rw [e1] at e1'
  cases e1'
  have n0 := n.o i c a e e1
  have ex : Ex F (upd F a o) := Ex.new n2
  have hi : i < ρ.length := getS_lt (by rw [e]; simp)
  have hs : i < σ.length := by rw [← n.V.len]; exact hi
  refine ⟨n.S.freeze n2 n1 ho, ⟨by rw [setS_length]; exact n.V.len, fun j d' h1 => ?_, fun j c' h1 => ?_, fun j k c1 c2 b ne h1 h2 h3 => ?_⟩, ⟨n.x.f.trans ex, n.x.c, n.x.k, n.x.d, fun b q1 q2 => ?_, n.x.m⟩, fun j c' b h1 h2 => ?_, n.y.1.trans ex, n.y.2⟩
  · by_cases hj : i = j
    · subst hj
      rw [getS_set_same hi] at h1
      cases h1
      exact ⟨_, e1, rd⟩
    · rw [getS_set_ne hj] at h1
      obtain ⟨v, g1, g2⟩ := n.V.val j d' h1
      exact ⟨v, g1, g2.mono ex ⟨[], by simp⟩⟩
  · have hj : i ≠ j := fun z => by subst z; rw [getS_set_same hi] at h1; cases h1
    rw [getS_set_ne hj] at h1
    obtain ⟨b, g1, g2, g3, g4⟩ := n.V.own j c' h1
    refine ⟨b, g1, g2, ?_, g4.mono ex ⟨[], by simp⟩ fun _ z => z⟩
    rw [upd_ne]
    · exact g3
    · intro z
      subst z
      exact n.V.dis i j c c' b hj e h1 e1 g1
  · have h1' : i ≠ j := fun z => by subst z; rw [getS_set_same hi] at h1; cases h1
    have h2' : i ≠ k := fun z => by subst z; rw [getS_set_same hi] at h2; cases h2
    rw [getS_set_ne h1'] at h1
    rw [getS_set_ne h2'] at h2
    exact n.V.dis j k c1 c2 b ne h1 h2 h3
  · by_cases hb : b = a
    · subst hb; exact n0
    · rw [upd_ne hb] at q2
      exact n.x.n b q1 q2
  · have hj : i ≠ j := fun z => by subst z; rw [getS_set_same hi] at h1; cases h1
    rw [getS_set_ne hj] at h1
    exact n.o j c' b h1 h2
theorem Nt.frz (n : Nt K Cl csb Fb cs0 F0 H0 cs F H h σ ρ) {i : Nat} {xs : List AV} (e : getS ρ i = .own (.lst xs)) : ∃ F', Nt K Cl csb Fb cs0 F0 H0 cs F' H h σ (setS ρ i (.val (.lst xs))) := by
  obtain ⟨a, e1, n1, n2, vs, g1, g2⟩ := n.V.own i _ e
  exact ⟨_, n.frzC e e1 g1 (.lst upd_same (g2.mono (Ex.new n2) ⟨[], by simp⟩))⟩
theorem Nt.frzD (n : Nt K Cl csb Fb cs0 F0 H0 cs F H h σ ρ) {i : Nat} {xs : List (Key × AV)} (e : getS ρ i = .own (.dct xs)) : ∃ a us, H a = some (.dK us) ∧ ∀ od, ∃ F', Nt K Cl csb Fb cs0 F0 H0 cs F' (upd H a (.frz od (.dK us))) h σ (setS ρ i (.val (.dct xs))) := by
  obtain ⟨a, e1, n1, n2, us, g1, g2⟩ := n.V.own i _ e
  refine ⟨a, us, g1, fun od => ?_⟩
  have n0 := n.o i _ a e e1
  have hs : i < σ.length := (List.getElem?_eq_some_iff.mp e1).1
  -- the slot is taken away first
  have hi : i < ρ.length := getS_lt (by rw [e]; simp)
  have S1 : StOk K Cl cs F (upd H a (.frz od (.dK us))) h := n.S.chgN n2 n1
  have x1 : Stp cs0 F0 H0 cs F (upd H a (.frz od (.dK us))) := n.x.chgNew n0
  have ex : Ex F (upd F a (.frz od (.dK us))) := Ex.new n2
  refine ⟨upd F a (.frz od (.dK us)), S1.freeze n2 n1 upd_same, ⟨by rw [setS_length]; exact n.V.len, fun j d' h1 => ?_, fun j c' h1 => ?_, fun j k c1 c2 b ne h1 h2 h3 => ?_⟩, ⟨x1.f.trans ex, x1.c, x1.k, x1.d, fun b q1 q2 => ?_, x1.m⟩, fun j c' b h1 h2 => ?_, n.y.1.trans ex, n.y.2⟩
  · by_cases hj : i = j
    · subst hj
      rw [getS_set_same hi] at h1
      cases h1
      exact ⟨_, e1, .dct upd_same (g2.mono ex ⟨[], by simp⟩)⟩
    · rw [getS_set_ne hj] at h1
      obtain ⟨v, g1, g2⟩ := n.V.val j d' h1
      exact ⟨v, g1, g2.mono ex ⟨[], by simp⟩⟩
  · have hj : i ≠ j := fun z => by subst z; rw [getS_set_same hi] at h1; cases h1
    rw [getS_set_ne hj] at h1
    obtain ⟨b, k1, k2, g3, g4⟩ := n.V.own j c' h1
    have ne : b ≠ a := fun z => by subst z; exact n.V.dis i j _ c' b hj e h1 e1 k1
    refine ⟨b, k1, k2, by rw [upd_ne ne]; exact g3, g4.mono ex ⟨[], by simp⟩ fun o z => by rw [upd_ne ne]; exact z⟩
  · have h1' : i ≠ j := fun z => by subst z; rw [getS_set_same hi] at h1; cases h1
    have h2' : i ≠ k := fun z => by subst z; rw [getS_set_same hi] at h2; cases h2
    rw [getS_set_ne h1'] at h1
    rw [getS_set_ne h2'] at h2
    exact n.V.dis j k c1 c2 b ne h1 h2 h3
  · by_cases hb : b = a
    · subst hb; exact n0
    · rw [upd_ne hb] at q2
      exact x1.n b q1 q2
  · have hj : i ≠ j := fun z => by subst z; rw [getS_set_same hi] at h1; cases h1
    rw [getS_set_ne hj] at h1
    exact n.o j c' b h1 h2
theorem DOk.seq {D : Kt} {D' : Ends} {A : Env → AHeap → Prop} {A' : L2.St → Hp → Prop} (d : DOk X Cl csb Fb cs0 F0 H0 D D') (k : ∀ cs F H h σ ρ, Nt X.K Cl csb Fb cs0 F0 H0 cs F H h σ ρ → A ρ h → A' σ H) :
    DOk X Cl csb Fb cs0 F0 H0 { D with nx := A } { D' with nx := A' } := ⟨k, d.rt, d.bk, d.ct, d.ex⟩

/-! ### each statement -/
theorem swaps_plain {x : Expr} (hx : notComp x = true) (t : Option Expr) (l : Nat) (env : PySem.Env) : swapsWith x t l env = pure false := by
  cases x <;> first | rfl | cases hx
theorem swaps_other {x t : Expr} (ht : ∀ id p, t ≠ .Name id p) (l : Nat) (env : PySem.Env) : swapsWith x (some t) l env = pure false := by
  cases x <;> first | rfl | (cases t <;> first | rfl | exact absurd rfl (ht _ _))
def swB (sc scope : Scope) (id : Str) (pl xl : Nat) : Bool := decide (sc.names.lookup id = some .local) && (pl == xl) && !(scope.names.any fun (n, k) => n == id && (k == .local || k == .cell))
theorem sw_false {elt : Expr} {gs : List Comprehension} {scope : Scope} {pos py : Pos} {y : Str} {l : Nat} {env : PySem.Env} (hk : env.scope.kind = .function) (h : swB env.scope scope y py.line pos.line = false) :
    swapsWith (.ListComp elt gs scope pos) (some (.Name y py)) l env = pure false := by
  have hb : env.blockKind = .function := by unfold Env.blockKind; rw [hk]; rfl
  unfold swapsWith
  unfold swB at h
  have ky : (env.kindOf y == some .local) = decide (env.scope.names.lookup y = some .local) := by
    show (env.scope.names.lookup y == some .local) = _
    cases q : env.scope.names.lookup y with
    | none => rfl
    | some k => cases k <;> rfl
  simp only [hb, ky, Expr.pos]
  show pure ((ScopeKind.function == ScopeKind.function && decide (env.scope.names.lookup y = some .local) && (py.line == pos.line)) && !(scope.names.any fun (n, k) => n == y && (k == .local || k == .cell))) = pure false
  have : (ScopeKind.function == ScopeKind.function) = true := rfl
  rw [this, Bool.true_and, h]
/-- a comprehension given to a name -/
theorem comp_set {elt : E} {tg : Tg} {it : It} {cond : Oe} {own : List Nat} {y t i : Expr} {ifs : List Expr} {scope : Scope} {pos spos p' : Pos} {id : Str} {j : Nat} (O : SOk C T Cl X) (Kp : CompOk C T Cl X elt tg it cond own y t i ifs scope)
    (hj : X.N[j]? = some id) (hid : tgN X.env.scope X.env.scope id = true) {ρ : Env} {h : AHeap} {Q : Cell → AHeap → Prop} {D : Ends} (S : StOk X.K Cl cs F H h) (V : EnvOk X.K Cl cs F H σ ρ) (hk : X.env.scope.kind = .function) (w : WpN C (.comp elt tg it cond own) ρ h Q)
    (p : NOk X.K Cl cs F H Q (fun v H1 => D.nx (σ.set j (some v)) H1)) : WS X (.Assign [.Name id p'] (.ListComp y [⟨t, i, ifs, 0⟩] scope pos) spos) D σ H := by
  obtain ⟨s1, s2⟩ := O.sto id hid
  cases hs : swB X.env.scope scope id p'.line pos.line with
  | false => exact ws_of (ps_set O.nd hj s1 pe_we (sw_false hk hs) s2) (Kp.sn O.toXOk _ _ _ _ _ _ _ _ S V w p)
  | true =>
    unfold swB at hs
    simp only [Bool.and_eq_true, decide_eq_true_eq, Bool.not_eq_true'] at hs
    exact ws_of (ps_setLc O.calm O.nd hj hs.1.1 (sw_true hk hs.1.1 hs.1.2 hs.2) pi_we Kp.hb (Kp.pg O.toXOk) Kp.pts Kp.pe (folded_of Kp.hs _)) (Kp.reads O.toXOk _ _ _ _ _ _ _ _ S V w p)
theorem comp_of {elt : E} {tg : Tg} {it : It} {cond : Oe} {own : List Nat} {x : Expr} (O : XOk C T Cl X) (h : agN T X.env.scope X.N (.comp elt tg it cond own) x = true) :
    ∃ y t i ifs scope pos, x = .ListComp y [⟨t, i, ifs, 0⟩] scope pos ∧ CompOk C T Cl X elt tg it cond own y t i ifs scope := by
  simp only [agN] at h
  split at h
  · rename_i y t i ifs a scope pos
    simp only [Bool.and_eq_true, decide_eq_true_eq] at h
    obtain ⟨⟨⟨⟨⟨⟨⟨⟨rfl, hb⟩, ho⟩, ht⟩, hi⟩, hzz⟩, hs⟩, he⟩, hc⟩ := h
    refine ⟨y, t, i, ifs, scope, pos, rfl, blkOk_by hb, fun j hj => by simpa using List.all_eq_true.mp ho j hj, ht, sI it true t i X O hi (fun _ => rfl) hzz, hs, fun s H0 D cl fp => sE elt false y _ (O.blk s H0 scope cl D fp) he, ?_⟩
    split at hc
    · split at hc
      · exact .inl ⟨rfl, rfl⟩
      · cases hc
    · rename_i c
      obtain ⟨e', q1⟩ := agC_so hc
      exact .inr ⟨c, e', rfl, q1, fun s H0 D cl fp => sC cond c e' q1 _ (O.blk s H0 scope cl D fp) hc⟩
    · cases hc
  · cases h
theorem st_asg {tg : Tg} {e : E} {st : Stmt} (O : SOk C T Cl X) (hk : X.env.scope.kind = .function) (hag : agS T X.env.scope X.N (.asg tg e) st = true) : SS C Cl X (.asg tg e) st := fun csb Fb cs0 F0 H0 D D' ρ h σ cs F H d n w => by
  simp only [agS] at hag
  split at hag
  · rename_i t x pos
    simp only [Bool.and_eq_true] at hag
    obtain ⟨⟨ht, he⟩, hx⟩ := hag
    simp only [WpS] at w
    cases tg with
    | nm i =>
      simp only [agTg] at ht
      split at ht
      · rename_i id p'
        simp only [Bool.and_eq_true, decide_eq_true_eq] at ht
        obtain ⟨s1, s2⟩ := O.sto id ht.2
        have fin : EOk X.K Cl false cs F H (fun x h1 => tgK (.nm i) x ρ fun ρ' => D.nx ρ' h1) (fun v H1 => D'.nx (σ.set i (some v)) H1) := fun v d2 cs2 F2 H2 h2 y S r q =>
          d.nx _ _ _ _ _ _ ((n.step y S).setV r.plain) q
        simp only [Bool.or_eq_true] at hx
        rcases hx with hx | hx
        · exact ws_of (ps_set O.nd ht.1 s1 pe_we (swaps_plain hx _ _ _) s2) (sE e false x X O.toXOk he _ _ _ _ _ _ _ _ n.S n.V w fin)
        · cases hc : compN e with
          | none => rw [hc] at hx; cases hx
          | some n0 =>
            unfold compN at hc
            split at hc
            · cases hc
              simp only [agE] at he
              obtain ⟨y, t', i', ifs, scope, pos', rfl, Kp⟩ := comp_of O.toXOk he
              simp only [WpE] at w
              refine comp_set O Kp ht.1 ht.2 n.S n.V hk (Q := fun c h1 => match c with
                | .lst xs => tgK (.nm i) (.lst xs) ρ fun ρ' => D.nx ρ' h1
                | _ => False) ?_ (NOk.fzL fin)
              simp only [WpN] at w ⊢
              exact w
            · cases hc
              simp only [agE] at he
              obtain ⟨y, t', i', ifs, scope, pos', rfl, Kp⟩ := comp_of O.toXOk he
              simp only [WpE] at w
              exact comp_set O Kp ht.1 ht.2 n.S n.V hk w (NOk.new fin)
            · cases hc
      · cases ht
    | tup is =>
      simp only [Bool.and_eq_true] at hx
      have hw : swappedStores [t] x X.env = pure none := by
        cases t <;> first | (simp [agTg] at ht; done) | (cases x <;> first | rfl | cases hx.1)
      have hs : swapsWithSole [t] x pos.line X.env = pure false := swaps_plain hx.2 _ _ _
      refine ws_of (ps_asg pe_we (pg_ok O.nd O.calm O.sto ht) hs hw (by cases t <;> first | (simp [agTg] at ht; done) | rfl)) (sE e false x X O.toXOk he _ _ _ _ _ _ _ _ n.S n.V w fun v d2 cs2 F2 H2 h2 y S r q => ?_)
      have n2 := n.step y S
      -- the names are set one after another
      obtain ⟨xs, ρ', e, hs2, q⟩ := tgK_tup q
      refine gTL_of S.sub r.plain e hs2 fun vs g2 => ?_
      have go : ∀ {is : List Nat} {xs : List AV} {vs : List V} {σ : L2.St} {ρ : Env}, Nt X.K Cl csb Fb cs0 F0 H0 cs2 F2 H2 h2 σ ρ → Reps X.K cs2 F2 vs xs → setsS ρ is xs = some ρ' → gNames is vs σ H2 D'.nx := by
        intro is
        induction is with
        | nil =>
          intro xs vs σ ρ n r e
          cases r with
          | nil => simp [setsS] at e; subst e; exact ⟨rfl, d.nx _ _ _ _ _ _ n q⟩
          | cons _ _ => simp [setsS] at e
        | cons i is ih =>
          intro xs vs σ ρ n r e
          cases r with
          | nil => simp [setsS] at e
          | cons r rs =>
            simp only [setsS] at e
            exact ⟨_, _, rfl, ih (n.setV r) rs e⟩
      exact go n2 g2 hs2
  · cases hag
theorem own_old (V : EnvOk K Cl cs F H σ ρ) {i : Nat} {c : Cell} {a : Addr} (e : getS ρ i = .own c) (q : σ[i]? = some (some (.ref a))) : ∀ j c', j ≠ i → getS ρ j = .own c' → σ[j]? ≠ some (some (.ref a)) := fun j c' hj h1 =>
  V.dis i j c c' a (Ne.symm hj) e h1 q
theorem st_asgO {i : Nat} {m : Nw} {st : Stmt} (O : SOk C T Cl X) (hk : X.env.scope.kind = .function) (hag : agS T X.env.scope X.N (.asgO i m) st = true) : SS C Cl X (.asgO i m) st := fun csb Fb cs0 F0 H0 D D' ρ h σ cs F H d n w => by
  simp only [agS] at hag
  split at hag
  · rename_i t x pos
    simp only [Bool.and_eq_true] at hag
    obtain ⟨⟨ht, he⟩, hx⟩ := hag
    simp only [WpS] at w
    simp only [agTg] at ht
    split at ht
    · rename_i id p'
      simp only [Bool.and_eq_true, decide_eq_true_eq] at ht
      obtain ⟨s1, s2⟩ := O.sto id ht.2
      have fin : NOk X.K Cl cs F H (fun c h1 => D.nx (setS ρ i (.own c)) h1) (fun v H1 => D'.nx (σ.set i (some v)) H1) := fun a c cs2 F2 H2 h2 y S n1 n2 n3 r q => by
        have hs : H2 a ≠ none := r.some
        have n' := n.step y S
        cases ho : H2 a with
        | none => exact absurd ho hs
        | some o =>
          have e : upd H2 a o = H2 := upd_self ho
          have z := n'.setO (i := i) (o := o) (n.x.fresh n1) n3 n2 (by rw [e]; exact r) fun j c' hj h1 h2 => by
            obtain ⟨b, g1, _, _, g4⟩ := n.V.own j c' h1
            rw [g1] at h2
            cases h2
            exact g4.some n1
          rw [e] at z
          exact d.nx _ _ _ _ _ _ z q
      simp only [Bool.or_eq_true] at hx
      rcases hx with hx | hx
      · exact ws_of (ps_set O.nd ht.1 s1 pe_we (swaps_plain hx _ _ _) s2) (sN m x X O.toXOk he _ _ _ _ _ _ _ _ n.S n.V w fin)
      · cases m with
        | comp a b c e f =>
          obtain ⟨y, t', i', ifs, scope, pos', rfl, Kp⟩ := comp_of O.toXOk he
          exact comp_set O Kp ht.1 ht.2 n.S n.V hk w fin
        | _ => cases hx
    · cases ht
  · cases hag
theorem st_aug {i : Nat} {op : Operator} {e : E} {st : Stmt} (O : SOk C T Cl X) (hag : agS T X.env.scope X.N (.aug i op e) st = true) : SS C Cl X (.aug i op e) st := fun csb Fb cs0 F0 H0 D D' ρ h σ cs F H d n w => by
  simp only [agS] at hag
  split at hag
  · rename_i id p' o x pos
    simp only [Bool.and_eq_true, Bool.or_eq_true, decide_eq_true_eq] at hag
    obtain ⟨⟨⟨⟨h1, h2⟩, rfl⟩, h4⟩, h5⟩ := hag
    obtain ⟨s1, s2⟩ := O.sto id h2
    simp only [WpS] at w
    split at w
    · rename_i x0 hx0
      obtain ⟨v0, e0, r0⟩ := n.V.val i x0 hx0
      have fin : ∀ {f : Int → Int → Int}, (∀ x y Q, augK op x y Q → ∃ a b, x = .int a ∧ y = .int b ∧ Q (.int (f a b))) → tAug i (WE X x) (ipI f) D' σ H := by
        intro f hf
        refine ⟨v0, e0, sE e false x X O.toXOk h5 _ _ _ _ _ _ _ _ n.S n.V w fun v1 d1 cs1 F1 H1 h1 x1 S1 r1 q1 => ?_⟩
        obtain ⟨a, b, rfl, rfl, q⟩ := hf _ _ _ q1
        have := r1.int
        subst this
        cases r0
        exact ⟨a, b, rfl, rfl, d.nx _ _ _ _ _ _ ((n.step x1 S1).setV (.int _)) q⟩
      rcases h4 with rfl | rfl
      · refine ws_of (ps_aug O.nd h1 s1 pe_we ip_add s2) (fin fun x y Q q => ?_)
        cases x <;> cases y <;> first | exact ⟨_, _, rfl, rfl, q⟩ | exact q.elim
      · refine ws_of (ps_aug O.nd h1 s1 pe_we ip_sub s2) (fin fun x y Q q => ?_)
        cases x <;> cases y <;> first | exact ⟨_, _, rfl, rfl, q⟩ | exact q.elim
    · exact w.elim
  · cases hag
theorem app_ps {o y : Expr} {x : Expr} {pos : Pos} {to : TE} (hx : agApp x = some (o, y)) (ho : PE X o to) : PS X (.Expr x pos) (tDrop (tBM X.K "list" rAppend to (tCons (WE X y) tNil))) := by
  unfold agApp at hx
  split at hx
  · rename_i o' nm apos y' cpos
    split at hx
    · rename_i hc
      cases hx
      simp only [Bool.and_eq_true, decide_eq_true_eq] at hc
      obtain ⟨⟨⟨rfl, h2⟩, h3⟩, h4⟩ := hc
      refine ps_expr (pe_bm PySem.F.plainAttrs_list PySem.F.slot_list_append PySem.F.type_list_append mt_append ho (pa_cons pe_we pa_nil (star_cons h4 _ _)) (base_of h2 _ _) ?_ h3 (star_cons h4 _ _) rfl) rfl
      rw [star_cons h4]
      rfl
    · cases hx
  · cases hx
theorem st_app {i : Nat} {e : E} {st : Stmt} (O : SOk C T Cl X) (hag : agS T X.env.scope X.N (.app i e) st = true) : SS C Cl X (.app i e) st := fun csb Fb cs0 F0 H0 D D' ρ h σ cs F H d n w => by
  simp only [agS] at hag
  split at hag
  · rename_i x pos
    split at hag
    · rename_i o y hx
      simp only [Bool.and_eq_true] at hag
      obtain ⟨ha, he⟩ := hag
      unfold agVar at ha
      split at ha
      · rename_i id p'
        simp only [Bool.and_eq_true, decide_eq_true_eq] at ha
        obtain ⟨⟨h1, h2⟩, h3⟩ := ha
        obtain ⟨n1, n2, _⟩ := plainName_ok h3
        simp only [WpS] at w
        have po : PE X (.Name id p') (fun σ H Q => ∃ v, σ[i]? = some (some v) ∧ Q v H) := pe_var h1 (visB_ok h2) n1 n2
        split at w
        · rename_i xs hc
          obtain ⟨a, e1, m1, m2, vs, e2, r⟩ := n.V.own i _ hc
          have n0 := n.o i _ a hc e1
          refine ws_of (app_ps hx po) ⟨_, e1, .inl ⟨rfl, vs, sq_of e2⟩, ?_⟩
          refine sE e false y X O.toXOk he _ _ _ _ _ _ _ _ n.S n.V w fun v1 d1 cs1 F1 H1 h1 x1 S1 r1 q1 => ?_
          have nn := n.step x1 S1
          have e2' : H1 a = some (.lst vs) := x1.k _ _ e2 m1
          have m1' : a ∉ cs1 := fun z => by have := x1.m a z m1; rw [e2] at this; cases this
          have m2' : F1 a = none := by
            cases w : F1 a with
            | none => rfl
            | some o =>
              have z := x1.n a m2 (by rw [w]; simp)
              rw [e2] at z; cases z
          refine ⟨a, vs, v1, rfl, rfl, e2', by rw [r.length]; exact q1.1, ?_⟩
          have z := nn.setO (i := i) (o := .lst (vs ++ [v1])) (c := .lst (xs ++ [d1])) n0 m1' m2' ⟨_, upd_same, (r.mono x1.f x1.c).append (.cons r1.plain .nil)⟩ (own_old nn.V hc e1)
          rw [set_self e1] at z
          exact d.nx _ _ _ _ _ _ z q1.2
        · exact w.elim
      · cases ha
    · cases hag
  · cases hag
theorem Nt.cellSet (n : Nt K Cl csb Fb cs0 F0 H0 cs F H h σ ρ) {m : Nat} {a : Addr} {c : Cell} {o : HO} (e : cs[m]? = some a) (r : COk K Cl cs F (upd H a o) a c) : Nt K Cl csb Fb cs0 F0 H0 cs F (upd H a o) (h.set m c) σ ρ := by
  have x2 : Stp cs F H cs F (upd H a o) := Stp.chg (List.mem_of_getElem? e)
  exact ⟨n.S.cellSet e r, n.V.step x2, n.x.trans x2, n.o, n.y⟩
theorem st_appE {o e : E} {st : Stmt} (O : SOk C T Cl X) (hag : agS T X.env.scope X.N (.appE o e) st = true) : SS C Cl X (.appE o e) st := fun csb Fb cs0 F0 H0 D D' ρ h σ cs F H d n w => by
  simp only [agS] at hag
  split at hag
  · rename_i x pos
    split at hag
    · rename_i o' y hx
      simp only [Bool.and_eq_true] at hag
      simp only [WpS] at w
      refine ws_of (app_ps hx pe_we) (sE o false o' X O.toXOk hag.1 _ _ _ _ _ _ _ _ n.S n.V w fun v1 d1 cs1 F1 H1 h1 x1 S1 r1 q1 => ?_)
      have n1 := n.step x1 S1
      split at q1
      · rename_i m
        split at q1
        · rename_i xs0 hc0
          have r1 := r1.plain
          cases r1 with
          | adr g1 =>
            rename_i a
            obtain ⟨vs0, g2, g3⟩ := cell_at S1 g1 hc0
            refine ⟨.inl ⟨rfl, vs0, sq_of g2⟩, ?_⟩
            refine sE e false y X O.toXOk hag.2 _ _ _ _ _ _ _ _ S1 n1.V q1 fun v2 d2 cs2 F2 H2 h2 x2 S2 r2 q2 => ?_
            have n2 := n1.step x2 S2
            unfold appC at q2
            split at q2
            · rename_i xs hc
              have g1' : cs2[m]? = some a := let ⟨_, q⟩ := x2.c; get_pre q g1
              obtain ⟨vs, k1, k2⟩ := cell_at S2 g1' hc
              refine ⟨a, vs, v2, rfl, rfl, k1, by rw [k2.length]; exact q2.1, ?_⟩
              exact d.nx _ _ _ _ _ _ (n2.cellSet g1' (show COk X.K Cl cs2 F2 _ a (.lst (xs ++ [d2])) from ⟨_, upd_same, k2.append (.cons r2.plain .nil)⟩)) q2.2
            · exact q2.elim
        · exact q1.elim
      · exact q1.elim
    · cases hag
  · cases hag
/-- o[k] = v by its weakest reading -/
def PSW (X : Cx) : TSet := fun o i v H Q => ∀ (pins : List (Addr × Obj)) (s : Shared) (σ : L2.St) (ov iv u : Value), Inv X pins σ H s → RelV o ov → RelV i iv → RelV v u → wpAny (model X.prog X.w) X.A (setItem ov iv u) (fun _ s' => ∃ H', Inv X pins σ H' s' ∧ Q H') X.xe s
theorem psw_ok : PSet X (PSW X) := fun pins s σ H o i v ov iv u Q I r1 r2 r3 h => h pins s σ ov iv u I r1 r2 r3
theorem psw_of {t : TSet} (p : PSet X t) {o i v : V} {H : Hp} {Q : Hp → Prop} (h : t o i v H Q) : PSW X o i v H Q := fun pins s σ ov iv u I r1 r2 r3 => p pins s σ H o i v ov iv u Q I r1 r2 r3 h
theorem set_dict (hu : X.A.units + 1 < cLine) : PSet X (fun o i v H Q => ∃ a H', o = .ref a ∧ DPut H a i v H' ∧ Q H') := by
  intro pins s σ H o i v ov iv u Q I r1 r2 r3 h
  obtain ⟨a, H', rfl, g, q⟩ := h
  cases r1
  exact d_setItem hu I g r2 r3 fun s' I' => ⟨H', I', q⟩
theorem putC_ok (hu : X.A.units + 1 < cLine) {a : Addr} {c : Cell} {k d : AV} {i v : V} {Q : Cell → Prop} {R : Hp → Prop} {b : Bool} (r : COk X.K Cl cs F H a c) (rk : RepB X.K cs F H b i k) (rv : Rep X.K cs F v d) (q : putC c k d Q)
    (p : ∀ o c', COk X.K Cl cs F (upd H a o) a c' → Q c' → R (upd H a o)) : PSW X (.ref a) i v H R := by
  unfold putC at q
  split at q
  · rename_i xs
    obtain ⟨vs, e1, e2⟩ := r
    split at q
    · cases rk.int
      split at q
      · rename_i j hj
        rw [← e2.length] at hj
        exact psw_of set_list ⟨a, vs, _, j, rfl, rfl, e1, hj, p _ (.lst (xs.set j d)) ⟨_, upd_same, e2.set rv j⟩ q⟩
      · exact q.elim
    · exact q.elim
  · rename_i kvs
    obtain ⟨us, e1, e2⟩ := r
    split at q
    · rename_i kk hk
      cases rk.key hk
      refine psw_of (set_dict hu) ⟨a, _, rfl, .k e1 ?_, p _ (.dct (putD kvs kk d)) ⟨_, upd_same, e2.put rv⟩ q.2⟩
      rw [e2.length, sizeLine_eq]
      have := q.1
      omega
    · exact q.elim
  · exact q.elim
theorem put_ps {o k x : Expr} {to : TE} {pk pos : Pos} (ho : PE X o to) (hk : notSlice k = true) : PS X (.Assign [.Subscript o k pk] x pos) (tAsg (WE X x) (gSub to (WE X k) (PSW X))) := by
  refine ps_asg pe_we (pg_sub ho pe_we psw_ok ?_) ?_ ?_
  · intro _
    cases k <;> first | rfl | cases hk
  · show swapsWith x (some (.Subscript o k pk)) pos.line X.env = pure false
    exact swaps_other (t := .Subscript o k pk) (fun _ _ z => by cases z) _ _
  · cases x <;> rfl
theorem st_put {i : Nat} {k e : E} {st : Stmt} (O : SOk C T Cl X) (hag : agS T X.env.scope X.N (.put i k e) st = true) : SS C Cl X (.put i k e) st := fun csb Fb cs0 F0 H0 D D' ρ h σ cs F H d n w => by
  simp only [agS] at hag
  split at hag
  · rename_i o k' pk x pos
    simp only [Bool.and_eq_true] at hag
    obtain ⟨⟨⟨ha, hk⟩, he⟩, hns⟩ := hag
    unfold agVar at ha
    split at ha
    · rename_i id p'
      simp only [Bool.and_eq_true, decide_eq_true_eq] at ha
      obtain ⟨⟨h1, h2⟩, h3⟩ := ha
      obtain ⟨n1, n2, _⟩ := plainName_ok h3
      simp only [WpS] at w
      split at w
      · rename_i c hc
        obtain ⟨a, e1, m1, m2, r⟩ := n.V.own i _ hc
        have n0 := n.o i _ a hc e1
        refine ws_of (put_ps (pe_var h1 (visB_ok h2) n1 n2) hns) (sE e false x X O.toXOk he _ _ _ _ _ _ _ _ n.S n.V w fun v1 d1 cs1 F1 H1 h1 x1 S1 r1 q1 => ?_)
        refine ⟨_, e1, ?_⟩
        refine sE k false k' X O.toXOk hk _ _ _ _ _ _ _ _ S1 (n.V.step x1) q1 fun v2 d2 cs2 F2 H2 h2 x2 S2 r2 q2 => ?_
        have x12 := x1.trans x2
        have nn := n.step x12 S2
        have hs := r.some
        have m1' : a ∉ cs2 := fun z => hs (x12.m a z m1)
        have m2' : F2 a = none := by
          cases w : F2 a with
          | none => rfl
          | some o => exact absurd (x12.n a m2 (by rw [w]; simp)) hs
        have r' : COk X.K Cl cs2 F2 H2 a c := r.mono x12.f x12.c fun o ho => x12.k a o ho m1
        refine putC_ok (by have := O.units; omega) r' r2 (r1.plain.mono x2.f x2.c) q2 fun o c' g1 g2 => ?_
        have z := nn.setO (i := i) (o := o) (c := c') n0 m1' m2' g1 (own_old nn.V hc e1)
        rw [set_self e1] at z
        exact d.nx _ _ _ _ _ _ z g2
      · exact w.elim
    · cases ha
  · cases hag
theorem st_putE {o k e : E} {st : Stmt} (O : SOk C T Cl X) (hag : agS T X.env.scope X.N (.putE o k e) st = true) : SS C Cl X (.putE o k e) st := fun csb Fb cs0 F0 H0 D D' ρ h σ cs F H d n w => by
  simp only [agS] at hag
  split at hag
  · rename_i o' k' pk x pos
    simp only [Bool.and_eq_true] at hag
    obtain ⟨⟨⟨ho, hk⟩, he⟩, hns⟩ := hag
    simp only [WpS] at w
    refine ws_of (put_ps pe_we hns) (sE e false x X O.toXOk he _ _ _ _ _ _ _ _ n.S n.V w fun v1 d1 cs1 F1 H1 h1 x1 S1 r1 q1 => ?_)
    refine sE o false o' X O.toXOk ho _ _ _ _ _ _ _ _ S1 (n.V.step x1) q1 fun v2 d2 cs2 F2 H2 h2 x2 S2 r2 q2 => ?_
    refine sE k false k' X O.toXOk hk _ _ _ _ _ _ _ _ S2 ((n.V.step x1).step x2) q2 fun v3 d3 cs3 F3 H3 h3 x3 S3 r3 q3 => ?_
    split at q3
    · rename_i m
      have r2 := r2.plain
      cases r2 with
      | adr g1 =>
        rename_i a
        have g1' : cs3[m]? = some a := let ⟨_, q⟩ := x3.c; get_pre q g1
        have x23 := x2.trans x3
        exact putC_ok (by have := O.units; omega) (S3.cell m a g1') r3 (r1.plain.mono x23.f x23.c) q3 fun o c' k1 k2 =>
          d.nx _ _ _ _ _ _ ((n.step ((x1.trans x2).trans x3) S3).cellSet g1' k1) k2
    · exact q3.elim
  · cases hag

theorem st_fld {o e : E} {f : Str} {st : Stmt} (O : SOk C T Cl X) (hag : agS T X.env.scope X.N (.fld o f e) st = true) : SS C Cl X (.fld o f e) st := fun csb Fb cs0 F0 H0 D D' ρ h σ cs F H d n w => by
  simp only [agS] at hag
  split at hag
  · rename_i o' g pk x pos
    simp only [Bool.and_eq_true, decide_eq_true_eq] at hag
    obtain ⟨⟨rfl, ho⟩, he⟩ := hag
    simp only [WpS] at w
    refine ws_of (ps_fld pe_we pe_we (swaps_other (t := .Attribute o' f pk) (fun _ _ z => by cases z) _ _)) (sE e false x X O.toXOk he _ _ _ _ _ _ _ _ n.S n.V w fun v1 d1 cs1 F1 H1 h1 x1 S1 r1 q1 => ?_)
    refine sE o false o' X O.toXOk ho _ _ _ _ _ _ _ _ S1 (n.V.step x1) q1 fun v2 d2 cs2 F2 H2 h2 x2 S2 r2 q2 => ?_
    split at q2
    · rename_i m
      split at q2
      · rename_i c fs hc
        obtain ⟨hf, hl, q2⟩ := q2
        obtain ⟨a, rfl, e2⟩ := Rep.adr_inv r2.plain
        obtain ⟨dx, fvs, e3, r⟩ := obj_at S2 e2 hc
        refine ⟨a, Cl c, dx, fvs, rfl, e3, (O.fld c f hf).1, (O.fld c f hf).2, by rw [r.length]; exact hl, ?_⟩
        exact d.nx _ _ _ _ _ _ ((n.step (x1.trans x2) S2).cellSet e2 (show COk X.K Cl cs2 F2 _ a (.obj c (putFA f d1 fs)) from ⟨dx, _, upd_same, r.put (r1.plain.mono x2.f x2.c)⟩)) q2
      · exact q2.elim
    · exact q2.elim
  · cases hag
theorem st_ite {c : E} {a b : Ss} {x : Expr} {p q : List Stmt} {pos : Pos} (O : SOk C T Cl X) (hc : agE T X.env.scope X.N c x = true) (ha : SSs C Cl X a p) (hb : SSs C Cl X b q) : SS C Cl X (.ite c a b) (.If x p q pos) := fun csb Fb cs0 F0 H0 D D' ρ h σ cs F H d n w => by
  simp only [WpS] at w
  refine ws_of (ps_if pt_we pss_we pss_we) (sT c x X O.toXOk hc _ _ _ _ _ _ _ _ n.S n.V w fun k cs1 F1 H1 h1 x1 S1 q1 => ?_)
  cases k with
  | true =>
    rw [if_pos rfl] at q1 ⊢
    exact ha _ _ _ _ _ _ _ _ _ _ _ _ _ d (n.step x1 S1) q1
  | false =>
    rw [if_neg Bool.false_ne_true] at q1 ⊢
    exact hb _ _ _ _ _ _ _ _ _ _ _ _ _ d (n.step x1 S1) q1
theorem st_wh {c : E} {b : Ss} {x : Expr} {p : List Stmt} {pos : Pos} (O : SOk C T Cl X) (hc : agE T X.env.scope X.N c x = true) (hb : SSs C Cl X b p) : SS C Cl X (.wh c b) (.While x p [] pos) := fun csb Fb cs0 F0 H0 D D' ρ h σ cs F H d n w => by
  simp only [WpS] at w
  obtain ⟨Wv, ⟨m0, w0⟩, turn⟩ := w
  refine ws_of (ps_while O.pass pt_we pss_we) ⟨fun m σ H => ∃ cs F h ρ, Nt X.K Cl csb Fb cs0 F0 H0 cs F H h σ ρ ∧ Wv m ρ h, ⟨m0, cs, F, h, ρ, n, w0⟩, ?_⟩
  rintro m σ' H' ⟨cs', F', h', ρ', n', w'⟩
  refine sT c x X O.toXOk hc _ _ _ _ _ _ _ _ n'.S n'.V (turn m ρ' h' w') fun k cs1 F1 H1 h1 x1 S1 q1 => ?_
  cases k with
  | true =>
    rw [if_pos rfl] at q1 ⊢
    refine ⟨fun σ H => ∃ m', m' < m ∧ ∃ cs F h ρ, Nt X.K Cl csb Fb cs0 F0 H0 cs F H h σ ρ ∧ Wv m' ρ h, fun σ2 H2 hq => hq, ?_⟩
    refine hb _ _ _ _ _ { D with nx := fun ρ' h' => ∃ m', m' < m ∧ Wv m' ρ' h', ct := fun ρ' h' => ∃ m', m' < m ∧ Wv m' ρ' h', bk := D.nx } _ _ _ _ _ _ _ ⟨?_, d.rt, d.nx, ?_, d.ex⟩ (n'.step x1 S1) q1
    · rintro cs2 F2 H2 h2 σ2 ρ2 n2 ⟨m', hm, w2⟩
      exact ⟨m', hm, cs2, F2, h2, ρ2, n2, w2⟩
    · rintro cs2 F2 H2 h2 σ2 ρ2 n2 ⟨m', hm, w2⟩
      exact ⟨m', hm, cs2, F2, h2, ρ2, n2, w2⟩
  | false =>
    rw [if_neg Bool.false_ne_true] at q1 ⊢
    exact d.nx _ _ _ _ _ _ (n'.step x1 S1) q1
theorem Nt.base (n : Nt K Cl csb Fb cs0 F0 H0 cs F H h σ ρ) : Nt K Cl cs F cs0 F0 H0 cs F H h σ ρ := ⟨n.S, n.V, n.x, n.o, fun _ _ z => z, [], by simp⟩
theorem Nt.unbase {cs1 : List Addr} {F1 : Hp} (n : Nt K Cl cs1 F1 cs0 F0 H0 cs F H h σ ρ) (y : Ex Fb F1 ∧ ∃ r, cs1 = csb ++ r) : Nt K Cl csb Fb cs0 F0 H0 cs F H h σ ρ := ⟨n.S, n.V, n.x, n.o, y.1.trans n.y.1, by
  obtain ⟨r, e⟩ := n.y.2
  obtain ⟨r2, e2⟩ := y.2
  exact ⟨r2 ++ r, by rw [e, e2, List.append_assoc]⟩⟩
theorem nt_tg {σ : L2.St} {ρ : Env} {tg : Tg} {d : AV} {v : L2.V} {Q : Env → Prop} {R : L2.St → Hp → Prop} (n : Nt K Cl csb Fb cs0 F0 H0 cs F H h σ ρ) (r : Rep K cs F v d) (w : tgK tg d ρ Q)
    (k : ∀ σ' ρ', Nt K Cl csb Fb cs0 F0 H0 cs F H h σ' ρ' → Q ρ' → R σ' H) : gOf K tg v σ H R := by
  cases tg with
  | nm i => exact k _ _ (n.setV r) w
  | tup is =>
    obtain ⟨xs, ρ', e, hs2, w⟩ := tgK_tup w
    refine gTL_of n.S.sub r e hs2 fun vs g2 => ?_
    have go : ∀ {is : List Nat} {xs : List AV} {vs : List L2.V} {σ : L2.St} {ρ : Env}, Nt K Cl csb Fb cs0 F0 H0 cs F H h σ ρ → Reps K cs F vs xs → setsS ρ is xs = some ρ' → gNames is vs σ H R := by
      intro is
      induction is with
      | nil =>
        intro xs vs σ ρ n r e
        cases r with
        | nil => simp [setsS] at e; subst e; exact ⟨rfl, k _ _ n w⟩
        | cons _ _ => simp [setsS] at e
      | cons i is ih =>
        intro xs vs σ ρ n r e
        cases r with
        | nil => simp [setsS] at e
        | cons r rs =>
          simp only [setsS] at e
          exact ⟨_, _, rfl, ih (n.setV r) rs e⟩
    exact go n g2 hs2
theorem st_for {tg : Tg} {it : It} {b : Ss} {t x : Expr} {p : List Stmt} {pos : Pos} (O : SOk C T Cl X) (ht : agTg X.env.scope X.env.scope X.N tg t = true) (hi : agI T X.env.scope X.N it x = true) (hzz : zipOk it t = true) (hs : notSet x = true) (ho : ∀ i, it ≠ .own i)
    (hb : SSs C Cl X b p) : SS C Cl X (.for tg it b) (.For t x p [] pos) := fun csb Fb cs0 F0 H0 D D' ρ h σ cs F H d n w => by
  simp only [WpS] at w
  refine ws_of (ps_for O.pass O.calm pi_we (pg_ok O.nd O.calm O.sto ht) pss_we (folded_of hs _)) ?_
  refine sI it false t x X O.toXOk hi (fun ⟨i, e⟩ => absurd e (ho i)) hzz _ _ _ _ _ _ _ _ n.S n.V w fun J items chk G Y cs1 F1 H1 h1 x1 S1 wk hG hY q1 => ?_
  have n1 := n.step x1 S1
  refine for_it wk (fun i σ' H' => ∃ cs2 F2 h2 ρ2, Nt X.K Cl cs1 F1 cs0 F0 H0 cs2 F2 H' h2 σ' ρ2 ∧ forL (fun x D ρ h => tgK tg x ρ fun ρ' => WpSs C b D ρ' h) chk D (items.drop i) ρ2 h2) ?_ ?_ ?_ ?_
  · exact ⟨cs1, F1, h1, ρ, n1.base, q1⟩
  · rintro i σ' H' hi ⟨cs2, F2, h2, ρ2, n2, q2⟩
    refine hG cs2 F2 H' h2 n2.y n2.S ?_
    cases hd : items.drop i with
    | nil => rw [hd] at q2; exact q2.1
    | cons z r => rw [hd] at q2; exact q2.1
  · rintro i v σ' H' H3 hi ⟨cs2, F2, h2, ρ2, n2, q2⟩ hy
    rw [List.drop_eq_getElem_cons hi] at q2
    obtain ⟨ck, q2⟩ := q2
    obtain ⟨F3, x3, S3, rv⟩ := hY i H' v H3 cs2 F2 h2 _ n2.S n2.y.1 n2.y.2 (List.getElem?_eq_getElem hi) ck hy
    have n3 := n2.step x3 S3
    refine nt_tg n3 rv q2 fun σ4 ρ4 n4 q4 => ?_
    refine hb _ _ _ _ _ { D with nx := forL (fun x D ρ h => tgK tg x ρ fun ρ' => WpSs C b D ρ' h) chk D (items.drop (i + 1)), ct := forL (fun x D ρ h => tgK tg x ρ fun ρ' => WpSs C b D ρ' h) chk D (items.drop (i + 1)), bk := D.nx } _ _ _ _ _ _ _ ⟨?_, d.rt, ?_, ?_, d.ex.imp fun W z => ⟨z.1, fun c n cs F H h σ ρ n5 => z.2 c n cs F H h σ ρ (n5.unbase n1.y)⟩⟩ n4 q4
    · intro cs5 F5 H5 h5 σ5 ρ5 n5 q5
      exact ⟨cs5, F5, h5, ρ5, n5, q5⟩
    · intro cs5 F5 H5 h5 σ5 ρ5 n5 q5
      exact d.nx _ _ _ _ _ _ (n5.unbase n1.y) q5
    · intro cs5 F5 H5 h5 σ5 ρ5 n5 q5
      exact ⟨cs5, F5, h5, ρ5, n5, q5⟩
  · rintro σ' H' ⟨cs2, F2, h2, ρ2, n2, q2⟩
    rw [List.drop_of_length_le (Nat.le_refl _)] at q2
    exact d.nx _ _ _ _ _ _ (n2.unbase n1.y) q2.2
end

/-! ### raise -/
section
variable {C : Ctx} {T : Tab} {Cl : Nat → Addr} {X : Cx}
theorem upd_twice {H : Hp} {a : Addr} {o o2 : HO} : upd (upd H a o) a o2 = upd H a o2 := by
  funext b
  unfold upd
  split <;> rfl
theorem st_rse {c : Nat} {e : E} {st : Stmt} (O : SOk C T Cl X) (hag : agS T X.env.scope X.N (.rse c e) st = true) : SS C Cl X (.rse c e) st := fun csb Fb cs0 F0 H0 D D' ρ h σ cs F H d n w => by
  simp only [agS] at hag
  split at hag
  · rename_i x p a cpos pos
    simp only [Bool.and_eq_true, decide_eq_true_eq] at hag
    obtain ⟨⟨⟨⟨h1, h2⟩, h3⟩, h4⟩, h5⟩ := hag
    have M := O.exc c x h1
    obtain ⟨fI, k, fd, i1, i2, F1, room, bnd⟩ := M.ini
    obtain ⟨W, tk, hW⟩ := d.ex
    have ha : PA X [a] (tCons (WE X a) tNil) := pa_cons pe_we pa_nil (star_cons h4 _ _)
    have P1 := pmk_oex (p := p) (pos := cpos) (CX := CX0) M.ox i1 i2 F1 room bnd (dvs := []) .nil (fun _ _ _ _ _ _ _ z => False.elim z) (glB_ok h2) M.mg ha (plainName_ok h3).1 (star_cons h4 _ _) rfl
    refine ws_of (ps_raise O.calm tk P1) ?_
    simp only [WpS] at w
    refine sE e false a X O.toXOk h5 _ _ _ _ _ _ _ _ n.S n.V w fun v1 d1 cs1 F1 H1 h1 x1 S1 r1 q1 => ?_
    split at q1
    · rename_i z
      cases r1.int
      refine ⟨by simp, fun a0 ha0 => ?_⟩
      refine ⟨a0, Cl c, z, by simp, M.ox, M.row, upd_same, fun dx hdx hne => ⟨rfl, dx, [("row", .int z)], upd_same, ?_, ?_, ?_⟩⟩
      · rw [upd_ne hne, upd_same]
      · rw [upd_ne hne] at hdx; exact hdx
      · rw [upd_ne hne] at hdx
        have e2 : upd (del (upd (upd (upd H1 a0 (exo a0 (Cl c) none)) dx (exd dx [("row", .int z)])) a0 (exo a0 (Cl c) (some dx))) a0) dx (.xd [("row", .int z)]) = upd H1 dx (.xd [("row", .int z)]) := by
          funext b
          by_cases hb : b = dx
          · subst hb; rw [upd_same, upd_same]
          · rw [upd_ne hb, upd_ne hb]
            by_cases hc : b = a0
            · subst hc; rw [del_same, ha0]
            · rw [del_ne hc, upd_ne hc, upd_ne hb, upd_ne hc]
        have := hW c z _ _ _ _ _ _ (n.step x1 S1) q1 dx hdx
        rw [← e2] at this
        exact this
    · exact q1.elim
  · cases hag
end

/-! ### every statement that agrees -/
section
variable {C : Ctx} {T : Tab} {Cl : Nat → Addr} {X : Cx}
theorem agSs_cons {sc : Scope} {N : List Str} {s : S} {r : Ss} {st : List Stmt} (h : agSs T sc N (.cons s r) st = true) : (∃ i, s = .frz i ∧ agSs T sc N r st = true) ∨ ∃ x xs, st = x :: xs ∧ agS T sc N s x = true ∧ agSs T sc N r xs = true := by
  cases s with
  | frz i => exact .inl ⟨i, rfl, by simpa only [agSs] using h⟩
  | _ =>
    right
    cases st with
    | nil => simp [agSs] at h
    | cons x xs =>
      simp only [agSs, Bool.and_eq_true] at h
      exact ⟨_, _, rfl, h.1, h.2⟩
mutual
theorem sS (O : SOk C T Cl X) (hk : X.env.scope.kind = .function) : ∀ (s : S) (st : Stmt), agS T X.env.scope X.N s st = true → SS C Cl X s st
  | .asg tg e, st, h => st_asg O hk h
  | .asgO i n, st, h => st_asgO O hk h
  | .frz i, st, h => by simp [agS] at h
  | .par _ _ _ _, st, h => by simp [agS] at h
  | .aug i op e, st, h => st_aug O h
  | .app i e, st, h => st_app O h
  | .appE o e, st, h => st_appE O h
  | .put i k e, st, h => st_put O h
  | .putE o k e, st, h => st_putE O h
  | .fld o f e, st, h => st_fld O h
  | .expr e, st, h => fun csb Fb cs0 F0 H0 D D' ρ h' σ cs F H d n w => by
    simp only [agS] at h
    split at h
    · simp only [Bool.and_eq_true] at h
      simp only [WpS] at w
      exact ws_of (ps_expr pe_we (swaps_plain h.2 _ _ _)) (sE e false _ X O.toXOk h.1 _ _ _ _ _ _ _ _ n.S n.V w fun v1 d1 cs1 F1 H1 h1 x1 S1 r1 q1 => d.nx _ _ _ _ _ _ (n.step x1 S1) q1)
    · cases h
  | .ret e, st, h => fun csb Fb cs0 F0 H0 D D' ρ h' σ cs F H d n w => by
    simp only [agS] at h
    split at h
    · simp only [WpS] at w
      exact ws_of (ps_ret pe_we) (sE e false _ X O.toXOk h _ _ _ _ _ _ _ _ n.S n.V w fun v1 d1 cs1 F1 H1 h1 x1 S1 r1 q1 => d.rt _ _ _ _ _ _ (n.x.trans x1) S1 r1.plain q1)
    · cases h
  | .retN, st, h => fun csb Fb cs0 F0 H0 D D' ρ h' σ cs F H d n w => by
    simp only [agS] at h
    split at h
    · simp only [WpS] at w
      exact ws_of ps_retN (d.rt _ _ _ _ _ _ n.x n.S .non w)
    · cases h
  | .ite c a b, st, h => by
    simp only [agS] at h
    split at h
    · simp only [Bool.and_eq_true] at h
      exact st_ite O h.1.1 (sSs O hk a _ h.1.2) (sSs O hk b _ h.2)
    · cases h
  | .wh c b, st, h => by
    simp only [agS] at h
    split at h
    · simp only [Bool.and_eq_true] at h
      exact st_wh O h.1 (sSs O hk b _ h.2)
    · cases h
  | .for tg it b, st, h => by
    simp only [agS] at h
    split at h
    · simp only [Bool.and_eq_true] at h
      obtain ⟨⟨⟨⟨⟨h1, h2⟩, hzz⟩, h3⟩, h4⟩, h5⟩ := h
      refine st_for O h1 h2 hzz h3 ?_ (sSs O hk b _ h5)
      intro i e
      subst e
      cases h4
    · cases h
  | .pass, st, h => fun csb Fb cs0 F0 H0 D D' ρ h' σ cs F H d n w => by
    simp only [agS] at h
    split at h
    · simp only [WpS] at w
      exact ws_of ps_pass (d.nx _ _ _ _ _ _ n w)
    · cases h
  | .brk, st, h => fun csb Fb cs0 F0 H0 D D' ρ h' σ cs F H d n w => by
    simp only [agS] at h
    split at h
    · simp only [WpS] at w
      exact ws_of ps_break (d.bk _ _ _ _ _ _ n w)
    · cases h
  | .cont, st, h => fun csb Fb cs0 F0 H0 D D' ρ h' σ cs F H d n w => by
    simp only [agS] at h
    split at h
    · simp only [WpS] at w
      exact ws_of ps_continue (d.ct _ _ _ _ _ _ n w)
    · cases h
  | .bad, st, h => fun csb Fb cs0 F0 H0 D D' ρ h' σ cs F H d n w => by
    simp only [WpS] at w
  | .rse c e, st, h => st_rse O h
theorem sSs (O : SOk C T Cl X) (hk : X.env.scope.kind = .function) : ∀ (s : Ss) (st : List Stmt), agSs T X.env.scope X.N s st = true → SSs C Cl X s st
  | .nil, st, h => fun csb Fb cs0 F0 H0 D D' ρ h' σ cs F H d n w => by
    simp only [agSs] at h
    split at h
    · simp only [WpSs] at w
      exact wss_of pss_nil (d.nx _ _ _ _ _ _ n w)
    · cases h
  | .cons s r, st, h => fun csb Fb cs0 F0 H0 D D' ρ h' σ cs F H d n w => by
    simp only [WpSs] at w
    rcases agSs_cons h with ⟨i, rfl, h⟩ | ⟨x, xs, rfl, h1, h2⟩
    · simp only [WpS] at w
      split at w
      · rename_i xs hx
        obtain ⟨F', n'⟩ := n.frz hx
        exact sSs O hk r st h _ _ _ _ _ _ _ _ _ _ _ _ _ d n' w
      · rename_i xs hx
        obtain ⟨a, us, ea, lk⟩ := n.frzD hx
        intro pins s I
        obtain ⟨od, I2⟩ := I.lock ea trivial
        obtain ⟨F', n'⟩ := lk od
        exact sSs O hk r st h _ _ _ _ _ _ _ _ _ _ _ _ _ d n' w pins s I2
      · exact w.elim
    · refine wss_of (pss_cons ps_we pss_we) (sS O hk s _ h1 _ _ _ _ _ _ { D' with nx := WSs X _ D' } _ _ _ _ _ _ (d.seq fun cs2 F2 H2 h2' σ2 ρ2 n2 q2 => ?_) n w)
      exact sSs O hk r _ h2 _ _ _ _ _ _ _ _ _ _ _ _ _ d n2 q2
end
end
end VL

set_option maxRecDepth 100000
set_option maxHeartbeats 4000000
/-! VL: defs that try a call. -/
namespace VL
open PySem L2 Evl PyProof.Rows PySem.Spec
/-! ### what a clause lays -/
inductive Grow : Hp → Hp → Prop where
  | refl {H : Hp} : Grow H H
  | new {H H' : Hp} {p : Addr} {o : HO} : Grow H H' → H' p = none → Grow H (upd H' p o)
theorem Grow.trans {H H' H'' : Hp} (g : Grow H H') (k : Grow H' H'') : Grow H H'' := by
  induction k with
  | refl => exact g
  | new _ h ih => exact .new ih h
theorem Grow.keep {H H' : Hp} (g : Grow H H') {b : Addr} {o : HO} (e : H b = some o) : H' b = some o := by
  induction g with
  | refl => exact e
  | @new H' p o' _ h ih =>
    have : b ≠ p := fun z => by subst z; rw [ih] at h; cases h
    rw [upd_ne this]; exact ih
theorem Grow.step {K : PySem.W.Frag} {Cl : Nat → Addr} {cs : List Addr} {F H H' : Hp} {h : AHeap} (g : Grow H H') (S : StOk K Cl cs F H h) : StOk K Cl cs F H' h ∧ Stp cs F H cs F H' := by
  induction g with
  | refl => exact ⟨S, .refl⟩
  | new _ hp ih => exact ⟨ih.1.newN hp, ih.2.trans (Stp.newN hp)⟩
/-! ### agreement -/
def agEv (sc : Scope) (N : List Str) (i : Nat) (x : Expr) : Bool := match x with
  | .Name id _ => decide (N[i]? = some id) && decide (sc.names.lookup id = some .local) && plainName id
  | _ => false
def agXs (T : Tab) (sc : Scope) : List Nat → List Expr → Bool
  | [], xs => match xs with
    | [] => true
    | _ => false
  | d :: ds, xs => match xs with
    | .Name id _ :: r => decide (T.xname d = some id) && glB sc id && plainName id && agXs T sc ds r
    | _ => false
def agHB (T : Tab) (sc : Scope) (N : List Str) (i : Nat) : HB → Expr → Bool
  | .isC d, x => match x with
    | .Call (.Name id _) [y, .Name id2 _] [] _ => decide (id = "isinstance") && glB sc id && agEv sc N i y && notStar y && decide (T.xname d = some id2) && glB sc id2 && plainName id2
    | _ => false
  | .isT ds, x => match x with
    | .Call (.Name id _) [y, .Tuple xs _ _] [] _ => decide (id = "isinstance") && glB sc id && agEv sc N i y && notStar y && agXs T sc ds xs && decide (ds.length < 100)
    | _ => false
  | .isVE, x => match x with
    | .Call (.Name id _) [y, .Name id2 _] [] _ => decide (id = "isinstance") && glB sc id && agEv sc N i y && notStar y && decide (id2 = "ValueError") && glB sc id2
    | _ => false
  | .row, x => match x with
    | .Call (.Name id _) [.Attribute y f _, .Name id2 _] [] _ => decide (id = "isinstance") && glB sc id && agEv sc N i y && notSup y && decide (f = "row") && decide (id2 = "bool") && glB sc id2
    | _ => false
  | .and a b, x => match x with
    | .BoolOp .And (y :: z :: rest) p => agHB T sc N i a y && agHB T sc N i b (tail2 .And z p rest)
    | _ => false
  | .or a b, x => match x with
    | .BoolOp .Or (y :: z :: rest) p => agHB T sc N i a y && agHB T sc N i b (tail2 .Or z p rest)
    | _ => false
  | .not a, x => match x with
    | .UnaryOp .Not y _ => agHB T sc N i a y
    | _ => false
def agRow (sc : Scope) (N : List Str) (i : Nat) (x : Expr) : Bool := match x with
  | .Attribute y f _ => agEv sc N i y && notSup y && decide (f = "row")
  | _ => false
def agHE (T : Tab) (sc : Scope) (N : List Str) (i : Nat) : HE → Expr → Bool
  | .non, x => match x with
    | .Constant .none _ _ => true
    | _ => false
  | .bl b, x => match x with
    | .Constant (.bool j) _ _ => decide (b = j)
    | _ => false
  | .row, x => agRow sc N i x
  | .hb b, x => agHB T sc N i b x
  | .pair z, x => match x with
    | .Tuple [.Constant (.str y) _ _, w] _ _ => decide (z = y) && agRow sc N i w && notStar w
    | _ => false
def agGs (T : Tab) (sc : Scope) (N : List Str) (i : Nat) (fin : Option HE) : List (HB × HE) → List Stmt → Bool
  | [], st => match fin with
    | none => match st with
      | [] => true
      | _ => false
    | some e => match st with
      | [.Return (some x) _] => agHE T sc N i e x
      | _ => false
  | (b, e) :: r, st => match st with
    | .If t [.Return (some x) _] [] _ :: st' => agHB T sc N i b t && agHE T sc N i e x && agGs T sc N i fin r st'
    | _ => false
/-- what the written part says of a caught class -/
structure Cau (K : PySem.W.Frag) (P : Prg) (Cl : Nat → Addr) (c : Nat) : Prop where
  D : ExcD K (Cl c)
  F : XfC K (Cl c)
  row : PySem.W.findIn K (.ref (Cl c)) "row" = some none
  ve : PySem.W.kitOne K (.ref (Cl c)) (.type "ValueError") = some true
  sub : ∀ d b, P.sub.lookup (c, d) = some b → PySem.W.kitOne K (.ref (Cl c)) (.ref (Cl d)) = some b
section
variable {T : Tab} {Cl : Nat → Addr} {X : Cx} {P : Prg} {a dd : Addr} {oe : Obj} {pn : List (Addr × Obj)} {c i : Nat} {n : Int}
theorem agXs_ok (hx : ∀ d x, T.xname d = some x → X.mg x = some (.ref (Cl d))) : ∀ (ds : List Nat) (xs : List Expr), agXs T X.env.scope ds xs = true →
    ∃ t : TA, PA (X.suite a ((a, oe) :: pn)) xs t ∧ ∀ σ H Q, Q (ds.map fun d => V.ref (Cl d)) H → t σ H Q
  | [], xs, h => by
    simp only [agXs] at h
    split at h
    · exact ⟨_, pa_nil, fun σ H Q q => q⟩
    · cases h
  | d :: ds, xs, h => by
    simp only [agXs] at h
    split at h
    · rename_i id p xs
      simp only [Bool.and_eq_true, decide_eq_true_eq] at h
      obtain ⟨⟨⟨h1, h2⟩, h3⟩, h4⟩ := h
      obtain ⟨t, pt, ht⟩ := agXs_ok hx ds xs h4
      have p1 : PE (X.suite a ((a, oe) :: pn)) (.Name id p) (tC (.ref (Cl d))) := pe_glob (X := X.suite a ((a, oe) :: pn)) (glB_ok (X := X.suite a ((a, oe) :: pn)) h2) (hx d id h1) rfl (plainName_ok h3).1
      exact ⟨_, pa_cons p1 pt rfl, fun σ H Q q => ht _ _ _ q⟩
    · cases h
theorem agEv_ok {y : Expr} (h : agEv X.env.scope X.N i y = true) : PE (X.suite a ((a, oe) :: pn)) y (tVar i) := by
  unfold agEv at h
  split at h
  · rename_i id p
    simp only [Bool.and_eq_true, decide_eq_true_eq] at h
    obtain ⟨⟨h1, h2⟩, h3⟩ := h
    obtain ⟨n1, n2, _⟩ := plainName_ok h3
    exact pe_var (X := X.suite a ((a, oe) :: pn)) h1 (visB_ok (by unfold visB; rw [h2])) n1 n2
  · cases h
theorem any_kit (C : Cau X.K P Cl c) : ∀ (ds : List Nat) (k : Bool), hbV.anyT P c ds = some k → PySem.W.kitAny X.K (.ref (Cl c)) (ds.map fun d => Value.ref (Cl d)) = some k
  | [], k, h => h
  | d :: ds, k, h => by
    unfold hbV.anyT at h
    rw [List.map_cons]
    unfold PySem.W.kitAny
    split at h
    · rename_i e
      rw [C.sub d true e]; exact h
    · rename_i e
      rw [C.sub d false e]; exact any_kit C ds k h
    · cases h
theorem cls_all : ∀ ds : List Nat, Paired ClsV (ds.map fun d => V.ref (Cl d)) (ds.map fun d => Value.ref (Cl d))
  | [] => .nil
  | d :: ds => .cons (.own _) (cls_all ds)
/-- what a clause's tests need -/
structure Bf (T : Tab) (Cl : Nat → Addr) (X : Cx) : Prop where
  blt : ∀ x, x ∈ bltNames → X.mg x = none
  ve : X.mg "ValueError" = none
  xn : ∀ d x, T.xname d = some x → X.mg x = some (.ref (Cl d))
def leafB : HB → Bool
  | .and _ _ => false
  | .or _ _ => false
  | .not _ => false
  | _ => true
theorem hb_leaf (B : Bf T Cl X) (C : Cau X.K P Cl c) (hz : Zc (.ref (Cl c)) (some dd) oe) (hf : ∃ vs, oe.data = .fields vs) {σ : L2.St} {H : Hp} {Q : VK} (hσ : σ[i]? = some (some (.ref a))) (hd : H dd = some (.xd [("row", .int n)])) :
    ∀ (b : HB) (x : Expr) (k : Bool), leafB b = true → agHB T X.env.scope X.N i b x = true → hbV P c b = some k → (∀ H', Grow H H' → Q (.bl k) H') → WE (X.suite a ((a, oe) :: pn)) x σ H Q
  | .isC d, x, k, _, h, hk, q => by
    simp only [agHB] at h
    split at h
    · rename_i id p1 y id2 p2 pos
      simp only [Bool.and_eq_true, decide_eq_true_eq] at h
      obtain ⟨⟨⟨⟨⟨⟨rfl, h1⟩, h2⟩, hs⟩, h3⟩, h4⟩, h5⟩ := h
      have pt : PE (X.suite a ((a, oe) :: pn)) (.Name id2 p2) (tC (.ref (Cl d))) := pe_glob (X := X.suite a ((a, oe) :: pn)) (glB_ok (X := X.suite a ((a, oe) :: pn)) h4) (B.xn d id2 h3) rfl (plainName_ok h5).1
      exact we_of (pe_callB (X := X.suite a ((a, oe) :: pn)) (call_isX C.D hz hf) (glB_ok (X := X.suite a ((a, oe) :: pn)) h1) (B.blt _ (by decide +kernel)) (by decide +kernel) (pa_cons (agEv_ok h2) (pa_cons pt pa_nil) (star_cons hs _ _)) (by decide +kernel) (by decide +kernel) (star_cons hs _ _))
        ⟨_, hσ, _, .ref (Cl d), k, _, rfl, fun u r => r, C.sub d k hk, hd, q _ .refl⟩
    · cases h
  | .isT ds, x, k, _, h, hk, q => by
    simp only [agHB] at h
    split at h
    · rename_i id p1 y xs tk tp pos
      simp only [Bool.and_eq_true, decide_eq_true_eq] at h
      obtain ⟨⟨⟨⟨⟨rfl, h1⟩, h2⟩, hs⟩, h3⟩, h4⟩ := h
      obtain ⟨t, pt, ht⟩ := agXs_ok (oe := oe) (pn := pn) (a := a) B.xn ds xs h3
      refine we_of (pe_callB (X := X.suite a ((a, oe) :: pn)) (call_isXT C.D hz hf) (glB_ok (X := X.suite a ((a, oe) :: pn)) h1) (B.blt _ (by decide +kernel)) (by decide +kernel) (pa_cons (agEv_ok h2) (pa_cons (pe_tup pt) pa_nil rfl) (star_cons hs _ _)) (by decide +kernel) (by decide +kernel) (star_cons hs _ _))
        ⟨_, hσ, ht _ _ _ ⟨by rw [List.length_map, sizeLine_eq]; omega, fun p hp => ?_⟩⟩
      have ne : dd ≠ p := fun z => by subst z; rw [hd] at hp; cases hp
      exact ⟨p, _, _, k, _, rfl, upd_same, cls_all ds, any_kit C ds k hk, by rw [upd_ne ne]; exact hd, q _ (.new .refl hp)⟩
    · cases h
  | .isVE, x, k, _, h, hk, q => by
    simp only [agHB] at h
    split at h
    · rename_i id p1 y id2 p2 pos
      simp only [Bool.and_eq_true, decide_eq_true_eq] at h
      obtain ⟨⟨⟨⟨⟨rfl, h1⟩, h2⟩, hs⟩, rfl⟩, h4⟩ := h
      have pt : PE (X.suite a ((a, oe) :: pn)) (.Name "ValueError" p2) (tC (.ty "ValueError")) := pe_bltn (X := X.suite a ((a, oe) :: pn)) (u := .type "ValueError") (glB_ok (X := X.suite a ((a, oe) :: pn)) h4) B.ve (by decide +kernel) rfl (by decide +kernel) (by decide +kernel)
      unfold hbV at hk
      cases hk
      exact we_of (pe_callB (X := X.suite a ((a, oe) :: pn)) (call_isX C.D hz hf) (glB_ok (X := X.suite a ((a, oe) :: pn)) h1) (B.blt _ (by decide +kernel)) (by decide +kernel) (pa_cons (agEv_ok h2) (pa_cons pt pa_nil) (star_cons hs _ _)) (by decide +kernel) (by decide +kernel) (star_cons hs _ _))
        ⟨_, hσ, _, .type "ValueError", true, _, rfl, fun u r => (ClsV.ty _).eq r, C.ve, hd, q _ .refl⟩
    · cases h
  | .row, x, k, _, h, hk, q => by
    simp only [agHB] at h
    split at h
    · rename_i id p1 y f pf id2 p2 pos
      simp only [Bool.and_eq_true, decide_eq_true_eq] at h
      obtain ⟨⟨⟨⟨⟨⟨rfl, h1⟩, h2⟩, hs⟩, rfl⟩, rfl⟩, h4⟩ := h
      have pt : PE (X.suite a ((a, oe) :: pn)) (.Name "bool" p2) (tC (.ty "bool")) := pe_bltn (X := X.suite a ((a, oe) :: pn)) (u := .type "bool") (glB_ok (X := X.suite a ((a, oe) :: pn)) h4) (B.blt _ (by decide +kernel)) (by decide +kernel) rfl (by decide +kernel) (by decide +kernel)
      unfold hbV at hk
      cases hk
      exact we_of (pe_callB (X := X.suite a ((a, oe) :: pn)) call_isi (glB_ok (X := X.suite a ((a, oe) :: pn)) h1) (B.blt _ (by decide +kernel)) (by decide +kernel) (pa_cons (pe_xf C.F C.row hz hf (agEv_ok h2) (base_of hs _ _)) (pa_cons pt pa_nil) rfl) (by decide +kernel) (by decide +kernel) rfl)
        ⟨_, hσ, rfl, rfl, dd, _, .int n, rfl, hd, rfl, ⟨.int n, .ty "bool", .type "int", .type "bool", false, rfl, .ty "bool", .base (.int _), kit_ty (by decide +kernel), q _ .refl⟩⟩
    · cases h
theorem hb_e (B : Bf T Cl X) (C : Cau X.K P Cl c) (hz : Zc (.ref (Cl c)) (some dd) oe) (hf : ∃ vs, oe.data = .fields vs) :
    ∀ (b : HB) (x : Expr) (k : Bool), agHB T X.env.scope X.N i b x = true → hbV P c b = some k → ∀ {σ : L2.St} {H : Hp} {Q : VK}, σ[i]? = some (some (.ref a)) → H dd = some (.xd [("row", .int n)]) → (∀ H', Grow H H' → Q (.bl k) H') → WE (X.suite a ((a, oe) :: pn)) x σ H Q
  | .isC d, x, k, h, hk, σ, H, Q, hσ, hd, q => hb_leaf B C hz hf hσ hd (.isC d) x k rfl h hk q
  | .isT d, x, k, h, hk, σ, H, Q, hσ, hd, q => hb_leaf B C hz hf hσ hd (.isT d) x k rfl h hk q
  | .isVE, x, k, h, hk, σ, H, Q, hσ, hd, q => hb_leaf B C hz hf hσ hd .isVE x k rfl h hk q
  | .row, x, k, h, hk, σ, H, Q, hσ, hd, q => hb_leaf B C hz hf hσ hd .row x k rfl h hk q
  | .and u v, x, k, h, hk, σ, H, Q, hσ, hd, q => by
    simp only [agHB] at h
    split at h
    · rename_i y z rest p
      simp only [Bool.and_eq_true] at h
      unfold hbV at hk
      split at hk
      · rename_i e
        refine we_of (pe_and pe_we (pe_two (y := y) pe_we)) (hb_e B C hz hf u y true h.1 e hσ hd fun H1 g1 => ⟨true, rfl, ?_⟩)
        rw [if_pos rfl]
        exact hb_e B C hz hf v _ k h.2 hk hσ (g1.keep hd) fun H2 g2 => q _ (g1.trans g2)
      · rename_i e
        cases hk
        refine we_of (pe_and pe_we (pe_two (y := y) pe_we)) (hb_e B C hz hf u y false h.1 e hσ hd fun H1 g1 => ⟨false, rfl, ?_⟩)
        rw [if_neg Bool.false_ne_true]
        exact q _ g1
      · cases hk
    · cases h
  | .or u v, x, k, h, hk, σ, H, Q, hσ, hd, q => by
    simp only [agHB] at h
    split at h
    · rename_i y z rest p
      simp only [Bool.and_eq_true] at h
      unfold hbV at hk
      split at hk
      · rename_i e
        cases hk
        refine we_of (pe_or pe_we (pe_two (y := y) pe_we)) (hb_e B C hz hf u y true h.1 e hσ hd fun H1 g1 => ⟨true, rfl, ?_⟩)
        rw [if_pos rfl]
        exact q _ g1
      · rename_i e
        refine we_of (pe_or pe_we (pe_two (y := y) pe_we)) (hb_e B C hz hf u y false h.1 e hσ hd fun H1 g1 => ⟨false, rfl, ?_⟩)
        rw [if_neg Bool.false_ne_true]
        exact hb_e B C hz hf v _ k h.2 hk hσ (g1.keep hd) fun H2 g2 => q _ (g1.trans g2)
      · cases hk
    · cases h
  | .not u, x, k, h, hk, σ, H, Q, hσ, hd, q => by
    simp only [agHB] at h
    split at h
    · rename_i y p
      unfold hbV at hk
      obtain ⟨k', e, rfl⟩ := Option.map_eq_some_iff.mp hk
      exact we_of (pe_not pe_we) (hb_e B C hz hf u y k' h e hσ hd fun H1 g1 => ⟨k', rfl, q _ g1⟩)
    · cases h
theorem leaf_plain : ∀ (b : HB) (x : Expr) (sc : Scope) (N : List Str), leafB b = true → agHB T sc N i b x = true → plainT x = true
  | .isC d, x, sc, N, _, h => by simp only [agHB] at h; split at h <;> first | rfl | cases h
  | .isT d, x, sc, N, _, h => by simp only [agHB] at h; split at h <;> first | rfl | cases h
  | .isVE, x, sc, N, _, h => by simp only [agHB] at h; split at h <;> first | rfl | cases h
  | .row, x, sc, N, _, h => by simp only [agHB] at h; split at h <;> first | rfl | cases h
theorem hb_lt (B : Bf T Cl X) (C : Cau X.K P Cl c) (hz : Zc (.ref (Cl c)) (some dd) oe) (hf : ∃ vs, oe.data = .fields vs) {σ : L2.St} {H : Hp} {Q : Bool → Hp → Prop} (hσ : σ[i]? = some (some (.ref a))) (hd : H dd = some (.xd [("row", .int n)]))
    (b : HB) (x : Expr) (k : Bool) (hl : leafB b = true) (h : agHB T X.env.scope X.N i b x = true) (hk : hbV P c b = some k) (q : ∀ H', Grow H H' → Q k H') : WT (X.suite a ((a, oe) :: pn)) x σ H Q :=
  wt_of (pt_truth pe_we (plainT_ok (leaf_plain b x _ _ hl h) _)) (hb_leaf B C hz hf hσ hd b x k hl h hk fun H' g => ⟨k, rfl, q H' g⟩)
theorem hb_t (B : Bf T Cl X) (C : Cau X.K P Cl c) (hz : Zc (.ref (Cl c)) (some dd) oe) (hf : ∃ vs, oe.data = .fields vs) :
    ∀ (b : HB) (x : Expr) (k : Bool), agHB T X.env.scope X.N i b x = true → hbV P c b = some k → ∀ {σ : L2.St} {H : Hp} {Q : Bool → Hp → Prop}, σ[i]? = some (some (.ref a)) → H dd = some (.xd [("row", .int n)]) → (∀ H', Grow H H' → Q k H') → WT (X.suite a ((a, oe) :: pn)) x σ H Q
  | .isC d, x, k, h, hk, σ, H, Q, hσ, hd, q => hb_lt B C hz hf hσ hd (.isC d) x k rfl h hk q
  | .isT d, x, k, h, hk, σ, H, Q, hσ, hd, q => hb_lt B C hz hf hσ hd (.isT d) x k rfl h hk q
  | .isVE, x, k, h, hk, σ, H, Q, hσ, hd, q => hb_lt B C hz hf hσ hd .isVE x k rfl h hk q
  | .row, x, k, h, hk, σ, H, Q, hσ, hd, q => hb_lt B C hz hf hσ hd .row x k rfl h hk q
  | .and u v, x, k, h, hk, σ, H, Q, hσ, hd, q => by
    simp only [agHB] at h
    split at h
    · rename_i y z rest p
      simp only [Bool.and_eq_true] at h
      have hzz : PW (X.suite a ((a, oe) :: pn)) (.BoolOp .And (z :: rest) p) (WT (X.suite a ((a, oe) :: pn)) (tail2 .And z p rest)) := by
        cases rest with
        | nil => exact pw_and1 pt_we
        | cons w r => exact pw_of pt_we
      unfold hbV at hk
      split at hk
      · rename_i e
        refine wt_of (pw_and pt_we hzz).pt (hb_t B C hz hf u y true h.1 e hσ hd fun H1 g1 => ?_)
        rw [if_pos rfl]
        exact hb_t B C hz hf v _ k h.2 hk hσ (g1.keep hd) fun H2 g2 => q _ (g1.trans g2)
      · rename_i e
        cases hk
        refine wt_of (pw_and pt_we hzz).pt (hb_t B C hz hf u y false h.1 e hσ hd fun H1 g1 => ?_)
        rw [if_neg Bool.false_ne_true]
        exact q _ g1
      · cases hk
    · cases h
  | .or u v, x, k, h, hk, σ, H, Q, hσ, hd, q => by
    simp only [agHB] at h
    split at h
    · rename_i y z rest p
      simp only [Bool.and_eq_true] at h
      have hzz : PW (X.suite a ((a, oe) :: pn)) (.BoolOp .Or (z :: rest) p) (WT (X.suite a ((a, oe) :: pn)) (tail2 .Or z p rest)) := by
        cases rest with
        | nil => exact pw_or1 pt_we
        | cons w r => exact pw_of pt_we
      unfold hbV at hk
      split at hk
      · rename_i e
        cases hk
        refine wt_of (pw_or pt_we hzz).pt (hb_t B C hz hf u y true h.1 e hσ hd fun H1 g1 => ?_)
        rw [if_pos rfl]
        exact q _ g1
      · rename_i e
        refine wt_of (pw_or pt_we hzz).pt (hb_t B C hz hf u y false h.1 e hσ hd fun H1 g1 => ?_)
        rw [if_neg Bool.false_ne_true]
        exact hb_t B C hz hf v _ k h.2 hk hσ (g1.keep hd) fun H2 g2 => q _ (g1.trans g2)
      · cases hk
    · cases h
  | .not u, x, k, h, hk, σ, H, Q, hσ, hd, q => by
    simp only [agHB] at h
    split at h
    · rename_i y p
      unfold hbV at hk
      obtain ⟨k', e, rfl⟩ := Option.map_eq_some_iff.mp hk
      exact wt_of (pt_not pt_we) (hb_t B C hz hf u y k' h e hσ hd fun H1 g1 => q _ g1)
    · cases h
/-- a value that a clause returns -/
def Rt (H H' : Hp) (v : V) (d : AV) : Prop := (Grow H H' ∧ ∀ K cs F, Rep K cs F v d) ∨ ∃ H0 p vs ds, Grow H H0 ∧ H0 p = none ∧ H' = upd H0 p (.tup vs) ∧ v = .ref p ∧ d = .tup ds ∧ ∀ K cs F, Reps K cs F vs ds
theorem row_e (B : Bf T Cl X) (C : Cau X.K P Cl c) (hz : Zc (.ref (Cl c)) (some dd) oe) (hf : ∃ vs, oe.data = .fields vs) {σ : L2.St} {H : Hp} {Q : VK} {x : Expr} (h : agRow X.env.scope X.N i x = true) (hσ : σ[i]? = some (some (.ref a))) (hd : H dd = some (.xd [("row", .int n)]))
    (q : Q (.int n) H) : WE (X.suite a ((a, oe) :: pn)) x σ H Q := by
  unfold agRow at h
  split at h
  · rename_i y f pf
    simp only [Bool.and_eq_true, decide_eq_true_eq] at h
    obtain ⟨⟨h2, hs⟩, rfl⟩ := h
    exact we_of (pe_xf C.F C.row hz hf (agEv_ok h2) (base_of hs _ _)) ⟨_, hσ, rfl, rfl, dd, _, .int n, rfl, hd, rfl, q⟩
  · cases h
theorem he_e (B : Bf T Cl X) (C : Cau X.K P Cl c) (hz : Zc (.ref (Cl c)) (some dd) oe) (hf : ∃ vs, oe.data = .fields vs) {σ : L2.St} {H : Hp} {Q : VK} (hσ : σ[i]? = some (some (.ref a))) (hd : H dd = some (.xd [("row", .int n)])) :
    ∀ (e : HE) (x : Expr) (d : AV), agHE T X.env.scope X.N i e x = true → heV P c n e = some d → (∀ v H', Rt H H' v d → Q v H') → WE (X.suite a ((a, oe) :: pn)) x σ H Q
  | .non, x, d, h, hk, q => by
    simp only [agHE] at h
    split at h
    · cases hk
      exact we_of pe_non (q _ _ (.inl ⟨.refl, fun _ _ _ => .non⟩))
    · cases h
  | .bl b, x, d, h, hk, q => by
    simp only [agHE] at h
    split at h
    · cases hk
      have e := of_decide_eq_true h
      subst e
      exact we_of pe_bl (q _ _ (.inl ⟨.refl, fun _ _ _ => .bl _⟩))
    · cases h
  | .row, x, d, h, hk, q => by
    cases hk
    exact row_e B C hz hf h hσ hd (q _ _ (.inl ⟨.refl, fun _ _ _ => .int _⟩))
  | .hb b, x, d, h, hk, q => by
    obtain ⟨k, e, rfl⟩ := Option.map_eq_some_iff.mp hk
    exact hb_e B C hz hf b x k h e hσ hd fun H' g => q _ _ (.inl ⟨g, fun _ _ _ => .bl _⟩)
  | .pair z, x, d, h, hk, q => by
    simp only [agHE] at h
    split at h
    · rename_i y j p w p2 p3
      simp only [Bool.and_eq_true, decide_eq_true_eq] at h
      obtain ⟨⟨rfl, h2⟩, h3⟩ := h
      cases hk
      refine we_of (pe_tup (pa_cons pe_str (pa_cons pe_we pa_nil (star_cons h3 _ _)) rfl)) ?_
      refine row_e B C hz hf h2 hσ hd ⟨(show (2 : Nat) ≤ sizeLine by rw [sizeLine_eq]; decide), fun p hp => q _ _ (.inr ⟨H, p, _, _, .refl, hp, rfl, rfl, rfl, fun _ _ _ => .cons (.str _) (.cons (.int _) .nil)⟩)⟩
    · cases h
theorem gs_ok (B : Bf T Cl X) (C : Cau X.K P Cl c) (hz : Zc (.ref (Cl c)) (some dd) oe) (hf : ∃ vs, oe.data = .fields vs) {σ : L2.St} {D : Ends} {t : TryF} {out : AV} {H0 : Hp} (hσ : σ[i]? = some (some (.ref a)))
    (hrt : ∀ v H', Rt H0 H' v out → D.rt v H') (hnx : ∀ H', Grow H0 H' → t.aft = some out → D.nx σ H') :
    ∀ (gs : List (HB × HE)) (st : List Stmt) (H : Hp), Grow H0 H → H dd = some (.xd [("row", .int n)]) → agGs T X.env.scope X.N i t.fin gs st = true → gsV P c n t gs = some out → WSs (X.suite a ((a, oe) :: pn)) st D σ H
  | [], st, H, g, hd, h, hk => by
    unfold agGs at h
    unfold gsV at hk
    split at h
    · rename_i ef
      rw [ef] at hk
      split at h
      · exact wss_of pss_nil (hnx H g hk)
      · cases h
    · rename_i e ef
      rw [ef] at hk
      split at h
      · rename_i x pos
        refine wss_of (pss_cons (ps_ret pe_we) pss_nil) ?_
        refine he_e B C hz hf hσ hd e x out h hk fun v H' r => hrt v H' ?_
        rcases r with ⟨g2, r⟩ | ⟨H1, p, vs, ds, g2, r⟩
        · exact .inl ⟨g.trans g2, r⟩
        · exact .inr ⟨H1, p, vs, ds, g.trans g2, r⟩
      · cases h
  | (b, e) :: r, st, H, g, hd, h, hk => by
    unfold agGs at h
    split at h
    · rename_i tx x p1 p2 st'
      simp only [Bool.and_eq_true] at h
      obtain ⟨⟨h1, h2⟩, h3⟩ := h
      unfold gsV at hk
      refine wss_of (pss_cons (ps_if pt_we (pss_cons (ps_ret pe_we) pss_nil) pss_nil) pss_we) ?_
      split at hk
      · rename_i eb
        refine hb_t B C hz hf b tx true h1 eb hσ hd fun H1 g1 => ?_
        rw [if_pos rfl]
        refine he_e B C hz hf hσ (g1.keep hd) e x out h2 hk fun v H' r => hrt v H' ?_
        rcases r with ⟨g2, r⟩ | ⟨H1, p, vs, ds, g2, r⟩
        · exact .inl ⟨(g.trans g1).trans g2, r⟩
        · exact .inr ⟨H1, p, vs, ds, (g.trans g1).trans g2, r⟩
      · rename_i eb
        refine hb_t B C hz hf b tx false h1 eb hσ hd fun H1 g1 => ?_
        rw [if_neg Bool.false_ne_true]
        exact gs_ok B C hz hf hσ hrt hnx r st' H1 (g.trans g1) (g1.keep hd) h3 hk
      · cases hk
    · cases h
end
/-! ### the def that tries -/
/-- what a def that an exception may leave keeps -/
def spX (K : PySem.W.Frag) (Cl : Nat → Addr) (call : List AV → AHeap → (AV → AHeap → Prop) → (Nat → Int → AHeap → Prop) → Prop) : Sp := fun vs H Q E => ∃ cs F h ds Qa Ea, StOk K Cl cs F H h ∧ Reps K cs F vs ds ∧ call ds h Qa Ea ∧
  (∀ v d cs' F' H' h', Stp cs F H cs' F' H' → StOk K Cl cs' F' H' h' → Rep K cs' F' v d → Qa d h' → Q v H') ∧
  (∀ c n cs' F' H' h', Stp cs F H cs' F' H' → StOk K Cl cs' F' H' h' → Ea c n h' → ∀ dd, H' dd = none → E (.ref (Cl c)) (some dd) (upd H' dd (.xd [("row", .int n)])))
def agAT (sc : Scope) (N : List Str) : List AT → List Expr → Bool
  | [], xs => match xs with
    | [] => true
    | _ => false
  | .v i :: r, xs => match xs with
    | y :: ys => agVar sc N i y && notStar y && agAT sc N r ys
    | _ => false
  | .s z :: r, xs => match xs with
    | .Constant (.str y) _ _ :: ys => decide (z = y) && agAT sc N r ys
    | _ => false
def tAT : List AT → TA
  | [] => tNil
  | .v i :: r => tCons (tVar i) (tAT r)
  | .s z :: r => tCons (tC (.str z)) (tAT r)
def agAft (d : Option AV) (st : List Stmt) : Bool := match d with
  | some .non => match st with
    | [.Return (some (.Constant .none _ _)) _] => true
    | [] => true
    | _ => false
  | some (.bl b) => match st with
    | [.Return (some (.Constant (.bool j) _ _)) _] => decide (b = j)
    | _ => false
  | _ => false
def agTry (T : Tab) (sc : Scope) (N : List Str) (t : TryF) : List Stmt → Bool
  | .Try [.Expr (.Call (.Name xg _) (e :: es) [] cpos) _] [.ExceptHandler (some (.Name xc _)) (some xn) (b₀ :: suite) _] [] [] _ :: aft => decide (t.ok = none) && decide (T.fname t.g = some xg) && glB sc xg && plainName xg && agAT sc N t.args (e :: es) &&
    decide (T.xname t.c = some xc) && glB sc xc && plainName xc && decide (N[t.i]? = some xn) && decide (sc.names.lookup xn = some .local) && agGs T sc N t.i t.fin t.gs (b₀ :: suite) && agAft t.aft aft
  | _ => false
section
variable {T : Tab} {Cl : Nat → Addr} {X : Cx} {P : Prg}
theorem agAT_ok : ∀ {ts : List AT} {xs : List Expr}, agAT X.env.scope X.N ts xs = true → PA X xs (tAT ts) ∧ xs.all notStar = true
  | [], xs, h => by
    unfold agAT at h
    split at h
    · exact ⟨pa_nil, rfl⟩
    · cases h
  | .v i :: r, xs, h => by
    unfold agAT at h
    split at h
    · rename_i y ys
      simp only [Bool.and_eq_true] at h
      obtain ⟨⟨h1, h2⟩, h3⟩ := h
      obtain ⟨p, q⟩ := agAT_ok h3
      unfold agVar at h1
      split at h1
      · rename_i id p'
        simp only [Bool.and_eq_true, decide_eq_true_eq] at h1
        obtain ⟨⟨k1, k2⟩, k3⟩ := h1
        obtain ⟨n1, n2, _⟩ := plainName_ok k3
        exact ⟨pa_cons (pe_var k1 (visB_ok k2) n1 n2) p (star_cons h2 _ _), by rw [List.all_cons, h2, q]; rfl⟩
      · cases h1
    · cases h
  | .s z :: r, xs, h => by
    unfold agAT at h
    split at h
    · rename_i y j p' ys
      simp only [Bool.and_eq_true, decide_eq_true_eq] at h
      obtain ⟨rfl, h3⟩ := h
      obtain ⟨p, q⟩ := agAT_ok h3
      exact ⟨pa_cons pe_str p rfl, by rw [List.all_cons, q]; rfl⟩
    · cases h
theorem tAT_ok {K : PySem.W.Frag} {cs : List Addr} {F H : Hp} {vs0 : List V} {ds : List AV} {σ : L2.St} (rs : Reps K cs F vs0 ds) (hσ : ∀ (i : Nat) (v : L2.V), vs0[i]? = some v → σ[i]? = some (some v)) : ∀ {ts : List AT} {xs : List AV} {Q : List V → Hp → Prop}, argV ds ts = some xs →
    (∀ vs, Reps K cs F vs xs → Q vs H) → tAT ts σ H Q
  | [], xs, Q, h, q => by
    cases h
    exact q [] .nil
  | .v i :: r, xs, Q, h, q => by
    unfold argV at h
    split at h
    · rename_i d xs' h1 h2
      cases h
      obtain ⟨v, e1, e2⟩ := rs.get h1
      exact ⟨v, hσ i v e1, tAT_ok rs hσ h2 fun vs r => q _ (.cons e2 r)⟩
    · cases h
  | .s z :: r, xs, Q, h, q => by
    obtain ⟨xs', h2, rfl⟩ := Option.map_eq_some_iff.mp h
    show tAT r σ H fun vs H1 => Q (.str z :: vs) H1
    exact tAT_ok (Q := fun vs H1 => Q (.str z :: vs) H1) rs hσ h2 fun vs r => q _ (.cons (.str _) r)
theorem aft_ok {d : Option AV} {st : List Stmt} (h : agAft d st = true) : ∃ d', d = some d' ∧ ∃ v, (∀ K cs F, Rep K cs F v d') ∧ PSs X st (fun D σ H => (D.rt v H ∧ (v = .non → D.nx σ H))) := by
  unfold agAft at h
  split at h
  · split at h
    · exact ⟨_, rfl, .non, fun _ _ _ => .non, ⟨fun pins s σ H D I z => (pss_cons (ps_ret pe_non) pss_nil).run pins s σ H D I z.1⟩⟩
    · exact ⟨_, rfl, .non, fun _ _ _ => .non, ⟨fun pins s σ H D I z => pss_nil.run pins s σ H D I (z.2 rfl)⟩⟩
    · cases h
  · split at h
    · have e := of_decide_eq_true h
      subst e
      exact ⟨_, rfl, .bl _, fun _ _ _ => .bl _, ⟨fun pins s σ H D I z => (pss_cons (ps_ret pe_bl) pss_nil).run pins s σ H D I z.1⟩⟩
    · cases h
  · cases h
/-- the statement and what stands behind it, where no exception leaves -/
theorem try_ok {t : TryF} {st : List Stmt} {kg : Nat} {ag : Addr} {fdg : FuncData} {psg : List Str} {call : List AV → AHeap → (AV → AHeap → Prop) → (Nat → Int → AHeap → Prop) → Prop} (B : Bf T Cl X) (nd : X.N.Nodup) (gd : X.A.guards = some []) (hs : X.stack = X.env :: X.outer) (hf : X.env.frame = some X.env.locals)
    (hx : ∀ e s, ¬ X.xe e s) (h : agTry T X.env.scope X.N t st = true) (hC : ∀ c b, P.sub.lookup (c, t.c) = some b → Cau X.K P Cl c) (hE : ∀ c, P.sub.lookup (c, t.c) = some true → PySem.W.exmOne X.K (.ref (Cl c)) (.ref (Cl t.c)) = some true)
    (hg : ∀ xg, T.fname t.g = some xg → X.mg xg = some (.ref ag) ∧ PySem.W.keepIn X.K (.ref ag) = true) (F : FnGX X.prog X.w X.K X.mg X.base kg ag fdg psg (spX X.K Cl call)) (room : Room kg X.A) (bnd : Binds X.K fdg psg [])
    {cs : List Addr} {F0 H : Hp} {hp : AHeap} {vs0 : List L2.V} {ds xs : List AV} {σ : L2.St} {D : Ends} {Q : AV → AHeap → Prop} (S : StOk X.K Cl cs F0 H hp) (rs : Reps X.K cs F0 vs0 ds) (hσ : ∀ (i : Nat) (v : L2.V), vs0[i]? = some v → σ[i]? = some (some v)) (hl : σ.length = X.N.length)
    (ha : argV ds t.args = some xs) (w : call xs hp (fun v h2 => match okV t v with
      | some d => Q d h2
      | none => False) (fun c n h2 => match tryV P c n t with
      | some d => Q d h2
      | none => False))
    (hnx : ∀ cs' F' H' h' σ', Stp cs F0 H cs' F' H' → StOk X.K Cl cs' F' H' h' → Q .non h' → D.nx σ' H')
    (hrt : ∀ v d cs' F' H' h', Stp cs F0 H cs' F' H' → StOk X.K Cl cs' F' H' h' → Rep X.K cs' F' v d → Q d h' → D.rt v H') : WSs X st D σ H := by
  unfold agTry at h
  split at h
  · rename_i xg p1 e es cpos p2 xc p3 xn b₀ suite p4 p5 aft
    simp only [Bool.and_eq_true, decide_eq_true_eq] at h
    obtain ⟨⟨⟨⟨⟨⟨⟨⟨⟨⟨⟨h0, h1⟩, h2⟩, h3⟩, h4⟩, h5⟩, h6⟩, h7⟩, h8⟩, h9⟩, h10⟩, h11⟩ := h
    obtain ⟨d', ed, va, ra, pa⟩ := aft_ok (X := X) h11
    obtain ⟨mg, kp⟩ := hg xg h1
    have tk : Takes X (fun _ _ _ _ => False) := fun u s' ⟨_, _, _, _, _, _, _, _, _, _, _, _, _, _, _, _, z⟩ => z.elim
    obtain ⟨pargs, pst⟩ := agAT_ok h4
    have hst : notStar e = true := by rw [List.all_cons, Bool.and_eq_true] at pst; exact pst.1
    have hes : es.all notStar = true := by rw [List.all_cons, Bool.and_eq_true] at pst; exact pst.2
    have T1 := ps_try_as (X := X) (x := xc) (n := xn) (c := .ref (Cl t.c)) (i := t.i) (body := [.Expr (.Call (.Name xg p1) (e :: es) [] cpos) p2]) (suite := suite) (b₀ := b₀) (np := p3) (pos := p5) (pos' := p4)
      (tb := fun W => tSeq (tDrop (fun σ H Q => tAT t.args σ H fun vs H1 => spX X.K Cl call vs H1 Q fun c d H' => W c d σ H')) tNext)
      (ts := fun a cls d D σ H => ∃ c n dd out, cls = .ref (Cl c) ∧ d = some dd ∧ Cau X.K P Cl c ∧ H dd = some (.xd [("row", .int n)]) ∧ σ[t.i]? = some (some (.ref a)) ∧ gsV P c n t t.gs = some out ∧ (∀ v H', Rt H H' v out → D.rt v H') ∧ (∀ H', Grow H H' → t.aft = some out → D.nx σ H'))
      (Wout := fun _ _ _ _ => False) hs hf nd h8 h9 ⟨glB_ok h6, (plainName_ok h7).1, .inl (B.xn _ _ h5)⟩ tk
      (fun W pn xe tk2 po => pss_cons (ps_expr (FnGX.call (X := X.tr pn xe) F gd room (glB_ok (X := X.tr pn xe) h2) mg kp bnd tk2 (show PA (X.tr pn xe) (e :: es) (tAT t.args) from (agAT_ok (X := X.tr pn xe) h4).1) (plainName_ok h3).1 (star_cons hst _ _) (star_all hes _ _)) rfl) pss_nil)
      (fun a oe cls d pn hz hfv => ⟨fun pins s σ H D I ⟨c, n, dd, out, e1, e2, C, e3, e4, e5, e6, e7⟩ => by
        subst e1 e2
        exact gs_ok B C hz hfv e4 e6 e7 t.gs (b₀ :: suite) H .refl e3 h10 e5 pins s I⟩)
    refine wss_of (pss_cons T1 pa) ?_
    show tAT t.args σ H fun vs H1 => _
    refine tAT_ok rs hσ ha fun vs rv => ?_
    refine ⟨cs, F0, hp, xs, _, _, S, rv, w, ?_, ?_⟩
    · intro v d cs' F' H' h' x' S' r' q'
      unfold okV at q'
      rw [h0, ed] at q'
      exact ⟨hrt va d' cs' F' H' h' x' S' (ra _ _ _) q', fun z => by
        subst z
        have := ra X.K cs' F'
        cases this
        exact hnx _ _ _ _ _ x' S' q'⟩
    · intro c n cs' F' H' h' x' S' q' dd hdd
      have q2 : ∃ out, tryV P c n t = some out ∧ Q out h' := by
        cases ho : tryV P c n t with
        | none => rw [ho] at q'; exact q'.elim
        | some out => rw [ho] at q'; exact ⟨out, rfl, q'⟩
      obtain ⟨out, ho, q3⟩ := q2
      unfold tryV at ho
      split at ho
      · rename_i es2
        refine ⟨true, hE c es2, fun _ a ha2 => ?_, fun z => by cases z⟩
        have hi : t.i < σ.length := by rw [hl]; exact (List.getElem?_eq_some_iff.mp h8).1
        refine ⟨c, n, dd, out, rfl, rfl, hC c true es2, upd_same, List.getElem?_set_self hi, ho, ?_, ?_⟩
        · intro v H'' r
          have S1 : StOk X.K Cl cs' F' (upd H' dd (.xd [("row", .int n)])) h' := S'.newN hdd
          have x1 : Stp cs' F' H' cs' F' (upd H' dd (.xd [("row", .int n)])) := Stp.newN hdd
          rcases r with ⟨g, r⟩ | ⟨H0, p, vs2, ds2, g, hp0, rfl, rfl, rfl, r⟩
          · obtain ⟨S2, x2⟩ := g.step S1
            exact hrt v out _ _ _ _ ((x'.trans x1).trans x2) S2 (r _ _ _) q3
          · obtain ⟨S2, x2⟩ := g.step S1
            exact hrt _ _ _ _ _ _ (((x'.trans x1).trans x2).trans (Stp.newF S2 hp0)) (S2.newF hp0) (.tup (ex_t (fun _ _ z => z) (.inl (.inl upd_same))) (r _ _ _)) q3
        · intro H'' g ea
          have S1 : StOk X.K Cl cs' F' (upd H' dd (.xd [("row", .int n)])) h' := S'.newN hdd
          have x1 : Stp cs' F' H' cs' F' (upd H' dd (.xd [("row", .int n)])) := Stp.newN hdd
          obtain ⟨S2, x2⟩ := g.step S1
          rw [ed] at ea
          cases ea
          exact ⟨hrt va _ _ _ _ _ ((x'.trans x1).trans x2) S2 (ra _ _ _) q3, fun z => by
            subst z
            have := ra X.K cs' F'
            cases this
            exact hnx _ _ _ _ _ ((x'.trans x1).trans x2) S2 q3⟩
      · cases ho
  · cases h
end
end VL

set_option maxRecDepth 100000
set_option maxHeartbeats 4000000
/-! VL: a program's defs keep what the transformers say; the end of a law. -/
namespace VL
open PySem L2 Evl PyProof.Rows PySem.Spec

/-! ### the scope of a def, by one check -/
def scB (N ps : List Str) (sc : Scope) : Bool :=
  (match sc.kind with | .function => true | _ => false) && !sc.isCoroutine && !sc.isGenerator && decide N.Nodup && decide (N.take ps.length = ps) && ps.all (fun x => locB sc x) && sc.names.all (fun y => decide (y.2 ≠ .free))
theorem scB_ok {N ps : List Str} {sc : Scope} (h : scB N ps sc = true) : FnScope N ps sc := by
  unfold scB at h
  simp only [Bool.and_eq_true, Bool.not_eq_true', decide_eq_true_eq, List.all_eq_true] at h
  obtain ⟨⟨⟨⟨⟨⟨h1, h2⟩, h3⟩, h4⟩, h5⟩, h6⟩, h7⟩ := h
  refine ⟨?_, h2, h3, h4, h5, fun x hx => ?_, fun y hy => h7 y hy⟩
  · split at h1
    · assumption
    · cases h1
  · rcases locB_ok (h6 x hx) with q | q
    · exact .inl q
    · exact .inr q
/-- a def of the text and what it is in our syntax -/
structure FnT where
  name : Str
  st : Stmt
  N : List Str
  ps : List Str
def agF (T : Tab) (t : FnT) (F : Fn) : Bool := scB t.N t.ps (defScope t.st) && agSs T (defScope t.st) t.N F.body (defBody t.st) && decide (t.N.length = F.ns) && decide (t.ps.length = F.np)

/-- a def that tries, of the text and in our syntax -/
def agTF (T : Tab) (t : FnT) (y : TryF) : Bool := scB t.N t.ps (defScope t.st) && agTry T (defScope t.st) t.N y (defBody t.st) && decide (t.N.length = y.ns) && decide (t.ps.length = y.np) && y.args.all fun a => match a with
  | .v i => decide (i < y.np)
  | .s _ => true
/-- a class of exceptions in the written part -/
structure ExcP (K : PySem.W.Frag) (mg : Str → Option Value) (x : Str) (C : Addr) : Prop where
  mg : mg x = some (.ref C)
  ox : OexC K C
  row : PySem.W.findIn K (.ref C) "row" = some none
  ini : ∃ fI fd nm qn st, PySem.W.findIn K (.ref C) "__init__" = some (some (.ref fI)) ∧ PySem.W.typeIn K (.ref fI) = some (.type "function") ∧ Fun K nm qn st fI fd ∧ FnScope ["self", "row"] ["self", "row"] (defScope st) ∧ Vis (defScope st) "self" ∧ Vis (defScope st) "row" ∧ isRowInit (defBody st) = true ∧ Binds K fd ["self", "row"] []
structure PFacts (w : World) (P : Prg) (T : Tab) (Cl : Nat → Addr) (ts : Nat → Option FnT) (K : PySem.W.Frag) (mg : Str → Option Value) : Prop where
  blt : ∀ x, x ∈ bltNames → mg x = none
  glob : ∀ g d, P.glob.lookup g = some d → ∃ u v, mg (T.gname g) = some u ∧ RelV v u ∧ ∀ cs F, Rep K cs F v d
  fn : ∀ f F, P.fns.lookup f = some F → ∃ t a fd qual, ts f = some t ∧ Fun K t.name qual t.st a fd ∧ agF T t F = true ∧ Binds K fd t.ps [] ∧ ∀ x, T.fname f = some x → mg x = some (.ref a) ∧ PySem.W.keepIn K (.ref a) = true
  fnm : ∀ f x, T.fname f = some x → (∃ F, P.fns.lookup f = some F) ∨ ∃ t, P.tryf.lookup f = some t
  cls : ∀ c x, T.cname c = some x → ∃ f F t a fd qual, P.init.lookup c = some f ∧ P.fns.lookup f = some F ∧ ts f = some t ∧ Fun K t.name qual t.st a fd ∧ agF T t F = true ∧ Binds K fd t.ps [] ∧ mg x = some (.ref (Cl c)) ∧ Mk K (Cl c) a
  mth : ∀ c m f, P.meth.lookup (c, m) = some f → ∃ F t a fd qual, P.fns.lookup f = some F ∧ ts f = some t ∧ Fun K t.name qual t.st a fd ∧ agF T t F = true ∧ Binds K fd t.ps [] ∧ Cls K (Cl c) ∧ Meth K (Cl c) m a
  fld : ∀ c f, P.flds.contains (c, f) = true → Cls K (Cl c) ∧ NoAttr K (Cl c) f
  gdc : ∀ g x, T.dname g = some x → ∃ kvs d, P.gdct.lookup g = some kvs ∧ mg x = some (.ref d) ∧ GDict K w d kvs
  isc : ∀ c x, T.iname c = some x → mg x = some (.ref (Cl c)) ∧ C8.InsC K (Cl c)
  exc : ∀ c x, T.ename c = some x → ExcP K mg x (Cl c)
  tfn : ∀ f t, P.tryf.lookup f = some t → P.fns.lookup f = none ∧ mg "ValueError" = none ∧ (∃ x F, T.fname t.g = some x ∧ P.fns.lookup t.g = some F) ∧ (∀ c, P.sub.lookup (c, t.c) = some true → PySem.W.exmOne K (.ref (Cl c)) (.ref (Cl t.c)) = some true) ∧
    ∃ tt a fd qual, ts f = some tt ∧ Fun K tt.name qual tt.st a fd ∧ agTF T tt t = true ∧ Binds K fd tt.ps [] ∧ ∀ x, T.fname f = some x → mg x = some (.ref a) ∧ PySem.W.keepIn K (.ref a) = true
  cau : ∀ c d b, P.sub.lookup (c, d) = some b → Cau K P Cl c
  xnm : ∀ d x, T.xname d = some x → mg x = some (.ref (Cl d))

section
variable {prog : Program} {w : World} {K : PySem.W.Frag} {mg : Str → Option Value} {base : Heap} {P : Prg} {T : Tab} {Cl : Nat → Addr} {ts : Nat → Option FnT}
theorem getS_start {ds : List AV} : ∀ {vs : List V} {cs : List Addr} {F : Hp} {k i : Nat} {d : AV}, Reps K cs F vs ds → getS (ds.map Slot.val ++ List.replicate k Slot.no) i = .val d → ∃ v, vs[i]? = some v ∧ Rep K cs F v d := by
  induction ds with
  | nil =>
    intro vs cs F k i d r h
    have : ∀ (k i : Nat), getS (List.replicate k Slot.no) i = .no := by
      intro k
      induction k with
      | zero => intro i; rfl
      | succ k ih => intro i; cases i with
        | zero => rfl
        | succ i => exact ih i
    rw [List.map_nil, List.nil_append, this] at h
    cases h
  | cons x ds ih =>
    intro vs cs F k i d r h
    cases r with
    | cons r rs =>
      cases i with
      | zero => cases h; exact ⟨_, rfl, r⟩
      | succ i =>
        obtain ⟨v, h1, h2⟩ := ih (i := i) rs h
        exact ⟨v, by simpa using h1, h2⟩
theorem getS_startO {ds : List AV} : ∀ {k i : Nat} {c : Cell}, getS (ds.map Slot.val ++ List.replicate k Slot.no) i ≠ .own c := by
  induction ds with
  | nil =>
    intro k
    induction k with
    | zero => intro i c h; cases h
    | succ k ih => intro i c h; cases i with
      | zero => cases h
      | succ i => exact ih h
  | cons x ds ih =>
    intro k i c h
    cases i with
    | zero => cases h
    | succ i => exact ih h
theorem env_start {cs : List Addr} {F H : Hp} {N : List Str} {vs : List V} {ds : List AV} {ns : Nat} (hn : N.length = ns) (hl : vs.length ≤ N.length) (r : Reps K cs F vs ds) : EnvOk K Cl cs F H (L2.start N vs) (ds.map Slot.val ++ List.replicate (ns - ds.length) Slot.no) where
  len := by
    unfold L2.start
    simp only [List.length_append, List.length_map, List.length_replicate]
    rw [r.length, hn]
  val := fun i d h => by
    obtain ⟨v, h1, h2⟩ := getS_start r h
    refine ⟨v, ?_, h2⟩
    unfold L2.start
    rw [List.getElem?_append_left (by simpa using (List.getElem?_eq_some_iff.mp h1).1), List.getElem?_map, h1]
    rfl
  own := fun i c h => absurd h getS_startO
  dis := fun i j c c' a _ h => absurd h getS_startO
/-- what stands around a def's body -/
theorem sok_of {X : Cx} {n k : Nat} (hF : PFacts X.w P T Cl ts X.K X.mg) (nd : X.N.Nodup) (calm : X.calm = true) (gd : X.A.guards = some []) (room : Room (k + 2) X.A)
    (all : ∀ (f : Nat) (t : FnT) (a : Addr) (fd : FuncData) (qual : Str), ts f = some t → Fun X.K t.name qual t.st a fd → ((∃ F, P.fns.lookup f = some F ∧ agF T t F = true) ∨ (∃ y, P.fns.lookup f = none ∧ P.tryf.lookup f = some y ∧ agTF T t y = true)) → FnG X.prog X.w X.K X.mg X.base k a fd t.ps (spOf X.K Cl (ctxOf P (callN P n)) f))
    (pass : PassesOwn (model X.prog X.w) X.A X.env X.xe) (sto : Sto X.env.scope X) : SOk (ctxOf P (callN P n)) T Cl X := by
  refine ⟨⟨nd, calm, ?_, gd, hF.blt, hF.glob, fun g x hg => ?_, fun c x hx => ?_, fun c m g hx => ?_, hF.fld, hF.gdc, hF.isc⟩, fun c x hx => ?_, pass, sto⟩
  · have := room.un
    omega
  · rcases hF.fnm g x hg with ⟨G, hG⟩ | ⟨y, hy⟩
    · obtain ⟨t', a', fd', qual', e1, e2, e3, e4, e5⟩ := hF.fn g G hG
      exact ⟨k, a', fd', t'.ps, all g t' a' fd' qual' e1 e2 (.inl ⟨G, hG, e3⟩), room.mono (by omega), (e5 x hg).1, (e5 x hg).2, e4⟩
    · obtain ⟨e0, _, _, _, t', a', fd', qual', e1, e2, e3, e4, e5⟩ := hF.tfn g y hy
      exact ⟨k, a', fd', t'.ps, all g t' a' fd' qual' e1 e2 (.inr ⟨y, e0, hy, e3⟩), room.mono (by omega), (e5 x hg).1, (e5 x hg).2, e4⟩
  · obtain ⟨g, G, t', a', fd', qual', e0, hG, e1, e2, e3, e4, e5, e6⟩ := hF.cls c x hx
    exact ⟨g, k, a', fd', t'.ps, e0, all g t' a' fd' qual' e1 e2 (.inl ⟨G, hG, e3⟩), room.mono (by omega), e5, e6, e4⟩
  · obtain ⟨G, t', a', fd', qual', hG, e1, e2, e3, e4, e5, e6⟩ := hF.mth c m g hx
    exact ⟨k, a', fd', t'.ps, all g t' a' fd' qual' e1 e2 (.inl ⟨G, hG, e3⟩), room.mono (by omega), e5, e6, e4⟩
  · have E := hF.exc c x hx
    obtain ⟨fI, fd, nm, qn, st, i1, i2, i3, i4, i5, i6, i7, i8⟩ := E.ini
    exact ⟨E.mg, E.ox, E.row, fI, 1, fd, i1, i2, row_init i3 i4 i5 i6 i7, room.mono (by omega), i8⟩
theorem sto_of {prog : Program} {CX : CXT} {N : List Str} {qual : Str} {st : Stmt} {a : Addr} {cdv : Value} {A : Around} {outer : List PySem.Env} {s : Shared} {H : Hp} {E : XK} :
    Sto (defScope st) (cxOf CX prog w K mg base N qual (defScope st) a cdv A outer s H E) := fun id hid => by
  unfold tgN at hid
  simp only [Bool.or_eq_true, Bool.and_eq_true, decide_eq_true_eq] at hid
  rcases hid with hid | hid
  · exact ⟨.inl hid.1, .inl rfl⟩
  · exact ⟨.inr hid.1, .inl rfl⟩
theorem start_get {N : List Str} {vs : List L2.V} {i : Nat} {v : L2.V} (h : vs[i]? = some v) : (L2.start N vs)[i]? = some (some v) := by
  unfold L2.start
  rw [List.getElem?_append_left (by simpa using (List.getElem?_eq_some_iff.mp h).1), List.getElem?_map, h]
  rfl
theorem start_len {N : List Str} {vs : List L2.V} (h : vs.length ≤ N.length) : (L2.start N vs).length = N.length := by
  unfold L2.start
  simp only [List.length_append, List.length_map, List.length_replicate]
  omega
theorem scope_len {t : FnT} {vs : List L2.V} {np : Nat} (sc : FnScope t.N t.ps (defScope t.st)) (e : vs.length = np) (h4 : t.ps.length = np) : vs.length ≤ t.N.length := by
  have := congrArg List.length sc.pre
  rw [List.length_take] at this
  omega
/-- a def whose exceptions are told -/
theorem fn_x {n : Nat} (hF : PFacts w P T Cl ts K mg) (all : ∀ (f : Nat) (t : FnT) (a : Addr) (fd : FuncData) (qual : Str), ts f = some t → Fun K t.name qual t.st a fd → ((∃ F, P.fns.lookup f = some F ∧ agF T t F = true) ∨ (∃ y, P.fns.lookup f = none ∧ P.tryf.lookup f = some y ∧ agTF T t y = true)) → FnG prog w K mg base (4 * n) a fd t.ps (spOf K Cl (ctxOf P (callN P n)) f))
    {f : Nat} {F : Fn} {t : FnT} {a : Addr} {fd : FuncData} {qual : Str} (hf : P.fns.lookup f = some F) (hfun : Fun K t.name qual t.st a fd) (hag : agF T t F = true) : FnGX prog w K mg base (4 * n + 3) a fd t.ps (spX K Cl (bodyW P (callN P n) f)) := by
  unfold agF at hag
  simp only [Bool.and_eq_true, decide_eq_true_eq] at hag
  obtain ⟨⟨⟨h1, h2⟩, h3⟩, h4⟩ := hag
  have sc := scB_ok h1
  have call : ∀ ds h Qa Ea, bodyW P (callN P n) f ds h Qa Ea → ds.length = F.np ∧ WpSs (ctxOf P (callN P n)) F.body { nx := fun _ h => Qa .non h, rt := Qa, ex := Ea } (startS F ds) h := fun ds h Qa Ea z => by
    unfold bodyW at z
    rw [hf] at z
    exact z
  refine FnGX.of_body (k := 4 * n + 2) hfun sc (fun vs H Q E ⟨cs, F', h, ds, Qa, Ea, _, r, z, _⟩ => ?_) (fun cdv A outer s H vs Q E hgd hr ⟨cs, F', h, ds, Qa, Ea, S, r, z, k, kx⟩ => ?_)
  · rw [r.length, (call _ _ _ _ z).1, h4]
  · obtain ⟨z1, z2⟩ := call _ _ _ _ z
    have hN : vs.length ≤ t.N.length := scope_len sc (r.length.trans z1) h4
    refine ⟨WSs _ (defBody t.st), pss_we, ?_⟩
    have O : SOk (ctxOf P (callN P n)) T Cl (cxOf (L2.CX prog w) prog w K mg base t.N qual (defScope t.st) a cdv A outer s H E) :=
      sok_of hF sc.nd rfl hgd hr all PassesOwn.leaving sto_of
    refine sSs O sc.kind F.body (defBody t.st) h2 cs F' cs F' H { nx := fun _ h => Qa .non h, rt := Qa, ex := Ea } _ (startS F ds) h (L2.start t.N vs) cs F' H ⟨?_, ?_, ?_, ?_, (fun cls d _ H => E cls d H), takes_of rfl rfl rfl rfl, ?_⟩ ⟨S, ?_, .refl, ?_, fun _ _ z => z, [], by simp⟩ z2
    · intro cs2 F2 H2 h2 σ2 ρ2 n2 q2
      exact k _ _ _ _ _ _ n2.x n2.S .non q2
    · intro v d cs2 F2 H2 h2 x2 S2 r2 q2
      exact k _ _ _ _ _ _ x2 S2 r2 q2
    · intro cs2 F2 H2 h2 σ2 ρ2 n2 q2
      exact q2.elim
    · intro cs2 F2 H2 h2 σ2 ρ2 n2 q2
      exact q2.elim
    · intro c n cs2 F2 H2 h2 σ2 ρ2 n2 q2 dd hdd
      exact kx _ _ _ _ _ _ n2.x n2.S q2 dd hdd
    · exact env_start h3 hN r
    · intro i c a' hh
      exact absurd hh getS_startO
/-- every def, to any depth -/
theorem fn_any (hF : PFacts w P T Cl ts K mg) : ∀ (n f : Nat) (t : FnT) (a : Addr) (fd : FuncData) (qual : Str), ts f = some t → Fun K t.name qual t.st a fd → ((∃ F, P.fns.lookup f = some F ∧ agF T t F = true) ∨ (∃ y, P.fns.lookup f = none ∧ P.tryf.lookup f = some y ∧ agTF T t y = true)) →
    FnG prog w K mg base (4 * n) a fd t.ps (spOf K Cl (ctxOf P (callN P n)) f)
  | 0, f, t, a, fd, qual, ht, hfun, hag =>
    ⟨fun vs H Q E ⟨_, _, _, _, _, _, _, z, _⟩ => (show False from z).elim, fun A outer s H args us vs Q E _ _ _ _ _ ⟨_, _, _, _, _, _, _, z, _⟩ => (show False from z).elim⟩
  | n + 1, f, t, a, fd, qual, ht, hfun, .inl ⟨F, hf, hag⟩ => by
    unfold agF at hag
    simp only [Bool.and_eq_true, decide_eq_true_eq] at hag
    obtain ⟨⟨⟨h1, h2⟩, h3⟩, h4⟩ := hag
    have sc := scB_ok h1
    have call : ∀ ds h Qa, callN P (n + 1) f ds h Qa → ds.length = F.np ∧ WpSs (ctxOf P (callN P n)) F.body { nx := fun _ h => Qa .non h, rt := Qa } (startS F ds) h := fun ds h Qa z => by
      have z' : (match P.fns.lookup f with
        | none => match P.tryf.lookup f with
          | some t => tryW P (callN P n) t ds h Qa
          | none => False
        | some F => ds.length = F.np ∧ WpSs (ctxOf P (callN P n)) F.body { nx := fun _ h => Qa .non h, rt := Qa } (startS F ds) h) := z
      rw [hf] at z'
      exact z'
    refine FnG.of_body (k := 4 * n + 3) hfun sc (fun vs H Q E ⟨cs, F', h, ds, Qa, _, r, z, _⟩ => ?_) (fun cdv A outer s H vs Q E hgd hr ⟨cs, F', h, ds, Qa, S, r, z, k⟩ => ?_)
    · rw [r.length, (call _ _ _ z).1, h4]
    · obtain ⟨z1, z2⟩ := call _ _ _ z
      have hN : vs.length ≤ t.N.length := scope_len sc (r.length.trans z1) h4
      refine ⟨WSs _ (defBody t.st), pss_we, ?_⟩
      have O : SOk (ctxOf P (callN P n)) T Cl (cxOf CX0 prog w K mg base t.N qual (defScope t.st) a cdv A outer s H E).nox :=
        sok_of hF sc.nd rfl hgd (hr.mono (by omega)) (fn_any hF n) PassesOwn.never (sto_of (prog := prog) (CX := CX0) (w := w) (K := K) (mg := mg) (base := base) (N := t.N) (st := t.st) (A := A) (outer := outer) (H := H) (E := E))
      refine sSs O sc.kind F.body (defBody t.st) h2 cs F' cs F' H { nx := fun _ h => Qa .non h, rt := Qa } _ (startS F ds) h (L2.start t.N vs) cs F' H ⟨?_, ?_, ?_, ?_, (fun _ _ _ _ => False), (fun u s' ⟨_, _, _, _, _, _, _, _, _, _, _, _, _, _, _, _, z⟩ => z.elim), fun _ _ _ _ _ _ _ _ _ z => z.elim⟩ ⟨S, ?_, .refl, ?_, fun _ _ z => z, [], by simp⟩ z2
      · intro cs2 F2 H2 h2 σ2 ρ2 n2 q2
        exact k _ _ _ _ _ _ n2.x n2.S .non q2
      · intro v d cs2 F2 H2 h2 x2 S2 r2 q2
        exact k _ _ _ _ _ _ x2 S2 r2 q2
      · intro cs2 F2 H2 h2 σ2 ρ2 n2 q2
        exact q2.elim
      · intro cs2 F2 H2 h2 σ2 ρ2 n2 q2
        exact q2.elim
      · exact env_start h3 hN r
      · intro i c a' hh
        exact absurd hh getS_startO
  | n + 1, f, t, a, fd, qual, ht, hfun, .inr ⟨y, hf, hy, hag⟩ => by
    unfold agTF at hag
    simp only [Bool.and_eq_true, decide_eq_true_eq] at hag
    obtain ⟨⟨⟨⟨h1, h2⟩, h3⟩, h4⟩, h5⟩ := hag
    have sc := scB_ok h1
    have call : ∀ ds h Qa, callN P (n + 1) f ds h Qa → tryW P (callN P n) y ds h Qa := fun ds h Qa z => by
      have z' : (match P.fns.lookup f with
        | none => match P.tryf.lookup f with
          | some t => tryW P (callN P n) t ds h Qa
          | none => False
        | some F => ds.length = F.np ∧ WpSs (ctxOf P (callN P n)) F.body { nx := fun _ h => Qa .non h, rt := Qa } (startS F ds) h) := z
      rw [hf, hy] at z'
      exact z'
    obtain ⟨_, hve, ⟨xg, Fg, hx1, hx2⟩, hexm, _⟩ := hF.tfn f y hy
    obtain ⟨tg, ag, fdg, qualg, g1, g2, g3, g4, g5⟩ := hF.fn y.g Fg hx2
    have FX := fn_x (prog := prog) (base := base) hF (fn_any hF n) hx2 g2 g3
    refine FnG.of_body (k := 4 * n + 3) hfun sc (fun vs H Q E ⟨cs, F', h, ds, Qa, _, r, z, _⟩ => ?_) (fun cdv A outer s H vs Q E hgd hr ⟨cs, F', h, ds, Qa, S, r, z, k⟩ => ?_)
    · rw [r.length, (call _ _ _ z).1, h4]
    · obtain ⟨z1, z2⟩ := call _ _ _ z
      have hN : vs.length ≤ t.N.length := scope_len sc (r.length.trans z1) h4
      refine ⟨WSs _ (defBody t.st), pss_we, ?_⟩
      cases ha : argV ds y.args with
      | none => rw [ha] at z2; exact z2.elim
      | some xs =>
        rw [ha] at z2
        exact try_ok (X := (cxOf CX0 prog w K mg base t.N qual (defScope t.st) a cdv A outer s H E).nox) (P := P) ⟨hF.blt, hve, hF.xnm⟩ sc.nd hgd rfl rfl (fun _ _ z => z) h2 (fun c b e => hF.cau c _ b e) hexm (fun x hx => g5 x hx) FX hr g4 S r (fun i v h => start_get h) (start_len hN) ha z2
          (fun cs' F' H' h' σ' x' S' q' => k _ _ _ _ _ _ x' S' .non q') (fun v d cs' F' H' h' x' S' r' q' => k _ _ _ _ _ _ x' S' r' q')
theorem fn_all (hF : PFacts w P T Cl ts K mg) (n f : Nat) (F : Fn) (hf : P.fns.lookup f = some F) (t : FnT) (a : Addr) (fd : FuncData) (qual : Str) (h1 : ts f = some t) (h2 : Fun K t.name qual t.st a fd) (h3 : agF T t F = true) :
    FnG prog w K mg base (4 * n) a fd t.ps (spOf K Cl (ctxOf P (callN P n)) f) := fn_any hF n f t a fd qual h1 h2 (.inl ⟨F, hf, h3⟩)
end

/-! ### constants of the module -/
theorem relV_of {u : Value} {v : V} (h : absV u = some v) : RelV v u := by
  cases u <;> simp [absV] at h <;> subst h <;> first | rfl | exact ⟨_, rfl⟩
def valsOf : List Value → Option (List V)
  | [] => some []
  | u :: us => match absV u, valsOf us with
    | some v, some vs => some (v :: vs)
    | _, _ => none
theorem vals_of : ∀ {us : List Value} {vs : List V}, valsOf us = some vs → Vals vs us
  | [], vs, h => by simp [valsOf] at h; subst h; exact .nil
  | u :: us, vs, h => by
    simp only [valsOf] at h
    split at h
    · rename_i v vs' h1 h2
      cases h
      exact .cons (relV_of h1) (vals_of h2)
    · cases h
/-- plain items -/
def flatOf : List V → Option (List AV)
  | [] => some []
  | .non :: r => (flatOf r).map (.non :: ·)
  | .bl b :: r => (flatOf r).map (.bl b :: ·)
  | .int b :: r => (flatOf r).map (.int b :: ·)
  | .str b :: r => (flatOf r).map (.str b :: ·)
  | _ => none
theorem flat_reps {K : PySem.W.Frag} {cs : List Addr} {F : Hp} : ∀ {vs : List V} {ds : List AV}, flatOf vs = some ds → Reps K cs F vs ds
  | [], ds, h => by simp [flatOf] at h; subst h; exact .nil
  | v :: vs, ds, h => by
    cases v <;> simp [flatOf] at h <;> obtain ⟨l, h1, h2⟩ := h <;> subst h2 <;> refine .cons ?_ (flat_reps h1)
    · exact .non
    · exact .bl _
    · exact .int _
    · exact .str _
/-- a tuple of plain items that stands in the written part -/
theorem tup_glob {K : PySem.W.Frag} {a : Addr} {od : Option Addr} {its : Array Value} {n : Nat} {sl : Array (Option Value)} {vs : List V} {ds : List AV} (l : K.lookup a = some ⟨.type "tuple", od, .seq its n, sl⟩) (hz : its.size ≤ sizeLine)
    (hv : valsOf its.toList = some vs) (hd : flatOf vs = some ds) : ∀ cs F, Rep K cs F (.ref a) (.tup ds) := fun cs F =>
  .tup (.inr ⟨_, its, n, l, rfl, rfl, hz, vals_of hv⟩) (flat_reps hd)

/-! ### the end of a law -/
theorem law_sp {K : PySem.W.Frag} {Cl : Nat → Addr} {P : Prg} {n fl : Nat} (h : ∀ ns : List Int, ns.length ≤ 63 → callN P n fl [.ro (ns.map AV.int)] [] fun d _ => d = .bl true) :
    ∀ (H : Hp) (a : Addr) (ns : List Int), ns.length ≤ 63 → Only H → SqL K H a (ns.map V.int) → spOf K Cl (ctxOf P (callN P n)) fl [.ref a] H (fun v _ => v = .bl true) fun _ _ _ => False := by
  intro H a ns hl _ hS
  have S : StOk K Cl [] H H [] := ⟨fun _ _ z => z, rfl, by simp, fun n a q => by simp at q, fun a q => by simp at q⟩
  have rs : Reps K [] H (ns.map V.int) (ns.map AV.int) := by
    clear hS hl
    induction ns with
    | nil => exact .nil
    | cons n ns ih => exact .cons (.int n) ih
  refine ⟨[], H, [], [.ro (ns.map AV.int)], fun d _ => d = .bl true, S, .cons (.ro hS rs) .nil, h ns hl, fun v d cs' F' H' h' _ _ r q => ?_⟩
  subst q
  cases r
  rfl
/-- the head of a law whose def keeps what FnG says -/
theorem head_G {P : Program} {W : World} {K : PySem.W.Frag} {gl mb : Str → Option Value} {k : Nat} {fa a : Addr} {fd : FuncData} {x : Str} {sp : Sp} {s1 : Shared} {vs : List Value} {ns : List Int}
    (KX : K.In s1.heap) (hns : s1.heap.Ns mainGlobals gl) (hb : s1.heap.Ns builtinsNs mb) (hbb : ∀ x : Str, x ≠ "__name__" → mb x = bootBuiltins x) (hlim : s1.heap.NoLimit) (hg : s1.gens = #[])
    (ha : s1.heap.get? a = some ⟨.type "list", none, .seq vs.toArray 0, #[]⟩) (hi : IntsAre vs ns) (hl : ns.length ≤ sizeLine) (room : Room k callerA)
    (F : ∀ B : Heap, K.In B → B.Ns mainGlobals gl → FnG P W K gl B k fa fd [x] sp) (bnd : ∀ (s : Shared) (u : Value), BindsTo s fd ⟨[u], []⟩ [(x, u)])
    (want : ∀ H : Hp, Only H → SqL K H a (ns.map V.int) → sp [.ref a] H (fun v _ => v = .bl true) fun _ _ _ => False) :
    codeAny (model P W) callerA (.call (.ref fa) ⟨[.ref a], []⟩) (fun r s2 => r = .ok (.ret (.bool true)) ∧ OldK s1.heap s2.heap ∧ s2.os = s1.os ∧ AllBare s2.gens) s1 := by
  have rel : Vals (ns.map V.int) vs := vals_ints hi
  have core : ∀ H : Hp, Only H → SqL K H a (ns.map V.int) → HOk P W H s1.heap → (∀ b, H b ≠ none → b = a ∧ K.lookup a = none) →
      codeAny (model P W) callerA (.call (.ref fa) ⟨[.ref a], []⟩) (fun r s2 => r = .ok (.ret (.bool true)) ∧ OldK s1.heap s2.heap ∧ s2.os = s1.os ∧ AllBare s2.gens) s1 := by
    intro H only sq ok at_
    have off : ∀ b o es ep, s1.heap.get? b = some o → o.data = .dict es ep → H b = none := by
      intro b o es ep e d
      apply Classical.byContradiction
      intro z
      obtain ⟨rfl, _⟩ := at_ b z
      rw [ha] at e
      cases e
      cases d
    have nsH : ∀ b m, s1.heap.Ns b m → (hidT s1.heap H).Ns b m := by
      rintro b m ⟨o, es, ep, e, d, r⟩
      exact ⟨o, es, ep, hidT_get e (off b o es ep e d), d, r⟩
    have inK : K.In (hidT s1.heap H) := by
      intro b o e
      refine hidT_get (KX b o e) (Classical.byContradiction fun z => ?_)
      obtain ⟨rfl, n⟩ := at_ b z
      rw [n] at e
      cases e
    obtain ⟨mc, c1, c2⟩ := hlim
    have md : Mod K gl (hidT s1.heap H) := ⟨inK, nsH _ _ hns, ⟨mb, nsH _ _ hb, hbb⟩, ⟨mc, nsH _ _ c1, c2⟩⟩
    have nofr : ∀ b, b ∈ frs [] → False := fun b z => by cases z
    have env : Env0 P W K gl (hidT s1.heap H) callerA [] s1 H := by
      refine ⟨rfl, md, fun b o e => of_hidT e, ?_, trivial, fun b z => (nofr b z).elim, ok, .of_eq hg⟩
      rw [hidT_size]
      exact Nat.le_refl _
    refine codeAny_mono ((F _ inK (nsH _ _ hns)).go callerA [] s1 H ⟨[.ref a], []⟩ [.ref a] [.ref a] _ _ rfl room env (bnd s1 (.ref a)) (.cons rfl .nil) (want H only sq)) ?_
    intro r s2 z
    match r, z with
    | .ok (.ret u), ⟨v, H2, os, bare, un, ok2, rv, q⟩ =>
      have q : v = .bl true := q
      subst q
      have rv : u = Value.bool true := rv
      subst rv
      refine ⟨rfl, OldK.of_keep ?_, os, bare⟩
      intro b o e
      cases hb : H b with
      | none => exact un.keep b o e hb (fun z => nofr b z) (by simp)
      | some y =>
        rcases only b with z | ⟨ob, xs, z⟩
        · rw [hb] at z; cases z
        · have f1 := (ok b _ z).1
          have f2 := (ok2 b _ (un.frzs b ob _ z)).1
          rw [e] at f1
          cases f1
          exact f2
    | .ok .next, z => exact z.elim
    | .ok .brk, z => exact z.elim
    | .ok .cont, z => exact z.elim
    | .error _, z => exact z.elim
  cases at_ : K.lookup a with
  | some o =>
    have e := KX a o at_
    rw [ha] at e
    cases e
    refine core (fun _ => none) (fun _ => .inl rfl) (.inr ⟨_, vs.toArray, 0, at_, rfl, rfl, rfl, ?_, by simpa using rel⟩) (fun b u z => nomatch z) fun b z => absurd rfl z
    rw [List.size_toArray, hi.length]
    exact hl
  | none =>
    have me : (fun b => if b = a then some (HO.frz ⟨.type "list", none, .seq vs.toArray 0, #[]⟩ (.lst (ns.map V.int))) else none) a = some (HO.frz ⟨.type "list", none, .seq vs.toArray 0, #[]⟩ (.lst (ns.map V.int))) := if_pos rfl
    have no : ∀ b, b ≠ a → (fun b => if b = a then some (HO.frz ⟨.type "list", none, .seq vs.toArray 0, #[]⟩ (.lst (ns.map V.int))) else none) b = none := fun b z => if_neg z
    refine core _ (fun b => ?_) (.inl (.inr ⟨_, me⟩)) (fun b u z => ?_) fun b z => ⟨Classical.byContradiction fun n => z (no b n), at_⟩
    · by_cases n : b = a
      · subst n; exact .inr ⟨_, _, me⟩
      · exact .inl (no b n)
    · by_cases n : b = a
      · subst n
        cases me.symm.trans z
        exact ⟨ha, by rw [List.length_map]; exact hl, vs, _, rel, ha⟩
      · cases (no b n).symm.trans z
theorem walk_G {l : PySem.W.OpenLaw} {n k : Nat} {q : Program} {loose : List Str} {XP : (Str → Option Value) → Heap → Prop} {YP : World → Heap → Prop} {d : DefRec} {K : Params → PySem.W.Frag} {x : Str}
    (hn : l.most = some n) (hn2 : n ≤ sizeLine) (hdf : d.params.defaults = []) (room : Room k callerA) (hY : ∀ (w : World) (h : Heap), YP w h → (K w.params).In h)
    (F : ∀ (w : World) (gl : Str → Option Value) (fa : Addr) (h : Heap), (K w.params).In h → h.Ns mainGlobals gl → gl d.name = some (.ref fa) →
      ∃ (fd : FuncData) (sp : Sp), (∀ (s : Shared) (u : Value), BindsTo s fd ⟨[u], []⟩ [(x, u)]) ∧ (∀ B : Heap, (K w.params).In B → B.Ns mainGlobals gl → FnG l.prog w (K w.params) gl B k fa fd [x] sp) ∧
        ∀ (H : Hp) (a : Addr) (ns : List Int), ns.length ≤ n → Only H → SqL (K w.params) H a (ns.map V.int) → sp [.ref a] H (fun v _ => v = .bl true) fun _ _ _ => False) :
    PySem.W.WalkO q loose XP YP l.row.toRowW d [] (fun f vs => PySem.call f vs) := by
  refine Att.attach_call hn hdf fun w s0 s1 gl mb fa o pm cd dc a vs ns G Y ho hd hcd hm hobj hints hlen hg => ?_
  have KX := hY w s1.heap Y
  obtain ⟨fd, sp, bnd, hF, want⟩ := F w gl fa s1.heap KX G.T.g hm
  exact head_G KX G.T.g G.T.b G.T.builtins G.T.nolimit hg hobj hints (Nat.le_trans hlen hn2) room hF bnd fun H hO hS => want H a ns hlen hO hS
end VL

set_option maxRecDepth 100000
set_option maxHeartbeats 4000000
/-! VL: reasoning over the transformers. -/
namespace VL
open PySem L2

section
variable {h : AHeap} {Q : KA} {i j : Int} {x y : AV} {s t : Str} {b c : Bool} {xs ys : List AV}
theorem k_add : binK h .Add (.int i) (.int j) Q = Q (.int (i + j)) := rfl
theorem k_addS : binK h .Add (.str s) (.str t) Q = (s.length + t.length ≤ sizeLine ∧ Q (.str (s ++ t))) := rfl
theorem k_addT : binK h .Add (.tup xs) (.tup ys) Q = (xs.length + ys.length ≤ sizeLine ∧ Q (.tup (xs ++ ys))) := rfl
theorem k_sub : binK h .Sub (.int i) (.int j) Q = Q (.int (i - j)) := rfl
theorem k_mul : binK h .Mult (.int i) (.int j) Q = (CMulA i j ∧ Q (.int (i * j))) := rfl
theorem k_mulS : binK h .Mult (.str s) (.int j) Q = ((-(2 ^ 60) < j ∧ j < 2 ^ 60 ∧ s.length * j.toNat ≤ 1000000) ∧ Q (.str (strRep s j))) := rfl
theorem k_fdiv : binK h .FloorDiv (.int i) (.int j) Q = (CDivA j ∧ Q (.int (i / j))) := rfl
theorem k_mod : binK h .Mod (.int i) (.int j) Q = (0 < j ∧ Q (.int (i % j))) := rfl
theorem k_pow : binK h .Pow (.int i) (.int j) Q = (CPow i j ∧ Q (.int (i ^ j.toNat))) := rfl
theorem k_neg : negK (.int i) Q = Q (.int (-i)) := rfl
theorem k_lt : cmpK h .Lt (.int i) (.int j) Q = Q (.bl (decide (i < j))) := rfl
theorem k_le : cmpK h .LtE (.int i) (.int j) Q = Q (.bl (decide (i ≤ j))) := rfl
theorem k_gt : cmpK h .Gt (.int i) (.int j) Q = Q (.bl (decide (j < i))) := rfl
theorem k_ge : cmpK h .GtE (.int i) (.int j) Q = Q (.bl (decide (j ≤ i))) := rfl
theorem k_eqI : cmpK h .Eq (.int i) (.int j) Q = Q (.bl (decide (i = j))) := rfl
theorem k_neI : cmpK h .NotEq (.int i) (.int j) Q = Q (.bl (!decide (i = j))) := rfl
theorem k_eqS : cmpK h .Eq (.str s) (.str t) Q = Q (.bl (decide (s = t))) := rfl
theorem k_neS : cmpK h .NotEq (.str s) (.str t) Q = Q (.bl (!decide (s = t))) := rfl
theorem k_eqB : cmpK h .Eq (.bl b) (.bl c) Q = Q (.bl (decide (b = c))) := rfl
theorem k_neB : cmpK h .NotEq (.bl b) (.bl c) Q = Q (.bl (!decide (b = c))) := rfl
theorem k_is : cmpK h .Is x .non Q = Q (.bl (isNon x)) := rfl
theorem k_isn : cmpK h .IsNot x .non Q = Q (.bl (!isNon x)) := rfl
theorem k_isB : cmpK h .Is (.bl b) (.bl c) Q = Q (.bl (decide (b = c))) := rfl
theorem k_isnB : cmpK h .IsNot (.bl b) (.bl c) Q = Q (.bl (!decide (b = c))) := rfl
theorem k_gIn {kvs : List (Str × Int)} {R : Bool → Prop} : gInK (some kvs) b (.str s) R = R (if b then !(kvs.lookup s).isSome else (kvs.lookup s).isSome) := rfl
theorem k_gGet {kvs : List (Str × Int)} (e : kvs.lookup s = some i) (q : Q (.int i)) : gGetK (some kvs) (.str s) Q := by
  show (match kvs.lookup s with | some i => Q (.int i) | none => False)
  rw [e]; exact q
theorem k_isC {n c : Nat} {fs : List (Str × AV)} (e : cells h n = .obj c fs) (q : Q (.bl true)) : isCK h c (.adr n) Q := by
  show (match cells h n with | .obj c' _ => c' = c ∧ Q (.bl true) | _ => False)
  rw [e]; exact ⟨rfl, q⟩
theorem k_in : cmpK h .In x y Q = inK h false x y Q := rfl
theorem k_nin : cmpK h .NotIn x y Q = inK h true x y Q := rfl
theorem k_inS {c : Nat} {b : Bool} : inK h b (.str ⟨#[c]⟩) (.str t) Q = Q (.bl (if b then !decide (c ∈ t.cps.toList) else decide (c ∈ t.cps.toList))) := rfl
theorem k_inF {b : Bool} (hx : flatA x = true) (hy : viewT h y = some xs) (hf : xs.all flatA = true) (hn : ∀ z, y ≠ .str z) (q : Q (.bl (if b then !(xs.any fun y => eqF y x) else xs.any fun y => eqF y x))) : inK h b x y Q := by
  unfold inK
  split
  · exact absurd rfl (hn _)
  · rw [hy]
    exact ⟨hx, hf, q⟩
theorem isi_non_int : isiK .non "int" h Q = Q (.bl false) := by simp [isiK, view]
theorem isi_non_bool : isiK .non "bool" h Q = Q (.bl false) := by simp [isiK, view]
theorem isi_non_str : isiK .non "str" h Q = Q (.bl false) := by simp [isiK, view]
theorem isi_non_list : isiK .non "list" h Q = Q (.bl false) := by simp [isiK, view]
theorem isi_non_tuple : isiK .non "tuple" h Q = Q (.bl false) := by simp [isiK, view]
theorem isi_bl_int : isiK (.bl b) "int" h Q = Q (.bl true) := by simp [isiK, view]
theorem isi_bl_bool : isiK (.bl b) "bool" h Q = Q (.bl true) := by simp [isiK, view]
theorem isi_bl_str : isiK (.bl b) "str" h Q = Q (.bl false) := by simp [isiK, view]
theorem isi_bl_list : isiK (.bl b) "list" h Q = Q (.bl false) := by simp [isiK, view]
theorem isi_bl_tuple : isiK (.bl b) "tuple" h Q = Q (.bl false) := by simp [isiK, view]
theorem isi_int_int : isiK (.int i) "int" h Q = Q (.bl true) := by simp [isiK, view]
theorem isi_int_bool : isiK (.int i) "bool" h Q = Q (.bl false) := by simp [isiK, view]
theorem isi_int_str : isiK (.int i) "str" h Q = Q (.bl false) := by simp [isiK, view]
theorem isi_int_list : isiK (.int i) "list" h Q = Q (.bl false) := by simp [isiK, view]
theorem isi_int_tuple : isiK (.int i) "tuple" h Q = Q (.bl false) := by simp [isiK, view]
theorem isi_str_int : isiK (.str s) "int" h Q = Q (.bl false) := by simp [isiK, view]
theorem isi_str_bool : isiK (.str s) "bool" h Q = Q (.bl false) := by simp [isiK, view]
theorem isi_str_str : isiK (.str s) "str" h Q = Q (.bl true) := by simp [isiK, view]
theorem isi_str_list : isiK (.str s) "list" h Q = Q (.bl false) := by simp [isiK, view]
theorem isi_str_tuple : isiK (.str s) "tuple" h Q = Q (.bl false) := by simp [isiK, view]
theorem isi_tup_int : isiK (.tup xs) "int" h Q = Q (.bl false) := by simp [isiK, view]
theorem isi_tup_bool : isiK (.tup xs) "bool" h Q = Q (.bl false) := by simp [isiK, view]
theorem isi_tup_str : isiK (.tup xs) "str" h Q = Q (.bl false) := by simp [isiK, view]
theorem isi_tup_list : isiK (.tup xs) "list" h Q = Q (.bl false) := by simp [isiK, view]
theorem isi_tup_tuple : isiK (.tup xs) "tuple" h Q = Q (.bl true) := by simp [isiK, view]
theorem isi_lst_int : isiK (.lst xs) "int" h Q = Q (.bl false) := by simp [isiK, view]
theorem isi_lst_bool : isiK (.lst xs) "bool" h Q = Q (.bl false) := by simp [isiK, view]
theorem isi_lst_str : isiK (.lst xs) "str" h Q = Q (.bl false) := by simp [isiK, view]
theorem isi_lst_list : isiK (.lst xs) "list" h Q = Q (.bl true) := by simp [isiK, view]
theorem isi_lst_tuple : isiK (.lst xs) "tuple" h Q = Q (.bl false) := by simp [isiK, view]
theorem isi_ro_int : isiK (.ro xs) "int" h Q = Q (.bl false) := by simp [isiK, view]
theorem isi_ro_bool : isiK (.ro xs) "bool" h Q = Q (.bl false) := by simp [isiK, view]
theorem isi_ro_str : isiK (.ro xs) "str" h Q = Q (.bl false) := by simp [isiK, view]
theorem isi_ro_list : isiK (.ro xs) "list" h Q = Q (.bl true) := by simp [isiK, view]
theorem isi_ro_tuple : isiK (.ro xs) "tuple" h Q = Q (.bl false) := by simp [isiK, view]
theorem k_intB : bltK h .int [.bl b] Q = Q (.int (if b = true then 1 else 0)) := rfl
theorem isNon_non : isNon .non = true := rfl
theorem isNon_int : isNon (.int i) = false := rfl
theorem isNon_str : isNon (.str s) = false := rfl
theorem isNon_lst : isNon (.lst xs) = false := rfl
theorem isNon_tup : isNon (.tup xs) = false := rfl
theorem isNon_adr {n : Nat} : isNon (.adr n) = false := rfl
theorem k_subL (hv : viewT h x = some xs) (hn : ∀ z, x ≠ .str z) {d : AV} (e : atI xs i = some d) (q : Q d) : subK h x (.int i) Q := by
  unfold subK
  split
  · exact absurd rfl (hn _)
  · rw [hv]
    simp only [e]
    exact q
theorem k_subS {k : Nat} (hz : s.length ≤ sizeLine) {c : Nat} (e : s.cps.toList[k]? = some c) (q : Q (.str ⟨#[c]⟩)) : subK h (.str s) (.int (k : Int)) Q := by
  have hk : k < s.cps.toList.length := (List.getElem?_eq_some_iff.mp e).1
  have : atI s.cps.toList (k : Int) = some c := by
    unfold atI
    rw [Evl.ixN_nat hk]
    exact e
  refine ⟨hz, ?_⟩
  rw [this]
  exact q
theorem atI_nat {α : Type} {l : List α} {k : Nat} (hk : k < l.length) : atI l (k : Int) = l[k]? := by
  unfold atI
  rw [Evl.ixN_nat hk]
  rfl
theorem k_lenS : bltK h .len [.str s] Q = (s.length ≤ sizeLine ∧ Q (.int s.length)) := rfl
theorem k_lenL : bltK h .len [.lst xs] Q = Q (.int xs.length) := rfl
theorem k_lenR : bltK h .len [.ro xs] Q = Q (.int xs.length) := rfl
theorem k_lenT : bltK h .len [.tup xs] Q = Q (.int xs.length) := rfl
theorem k_abs : bltK h .abs [.int i] Q = Q (.int (if i < 0 then -i else i)) := rfl
theorem k_int : bltK h .int [.int i] Q = Q (.int i) := rfl
theorem k_intS {n : Int} (e : PySem.intText? s = some n) (hz : s.length ≤ 640) (q : Q (.int n)) : bltK h .int [.str s] Q := by
  show (match PySem.intText? s with | some n => s.length ≤ 640 ∧ Q (.int n) | none => False)
  rw [e]
  exact ⟨hz, q⟩
theorem k_str : bltK h .str [.int i] Q = (i.natAbs.log2 < 1920 ∧ Q (.str (toString i))) := rfl
theorem k_max2 : bltK h .max2 [.int i, .int j] Q = Q (.int (if j > i then j else i)) := rfl
theorem k_min2 : bltK h .min2 [.int i, .int j] Q = Q (.int (if j < i then j else i)) := rfl
theorem k_sliceS {lo hi : Option Int} : sliceK h (.str s) lo hi Q = (s.length ≤ sizeLine ∧ Q (.str (cutS s lo hi))) := rfl
theorem k_sliceT {lo hi : Option Int} : sliceK h (.tup xs) lo hi Q = Q (.tup (cut xs lo hi)) := rfl
theorem viewT_lst : viewT h (.lst xs) = some xs := rfl
theorem viewT_ro : viewT h (.ro xs) = some xs := rfl
theorem viewT_tup : viewT h (.tup xs) = some xs := rfl
theorem view_lst : view h (.lst xs) = some xs := rfl
theorem view_ro : view h (.ro xs) = some xs := rfl
theorem viewW_lst : viewW h (.lst xs) = some xs := rfl
theorem tru_bl : truK h (.bl b) = fun Q => Q b := rfl
theorem asStrs_map (l : List Str) : asStrs (l.map AV.str) = some l := by
  induction l with
  | nil => rfl
  | cons x l ih => simp [asStrs, ih]
theorem asBools_map (l : List Bool) : asBools (l.map AV.bl) = some l := by
  induction l with
  | nil => rfl
  | cons x l ih => simp [asBools, ih]
end
theorem mulA_r {i j : Int} (h1 : -18446744073709551616 < j) (h2 : j < 18446744073709551616) : CMulA i j := by
  have e : (2 ^ 64 : Int) = 18446744073709551616 := by decide
  refine .inl (.inr ⟨?_, ?_⟩) <;> omega
theorem mulA_l {i j : Int} (h1 : -18446744073709551616 < i) (h2 : i < 18446744073709551616) : CMulA i j := by
  have e : (2 ^ 64 : Int) = 18446744073709551616 := by decide
  refine .inl (.inl ⟨?_, ?_⟩) <;> omega
theorem divA {j : Int} (h1 : 0 < j) (h2 : j < 18446744073709551616) : CDivA j := ⟨h1, by
  have : j.natAbs < 2 ^ 64 := by
    have e : (2 ^ 64 : Nat) = 18446744073709551616 := by decide
    omega
  have := PySem.Flt.log2_lt_of (by decide : 0 < 64) this
  omega⟩

/-! ### loops -/
/-- a for by an invariant; the body is shown for any ends that follow from it -/
theorem for_invX {B : AV → Kt → Env → AHeap → Prop} {chk : AHeap → Prop} {D : Kt} {xs : List AV} {ρ : Env} {h : AHeap} (Inv : Nat → Env → AHeap → Prop) (h0 : Inv 0 ρ h) (hc : ∀ i ρ h, i ≤ xs.length → Inv i ρ h → chk h)
    (hs : ∀ i x ρ h (D' : Kt), xs[i]? = some x → Inv i ρ h → (∀ ρ h, Inv (i + 1) ρ h → D'.nx ρ h) → (∀ ρ h, Inv (i + 1) ρ h → D'.ct ρ h) → (∀ v h, D.rt v h → D'.rt v h) → (∀ ρ h, D.nx ρ h → D'.bk ρ h) → (∀ c n h, D.ex c n h → D'.ex c n h) → B x D' ρ h)
    (hd : ∀ ρ h, Inv xs.length ρ h → D.nx ρ h) : forL B chk D xs ρ h := by
  have key : ∀ (ys : List AV) (i : Nat), xs.drop i = ys → i ≤ xs.length → ∀ ρ h, Inv i ρ h → forL B chk D ys ρ h := by
    intro ys
    induction ys with
    | nil =>
      intro i e hi ρ h hI
      have : i = xs.length := by
        have := List.drop_eq_nil_iff.mp e
        omega
      subst this
      exact ⟨hc _ _ _ hi hI, hd _ _ hI⟩
    | cons y ys ih =>
      intro i e hi ρ h hI
      have hlt : i < xs.length := by
        cases Nat.lt_or_ge i xs.length with
        | inl q => exact q
        | inr q => rw [List.drop_of_length_le q] at e; cases e
      have hx : xs[i]? = some y := by
        rw [List.drop_eq_getElem_cons hlt] at e
        cases e
        exact List.getElem?_eq_getElem hlt
      have ht : xs.drop (i + 1) = ys := by
        rw [List.drop_eq_getElem_cons hlt] at e
        exact (List.cons.inj e).2
      exact ⟨hc _ _ _ hi hI, hs i y ρ h _ hx hI (fun ρ h q => ih (i + 1) ht hlt ρ h q) (fun ρ h q => ih (i + 1) ht hlt ρ h q) (fun _ _ q => q) (fun _ _ q => q) (fun _ _ _ q => q)⟩
  exact key xs 0 rfl (Nat.zero_le _) ρ h h0
theorem for_inv {B : AV → Kt → Env → AHeap → Prop} {chk : AHeap → Prop} {D : Kt} {xs : List AV} {ρ : Env} {h : AHeap} (Inv : Nat → Env → AHeap → Prop) (h0 : Inv 0 ρ h) (hc : ∀ i ρ h, i ≤ xs.length → Inv i ρ h → chk h)
    (hs : ∀ i x ρ h (D' : Kt), xs[i]? = some x → Inv i ρ h → (∀ ρ h, Inv (i + 1) ρ h → D'.nx ρ h) → (∀ ρ h, Inv (i + 1) ρ h → D'.ct ρ h) → (∀ v h, D.rt v h → D'.rt v h) → (∀ ρ h, D.nx ρ h → D'.bk ρ h) → B x D' ρ h)
    (hd : ∀ ρ h, Inv xs.length ρ h → D.nx ρ h) : forL B chk D xs ρ h :=
  for_invX Inv h0 hc (fun i x ρ h D' a b c d e f _ => hs i x ρ h D' a b c d e f) hd
/-- a comprehension by an invariant over what it has made -/
theorem comp_inv {B : AV → AHeap → (Option AV → AHeap → Prop) → Prop} {chk : AHeap → Prop} {xs acc : List AV} {h : AHeap} {Q : List AV → AHeap → Prop} (Inv : Nat → List AV → AHeap → Prop) (h0 : Inv 0 acc h) (hc : ∀ i a h, i ≤ xs.length → Inv i a h → chk h)
    (hs : ∀ i x a h R, xs[i]? = some x → Inv i a h → (∀ (y : AV) h', Inv (i + 1) (a ++ [y]) h' → R (some y) h') → (∀ h', Inv (i + 1) a h' → R none h') → B x h R) (hd : ∀ a h, Inv xs.length a h → Q a h) : compL B chk xs acc h Q := by
  have key : ∀ (ys : List AV) (i : Nat), xs.drop i = ys → i ≤ xs.length → ∀ a h, Inv i a h → compL B chk ys a h Q := by
    intro ys
    induction ys with
    | nil =>
      intro i e hi a h hI
      have : i = xs.length := by
        have := List.drop_eq_nil_iff.mp e
        omega
      subst this
      exact ⟨hc _ _ _ hi hI, hd _ _ hI⟩
    | cons y ys ih =>
      intro i e hi a h hI
      have hlt : i < xs.length := by
        cases Nat.lt_or_ge i xs.length with
        | inl q => exact q
        | inr q => rw [List.drop_of_length_le q] at e; cases e
      have hx : xs[i]? = some y := by
        rw [List.drop_eq_getElem_cons hlt] at e
        cases e
        exact List.getElem?_eq_getElem hlt
      have ht : xs.drop (i + 1) = ys := by
        rw [List.drop_eq_getElem_cons hlt] at e
        exact (List.cons.inj e).2
      exact ⟨hc _ _ _ hi hI, hs i y a h _ hx hI (fun y h q => ih (i + 1) ht hlt _ h q) (fun h q => ih (i + 1) ht hlt _ h q)⟩
  exact key xs 0 rfl (Nat.zero_le _) acc h h0
/-- a comprehension without a test whose items make what f says, the heap as it was -/
theorem comp_map {B : AV → AHeap → (Option AV → AHeap → Prop) → Prop} {xs : List AV} {h : AHeap} {Q : List AV → AHeap → Prop} (f : Nat → AV) (hs : ∀ i x R, xs[i]? = some x → R (some (f i)) h → B x h R) (hd : Q ((List.range xs.length).map f) h) :
    compL B (fun _ => True) xs [] h Q := by
  refine comp_inv (fun i a h' => a = (List.range i).map f ∧ h' = h) ⟨rfl, rfl⟩ (fun _ _ _ _ _ => trivial) ?_ ?_
  · rintro i x a h' R hx ⟨rfl, rfl⟩ k1 k2
    exact hs i x R hx (k1 _ _ ⟨by rw [List.range_succ, List.map_append]; rfl, rfl⟩)
  · rintro a h' ⟨rfl, rfl⟩
    exact hd
/-- a while by an invariant and a measure -/
theorem wh_inv {T : Env → AHeap → (Bool → AHeap → Prop) → Prop} {B : Kt → Env → AHeap → Prop} {D : Kt} {ρ : Env} {h : AHeap} (W : Nat → Env → AHeap → Prop) (m0 : Nat) (h0 : W m0 ρ h)
    (hs : ∀ m ρ h (D' : Kt), W m ρ h → (∀ m' ρ h, m' < m → W m' ρ h → D'.nx ρ h) → (∀ m' ρ h, m' < m → W m' ρ h → D'.ct ρ h) → (∀ v h, D.rt v h → D'.rt v h) → (∀ ρ h, D.nx ρ h → D'.bk ρ h) → T ρ h fun b h1 => if b = true then B D' ρ h1 else D.nx ρ h1) : whL T B D ρ h :=
  ⟨W, ⟨m0, h0⟩, fun m ρ h w => hs m ρ h _ w (fun m' _ _ a b => ⟨m', a, b⟩) (fun m' _ _ a b => ⟨m', a, b⟩) (fun _ _ q => q) (fun _ _ q => q)⟩
theorem ite_b {c : Prop} [Decidable c] {A B : Prop} (h1 : c → A) (h2 : ¬ c → B) : if decide c = true then A else B := by
  by_cases h : c
  · rw [if_pos (decide_eq_true h)]; exact h1 h
  · rw [if_neg (by rw [decide_eq_false h]; decide)]; exact h2 h
theorem ite_p {c : Prop} [Decidable c] {A B : Prop} (h1 : c → A) (h2 : ¬ c → B) : if c then A else B := by
  by_cases h : c
  · rw [if_pos h]; exact h1 h
  · rw [if_neg h]; exact h2 h
theorem ctx_call {P : Prg} {c} : (ctxOf P c).call = c := rfl
theorem ctx_gdct {P : Prg} {c} {g : Nat} : (ctxOf P c).gdct g = P.gdct.lookup g := rfl
theorem ctx_glob {P : Prg} {c} {g : Nat} : (ctxOf P c).glob g = P.glob.lookup g := rfl
theorem items_range {n : Nat} {f : Nat → AV} {i : Nat} {x : AV} (h : ((List.range n).map f)[i]? = some x) : i < n ∧ x = f i := by
  rw [List.getElem?_map] at h
  obtain ⟨j, h1, rfl⟩ := Option.map_eq_some_iff.mp h
  have h2 := List.getElem?_eq_some_iff.mp h1
  obtain ⟨h3, h4⟩ := h2
  simp at h3 h4
  exact ⟨h3, by rw [h4]⟩
theorem items_map {α : Type} {l : List α} {f : α → AV} {i : Nat} {x : AV} (h : (l.map f)[i]? = some x) : ∃ a, l[i]? = some a ∧ x = f a := by
  rw [List.getElem?_map] at h
  obtain ⟨j, h1, rfl⟩ := Option.map_eq_some_iff.mp h
  exact ⟨j, h1, rfl⟩
theorem cut_take {α : Type} (l : List α) (i j n : Nat) (e : n = l.length) : (l.drop (min i n)).take (min j n - min i n) = (l.drop i).take (j - i) := by
  subst e
  by_cases hi : l.length ≤ i
  · rw [Nat.min_eq_right hi, List.drop_of_length_le (Nat.le_refl _), List.drop_of_length_le hi]; simp
  · rw [Nat.min_eq_left (by omega : i ≤ l.length)]
    by_cases hj : j ≤ l.length
    · rw [Nat.min_eq_left hj]
    · rw [Nat.min_eq_right (by omega : l.length ≤ j), List.take_of_length_le (by simp), List.take_of_length_le (by simp; omega)]
theorem cut_ss {α : Type} (l : List α) (i j : Nat) : cut l (some (i : Int)) (some (j : Int)) = (l.drop i).take (j - i) := by
  unfold cut
  rw [HT.sIx_nat, HT.sIx_nat, cut_take _ _ _ _ rfl]
theorem cut_ns {α : Type} (l : List α) (j : Nat) : cut l none (some (j : Int)) = l.take j := by
  have := cut_ss l 0 j
  rw [List.drop_zero, Nat.sub_zero] at this
  rw [← this]
  unfold cut
  rw [HT.sIx_nat, HT.sIx_nat, HT.sIx_none, Nat.zero_min]
theorem cut_sn {α : Type} (l : List α) (i : Nat) : cut l (some (i : Int)) none = l.drop i := by
  have := cut_ss l i l.length
  rw [List.take_of_length_le (by simp)] at this
  rw [← this]
  unfold cut
  rw [HT.sIx_nat, HT.sIx_nat, HT.sIx_none, Nat.min_self]
theorem look_mem {α β : Type} [BEq α] [LawfulBEq α] {l : List (α × β)} {k : α} {v : β} (h : l.lookup k = some v) : (k, v) ∈ l := by
  induction l with
  | nil => cases h
  | cons x l ih =>
    obtain ⟨a, b⟩ := x
    rw [List.lookup_cons] at h
    cases e : k == a with
    | true =>
      rw [e] at h
      have h : some b = some v := h
      cases h
      rw [eq_of_beq e]
      exact List.mem_cons_self ..
    | false =>
      rw [e] at h
      exact List.mem_cons_of_mem _ (ih h)
theorem call_of {P : Prg} {n f : Nat} {F : Fn} {args : List AV} {h : AHeap} {Q : AV → AHeap → Prop} (e : P.fns.lookup f = some F) (l : args.length = F.np) (w : WpSs (ctxOf P (callN P n)) F.body { nx := fun _ h => Q .non h, rt := Q } (startS F args) h) : callN P (n + 1) f args h Q := by
  show (match P.fns.lookup f with | none => (match P.tryf.lookup f with | some t => tryW P (callN P n) t args h Q | none => False) | some F => args.length = F.np ∧ WpSs (ctxOf P (callN P n)) F.body { nx := fun _ h => Q .non h, rt := Q } (startS F args) h)
  rw [e]
  exact ⟨l, w⟩
theorem body_of {P : Prg} {rec : Nat → List AV → AHeap → (AV → AHeap → Prop) → Prop} {f : Nat} {F : Fn} {args : List AV} {h : AHeap} {Q : AV → AHeap → Prop} {E : Nat → Int → AHeap → Prop} (e : P.fns.lookup f = some F) (l : args.length = F.np)
    (w : WpSs (ctxOf P rec) F.body { nx := fun _ h => Q .non h, rt := Q, ex := E } (startS F args) h) : bodyW P rec f args h Q E := by
  unfold bodyW
  rw [e]
  exact ⟨l, w⟩
theorem try_of {P : Prg} {n f : Nat} {t : TryF} {args xs : List AV} {h : AHeap} {Q : AV → AHeap → Prop} (e0 : P.fns.lookup f = none) (e : P.tryf.lookup f = some t) (l : args.length = t.np) (ha : argV args t.args = some xs)
    (w : bodyW P (callN P n) t.g xs h (fun v h2 => match okV t v with
      | some d => Q d h2
      | none => False) (fun c n h2 => match tryV P c n t with
      | some d => Q d h2
      | none => False)) : callN P (n + 1) f args h Q := by
  show (match P.fns.lookup f with | none => (match P.tryf.lookup f with | some t => tryW P (callN P n) t args h Q | none => False) | some F => args.length = F.np ∧ WpSs (ctxOf P (callN P n)) F.body { nx := fun _ h => Q .non h, rt := Q } (startS F args) h)
  rw [e0]
  show (match P.tryf.lookup f with | some t => tryW P (callN P n) t args h Q | none => False)
  rw [e]
  refine ⟨l, ?_⟩
  rw [ha]
  exact w
theorem clsIn_of {K : PySem.W.Frag} {nm q : Str} {C N : Addr} {bs bm : List Value} {hdct : Bool} {sn : List Str} {sub : List Value} {ab : Bool} {col : Option Bool} {dd : Option Addr} {k0 k1 k2 k3 k5 : Option Value} {newId : String}
    (h : K.lookup C = some (excClassObj nm q C N bs bm hdct sn sub ab col dd k0 k1 k2 k3 k5 newId)) : (PySem.W.clsIn K C).isSome = true := by
  unfold PySem.W.clsIn
  rw [h]
  rfl
theorem exm_of {K : PySem.W.Frag} {t : Value} {D : Addr} {b : Bool} (h1 : PySem.W.subIn K (.ref D) (.type "BaseException") = some true) (h2 : (PySem.W.clsIn K D).isSome = true) (h3 : PySem.W.typeIn K (.ref D) = some (.type "type")) (h4 : PySem.W.subIn K t (.ref D) = some b) :
    PySem.W.exmOne K t (.ref D) = some b := by
  unfold PySem.W.exmOne PySem.W.kitCls
  simp only [h1, h2, h3]
  simpa using h4
/-- of all that stand in a table -/
def AllP {α β : Type} (G : α → β → Prop) : List (α × β) → Prop
  | [] => True
  | (f, F) :: r => G f F ∧ AllP G r
theorem look_all {α β : Type} [BEq α] [LawfulBEq α] {G : α → β → Prop} {k : α} {v : β} : ∀ {l : List (α × β)}, AllP G l → l.lookup k = some v → G k v
  | [], _, h => by cases h
  | (a, b) :: l, g, h => by
    rw [List.lookup_cons] at h
    cases e : k == a with
    | true =>
      rw [e] at h
      have h : some b = some v := h
      cases h
      rw [eq_of_beq e]
      exact g.1
    | false =>
      rw [e] at h
      exact look_all g.2 h
end VL

set_option maxRecDepth 100000
set_option maxHeartbeats 4000000
namespace Hd
open PySem L2 VL

def b_law_draws_1 : Ss := (.cons (.asg (.nm 7) (.bin .Mod (.blt .int (.cons (.bin .Add (.bin .Add (.bin .Mult (.var 5) (.cint 48271)) (.bin .Mult (.var 4) (.cint 69621))) (.cint 11)) .nil)) (.cint 2147483647))) (.cons (.asg (.nm 7) (.bin .Mod (.blt .int (.cons (.bin .Add (.bin .FloorDiv (.bin .Mult (.var 7) (.var 7)) (.cint 4096)) (.var 7)) .nil)) (.cint 2147483629))) (.cons (.app 3 (.bin .Mod (.blt .int (.cons (.bin .Add (.bin .FloorDiv (.bin .Mult (.var 7) (.var 7)) (.cint 4096)) (.bin .Mult (.var 4) (.cint 7919))) .nil)) (.cint 2147483629))) .nil)))
def b_law_draws_2 : Ss := (.cons (.asg (.nm 5) (.var 4)) (.cons (.ite (.cmp .Gt (.blt .len (.cons (.var 0) .nil)) (.cint 0)) (.cons (.asg (.nm 6) (.bin .Mod (.var 4) (.blt .len (.cons (.var 0) .nil)))) (.cons (.asg (.nm 5) (.blt .int (.cons (.sub (.var 0) (.var 6)) .nil))) (.cons (.ite (.and (.cmp .GtE (.var 5) (.bin .Pow (.cint 10) (.cint 18))) (.cmp .Gt (.sub (.vw 2) (.var 6)) (.cint 0))) (.cons (.app 3 (.bin .Mod (.blt .int (.cons (.sub (.vw 2) (.var 6)) .nil)) (.cint 1000003))) (.cons (.put 2 (.var 6) (.bin .FloorDiv (.blt .int (.cons (.sub (.vw 2) (.var 6)) .nil)) (.cint 1000003))) (.cons .cont .nil))) .nil) .nil))) .nil) b_law_draws_1))
def b_law_draws_3 : Ss := (.cons (.frz 3) (.cons (.ret (.var 3)) .nil))
def b_law_draws : Ss := (.cons (.asgO 2 (.comp (.blt .abs (.cons (.blt .int (.cons (.var 5) .nil)) .nil)) (.nm 5) (.seq (.var 0)) .no [5])) (.cons (.asgO 3 (.lst .nil)) (.cons (.for (.nm 4) (.rng1 (.var 1)) b_law_draws_2) b_law_draws_3)))
def b_law_take_1 : Ss := (.cons (.ret (.bin .Mod (.bin .FloorDiv (.blt .int (.cons (.sub (.var 3) (.var 2)) .nil)) (.cint 7)) (.var 1))) .nil)
def b_law_take : Ss := (.cons (.asg (.nm 2) (.sub (.var 0) (.cint 1))) (.cons (.putE (.var 0) (.cint 1) (.bin .Add (.var 2) (.cint 1))) (.cons (.asg (.nm 3) (.sub (.var 0) (.cint 0))) (.cons (.ite (.cmp .GtE (.var 2) (.blt .len (.cons (.var 3) .nil))) (.cons (.ret (.cint 0)) .nil) .nil) b_law_take_1))))
class U (P : Prg) : Prop where
  f__law_draws : P.fns.lookup 19 = some ⟨2, 8, b_law_draws⟩
  f__law_take : P.fns.lookup 20 = some ⟨2, 4, b_law_take⟩
end Hd

set_option maxRecDepth 100000
set_option maxHeartbeats 4000000
namespace Hd
open PySem L2 VL
local macro_rules
  | `(tactic| push_cast [$xs,*]) => `(tactic| try simp only [$xs,*, WpSs, WpS, WpE, WpEs, WpBs, WpO, WpN, WpI, WpC, WpT, getS, setS, tgK, setsS, wipeS, k_add, k_addT, k_sub, k_mul, k_fdiv, k_mod, k_neg, k_lt, k_le, k_gt, k_ge, k_eqI, k_neI, k_eqS, k_neS, k_eqB, k_neB, k_is, k_isn, k_isB, k_isnB, k_gIn, ctx_gdct, isNon_non, isNon_int, isNon_str, isNon_lst, isNon_tup, isNon_adr, k_lenS, k_lenL, k_lenR, k_lenT, k_int, k_str, k_abs, tru_bl, augK, ctx_call, ctx_glob, k_in, k_nin, k_inS, k_addS, k_intB, isi_non_int, isi_non_bool, isi_non_str, isi_non_list, isi_non_tuple, isi_bl_int, isi_bl_bool, isi_bl_str, isi_bl_list, isi_bl_tuple, isi_int_int, isi_int_bool, isi_int_str, isi_int_list, isi_int_tuple, isi_str_int, isi_str_bool, isi_str_str, isi_str_list, isi_str_tuple, isi_tup_int, isi_tup_bool, isi_tup_str, isi_tup_list, isi_tup_tuple, isi_lst_int, isi_lst_bool, isi_lst_str, isi_lst_list, isi_lst_tuple, isi_ro_int, isi_ro_bool, isi_ro_str, isi_ro_list, isi_ro_tuple])
theorem int_one (ds : List Int) (x : Int) : ds.map AV.int ++ [.int x] = (ds ++ [x]).map AV.int := by rw [List.map_append]; rfl
theorem set_int (ds : List Int) (j : Nat) (x : Int) : (ds.map AV.int).set j (.int x) = (ds.set j x).map AV.int := by rw [List.map_set]
theorem cells_pos {h : AHeap} {n : Nat} {c : Cell} (e : cells h n = c) (hc : c ≠ .dead) : n < h.length := by
  cases Nat.lt_or_ge n h.length with
  | inl q => exact q
  | inr q => unfold cells at e; rw [List.getElem?_eq_none q] at e; exact absurd e.symm hc
theorem cells_push {h : AHeap} {n : Nat} {c : Cell} (e : n < h.length) : cells (h ++ [c]) n = cells h n := by
  unfold cells
  rw [List.getElem?_append_left e]
theorem cells_app {h l : AHeap} {n : Nat} (e : n < h.length) : cells (h ++ l) n = cells h n := by
  unfold cells
  rw [List.getElem?_append_left e]
theorem cells_put {h : AHeap} {n m : Nat} {c : Cell} (hn : n ≠ m) : cells (h.set n c) m = cells h m := by
  unfold cells
  rw [List.getElem?_set_ne hn]
theorem cells_set {h : AHeap} {n : Nat} {c : Cell} (hn : n < h.length) : cells (h.set n c) n = c := by
  unfold cells
  rw [List.getElem?_set_self hn]; rfl
theorem cells_last (h : AHeap) (c : Cell) : cells (h ++ [c]) h.length = c := by simp [cells]
theorem set_last (h : AHeap) (c d : Cell) : (h ++ [c]).set h.length d = h ++ [d] := by simp
theorem view_adr {h : AHeap} {n : Nat} {xs : List AV} (e : cells h n = .lst xs) : viewT h (.adr n) = some xs := by
  show view h (.adr n) = _
  simp only [view, e]
/-- the hand: draws, and where in them -/
def Hnd (a : Nat) (h : AHeap) : Prop := ∃ (ds : List Int) (k : Nat), cells h a = .lst [.lst (ds.map AV.int), .int k]
theorem Hnd.lt {a : Nat} {h : AHeap} (x : Hnd a h) : a < h.length := by
  obtain ⟨ds, k, e⟩ := x
  exact cells_pos e (fun z => by cases z)
/-- from one heap to a later one: the hand is one still, the other cells are as they were -/
structure Hx (a : Nat) (h h' : AHeap) : Prop where
  hand : Hnd a h'
  len : h.length ≤ h'.length
  keep : ∀ b, b < h.length → b ≠ a → cells h' b = cells h b
theorem Hx.refl {a : Nat} {h : AHeap} (x : Hnd a h) : Hx a h h := ⟨x, Nat.le_refl _, fun _ _ _ => rfl⟩
theorem Hx.trans {a : Nat} {h h' h'' : AHeap} (x : Hx a h h') (y : Hx a h' h'') : Hx a h h'' := ⟨y.hand, Nat.le_trans x.len y.len, fun b h1 h2 => (y.keep b (Nat.lt_of_lt_of_le h1 x.len) h2).trans (x.keep b h1 h2)⟩
theorem Hx.app {a : Nat} {h : AHeap} (x : Hnd a h) (l : List Cell) : Hx a h (h ++ l) := by
  have lt := x.lt
  obtain ⟨ds, k, e⟩ := x
  exact ⟨⟨ds, k, (cells_app lt).trans e⟩, by simp, fun b h1 _ => cells_app h1⟩
section
variable {P : Prg} [U P]
theorem take_ok {a n : Nat} {m : Int} {h Q} (hd : Hnd a h) (hm : 0 < m) (q : ∀ (r : Nat) h', Hx a h h' → (r : Int) < m → Q (.int (r : Int)) h') : callN P (n+1) 20 [.adr a, .int m] h Q := by
  have hp := hd.lt
  obtain ⟨ds, k, e⟩ := hd
  refine call_of U.f__law_take rfl ?_
  show WpSs (ctxOf P (callN P n)) b_law_take _ [.val (.adr a), .val (.int m), .no, .no] h
  push_cast [b_law_take]
  refine k_subL (d := .int k) (view_adr e) (fun _ h => by cases h) rfl ?_
  have ix : ixN 2 1 = some 1 := rfl
  push_cast [e, putC, List.length_cons, List.length_nil, ix]
  have e1 : (k : Int) + 1 = ((k + 1 : Nat) : Int) := by omega
  have e2 : cells (h.set a (.lst ([.lst (ds.map AV.int), .int k].set 1 (.int ((k : Int) + 1))))) a = .lst [.lst (ds.map AV.int), .int ((k + 1 : Nat) : Int)] := by
    rw [cells_set hp, e1]; rfl
  have hx : Hx a h (h.set a (.lst ([.lst (ds.map AV.int), .int k].set 1 (.int ((k : Int) + 1))))) := ⟨⟨ds, k + 1, e2⟩, by simp, fun b _ h2 => cells_put (Ne.symm h2)⟩
  refine k_subL (d := .lst (ds.map AV.int)) (view_adr e2) (fun _ h => by cases h) rfl ?_
  push_cast [WpSs]
  refine ite_b (fun c => q 0 _ hx hm) (fun c => ?_)
  have hk : k < ds.length := by simp at c; omega
  have e3 : atI (ds.map AV.int) (k : Int) = some (.int ds[k]) := by
    rw [atI_nat (by simpa using hk)]
    simp [hk]
  push_cast [b_law_take_1]
  refine k_subL viewT_lst (fun _ h => by cases h) e3 ?_
  push_cast [WpSs]
  refine ⟨divA (by decide) (by decide), hm, ?_⟩
  have h1 := Int.emod_nonneg (ds[k] / 7) (b := m) (by omega)
  have h2 := Int.emod_lt_of_pos (ds[k] / 7) hm
  obtain ⟨r, hr⟩ := Int.eq_ofNat_of_zero_le h1
  rw [hr] at h2 ⊢
  exact q r _ hx h2
theorem draws_ok {n m : Nat} {ns : List Int} {h Q} (hn : ns.length ≤ 63) (hm : m ≤ 100000) (q : ∀ ds : List Int, ds.length = m → Q (.lst (ds.map AV.int)) h) : callN P (n+1) 19 [.ro (ns.map AV.int), .int (m : Int)] h Q := by
  refine call_of U.f__law_draws rfl ?_
  show WpSs (ctxOf P (callN P n)) b_law_draws _ [.val (.ro (ns.map AV.int)), .val (.int (m : Int)), .no, .no, .no, .no, .no, .no] h
  push_cast [b_law_draws, viewT_ro]
  have hz1 : sizeLine = 16777216 := rfl
  refine ⟨by rw [List.length_map]; omega, ?_⟩
  refine comp_map (fun i => .int (if (ns[i]?).getD 0 < 0 then -(ns[i]?).getD 0 else (ns[i]?).getD 0)) ?_ ?_
  · intro i x R hx r
    obtain ⟨a, ha, rfl⟩ := items_map hx
    push_cast [if_true]
    rw [ha] at r
    exact r
  refine ⟨Nat.zero_le _, ⟨by omega, by omega⟩, ?_⟩
  refine for_inv (fun k ρ h' => h' = h ∧ ∃ (ls ds : List Int) (s4 s5 s6 s7 : Slot), ls.length = ns.length ∧ ds.length = k ∧ ρ = [.val (.ro (ns.map AV.int)), .val (.int (m : Int)), .own (.lst (ls.map AV.int)), .own (.lst (ds.map AV.int)), s4, s5, s6, s7]) ⟨rfl, (List.range ns.length).map (fun i => (if (ns[i]?).getD 0 < 0 then -(ns[i]?).getD 0 else (ns[i]?).getD 0)), [], .no, .no, .no, .no, by simp, rfl, ?_⟩ (fun _ _ _ _ _ => by trivial) ?_ ?_
  · rw [List.length_map, List.map_map]; rfl
  · rintro k x _ h D' hx ⟨rfl, ls, ds, s4, s5, s6, s7, hl, hd, rfl⟩ kn kc kr kb
    obtain ⟨hk, rfl⟩ := items_range hx
    have hk : k < m := by simpa using hk
    have rest : ∀ (i : Int) s6 s7, WpSs (ctxOf P (callN P n)) b_law_draws_1 D' [.val (.ro (ns.map AV.int)), .val (.int (m : Int)), .own (.lst (ls.map AV.int)), .own (.lst (ds.map AV.int)), .val (.int k), .val (.int i), s6, s7] h := by
      intro i s6 s7
      push_cast [b_law_draws_1, int_one]
      refine ⟨mulA_r (by decide) (by decide), mulA_r (by decide) (by decide), by decide, ?_⟩
      generalize i * 48271 + (k : Int) * 69621 + 11 = a
      have h1 := Int.emod_nonneg a (by decide : (2147483647 : Int) ≠ 0)
      have h2 := Int.emod_lt_of_pos a (by decide : (0 : Int) < 2147483647)
      generalize a % 2147483647 = b at h1 h2
      refine ⟨mulA_l (by omega) (by omega), divA (by decide) (by decide), by decide, ?_⟩
      generalize b * b / 4096 + b = c
      have h3 := Int.emod_nonneg c (by decide : (2147483629 : Int) ≠ 0)
      have h4 := Int.emod_lt_of_pos c (by decide : (0 : Int) < 2147483629)
      generalize c % 2147483629 = d at h3 h4
      refine ⟨mulA_l (by omega) (by omega), divA (by decide) (by decide), mulA_r (by decide) (by decide), by decide, by simp; omega, ?_⟩
      exact kn _ _ ⟨rfl, ls, _, _, _, _, _, hl, by simp [hd], rfl⟩
    push_cast [b_law_draws_2]
    refine ite_b (fun c => ?_) (fun c => rest _ _ _)
    rw [List.length_map] at c ⊢
    refine ⟨by omega, ?_⟩
    have h1 := Int.emod_nonneg (k : Int) (b := (ns.length : Int)) (by omega)
    have h2 := Int.emod_lt_of_pos (k : Int) (b := (ns.length : Int)) (by omega)
    obtain ⟨j, hj⟩ := Int.eq_ofNat_of_zero_le h1
    rw [hj] at h2 ⊢
    have hj1 : j < ns.length := by omega
    have hj2 : j < ls.length := by omega
    have en : atI (ns.map AV.int) (j : Int) = some (.int ns[j]) := by
      rw [atI_nat (by simpa using hj1)]
      simp [hj1]
    have el : atI (ls.map AV.int) (j : Int) = some (.int ls[j]) := by
      rw [atI_nat (by simpa using hj2)]
      simp [hj2]
    refine k_subL viewT_ro (fun _ h => by cases h) en ?_
    push_cast [WpSs]
    refine ⟨⟨by decide, by decide, by decide⟩, ?_⟩
    refine ite_b (fun c2 => ?_) (fun c2 => ?_)
    · refine k_subL viewT_lst (fun _ h => by cases h) el ?_
      push_cast [WpSs]
      refine ite_b (fun c3 => ?_) (fun c3 => rest _ _ _)
      refine k_subL viewT_lst (fun _ h => by cases h) el ?_
      push_cast [WpSs]
      refine ⟨by decide, by simp; omega, ?_⟩
      refine k_subL viewT_lst (fun _ h => by cases h) el ?_
      have ix : ixN (ls.map AV.int).length (j : Int) = some j := by
        rw [List.length_map]
        exact Evl.ixN_nat hj2
      push_cast [putC, ix, int_one, set_int]
      refine ⟨divA (by decide) (by decide), ?_⟩
      exact kc _ _ ⟨rfl, _, _, _, _, _, _, by simp [hl], by simp [hd], rfl⟩
    · push_cast [Bool.false_eq_true, if_false]
      exact rest _ _ _
  · rintro _ h ⟨rfl, ls, ds, s4, s5, s6, s7, hl, hd, rfl⟩
    push_cast [b_law_draws_3]
    exact q ds (by simpa using hd)
end
end Hd

set_option maxRecDepth 100000
set_option maxHeartbeats 4000000
namespace Tr
open PySem L2 VL

def b_State___init__ : Ss := (.cons (.fld (.var 0) "numbers" (.var 1)) (.cons (.fld (.var 0) "lists" (.var 2)) (.cons (.fld (.var 0) "old" (.var 3)) .nil)))
def b_cells_of : Ss := (.cons (.ret (.ite (.tru (.sub (.var 0) (.cint 1))) (.sub (.attr (.var 1) "old") (.sub (.var 0) (.cint 0))) (.sub (.attr (.var 1) "lists") (.sub (.var 0) (.cint 0))))) .nil)
def b_value_of_1 : Ss := (.cons (.ret (.bin .Add (.sub (.var 2) (.var 3)) (.sub (.var 0) (.cint 3)))) .nil)
def b_value_of_2 : Ss := (.cons (.asg (.nm 2) (.call 139 (.cons (.sub (.var 0) (.cint 1)) (.cons (.var 1) .nil)))) (.cons (.asg (.nm 3) (.call 140 (.cons (.sub (.var 0) (.cint 2)) (.cons (.var 1) .nil)))) (.cons (.ite (.or (.cmp .Lt (.var 3) (.cint 0)) (.cmp .GtE (.var 3) (.blt .len (.cons (.var 2) .nil)))) (.cons (.ret .cnon) .nil) .nil) b_value_of_1)))
def b_value_of_3 : Ss := (.cons (.ite (.cmp .Eq (.sub (.var 0) (.cint 0)) (.cstr "len")) (.cons (.ret (.bin .Add (.blt .len (.cons (.sub (.attr (.var 1) "lists") (.sub (.var 0) (.cint 1))) .nil)) (.sub (.var 0) (.cint 2)))) .nil) .nil) b_value_of_2)
def b_value_of_4 : Ss := (.cons (.ite (.cmp .Eq (.sub (.var 0) (.cint 0)) (.cstr "var")) (.cons (.ret (.bin .Add (.sub (.attr (.var 1) "numbers") (.sub (.var 0) (.cint 1))) (.sub (.var 0) (.cint 2)))) .nil) .nil) b_value_of_3)
def b_value_of : Ss := (.cons (.ite (.cmp .Eq (.sub (.var 0) (.cint 0)) (.cstr "num")) (.cons (.ret (.sub (.var 0) (.cint 1))) .nil) .nil) b_value_of_4)
def b_compared_1 : Ss := (.cons (.ret (.cmp .Eq (.cmp .Eq (.var 0) (.var 2)) (.cmp .Eq (.var 1) (.cstr "==")))) .nil)
def b_compared_2 : Ss := (.cons (.ite (.cmp .Eq (.var 1) (.cstr ">=")) (.cons (.ret (.cmp .GtE (.var 0) (.var 2))) .nil) .nil) b_compared_1)
def b_compared_3 : Ss := (.cons (.ite (.cmp .Eq (.var 1) (.cstr ">")) (.cons (.ret (.cmp .Gt (.var 0) (.var 2))) .nil) .nil) b_compared_2)
def b_compared_4 : Ss := (.cons (.ite (.cmp .Eq (.var 1) (.cstr "<=")) (.cons (.ret (.cmp .LtE (.var 0) (.var 2))) .nil) .nil) b_compared_3)
def b_compared : Ss := (.cons (.ite (.cmp .Eq (.var 1) (.cstr "<")) (.cons (.ret (.cmp .Lt (.var 0) (.var 2))) .nil) .nil) b_compared_4)
def b_is_true : Ss := (.cons (.asg (.nm 2) (.call 140 (.cons (.sub (.var 0) (.cint 2)) (.cons (.var 1) .nil)))) (.cons (.asg (.nm 3) (.call 140 (.cons (.sub (.var 0) (.cint 3)) (.cons (.var 1) .nil)))) (.cons (.ret (.and (.cmp .IsNot (.var 2) .cnon) (.and (.cmp .IsNot (.var 3) .cnon) (.call 141 (.cons (.var 2) (.cons (.sub (.var 0) (.cint 1)) (.cons (.var 3) .nil))))))) .nil)))
def b_places : Ss := (.cons (.ret (.fz (.rngL (.blt .max2 (.cons (.cint 0) (.cons (.call 140 (.cons (.var 0) (.cons (.var 3) .nil))) .nil))) (.blt .min2 (.cons (.blt .len (.cons (.var 2) .nil)) (.cons (.call 140 (.cons (.var 1) (.cons (.var 3) .nil))) .nil)))))) .nil)
def b_part_of : Ss := (.cons (.asg (.nm 4) (.call 139 (.cons (.var 0) (.cons (.var 3) .nil)))) (.cons (.ret (.fz (.comp (.sub (.var 4) (.var 5)) (.nm 5) (.seq (.call 143 (.cons (.var 1) (.cons (.var 2) (.cons (.var 4) (.cons (.var 3) .nil)))))) .no [5]))) .nil))
def b_is_below : Ss := (.cons (.ret (.or (.cmp .Eq (.blt .len (.cons (.var 0) .nil)) (.cint 0)) (.or (.cmp .Eq (.blt .len (.cons (.var 1) .nil)) (.cint 0)) (.cmp .LtE (.blt .maxL (.cons (.var 0) .nil)) (.blt .minL (.cons (.var 1) .nil)))))) .nil)
def b_holds_over_cells_1 : Ss := (.cons (.asg (.nm 6) (.call 139 (.cons (.sub (.var 0) (.cint 1)) (.cons (.var 1) .nil)))) (.cons (.asg (.nm 7) (.call 139 (.cons (.sub (.var 0) (.cint 5)) (.cons (.var 1) .nil)))) (.cons (.asg (.nm 8) (.fz (.comp (.var 9) (.nm 9) (.seq (.call 143 (.cons (.sub (.var 0) (.cint 2)) (.cons (.sub (.var 0) (.cint 3)) (.cons (.var 6) (.cons (.var 1) .nil)))))) (.so (.cmp .Lt (.var 9) (.blt .len (.cons (.var 7) .nil)))) [9]))) (.cons (.ret (.blt .all (.cons (.fz (.comp (.call 141 (.cons (.sub (.var 6) (.var 9)) (.cons (.sub (.var 0) (.cint 4)) (.cons (.bin .Add (.sub (.var 7) (.var 9)) (.sub (.var 0) (.cint 6))) .nil)))) (.nm 9) (.seq (.var 8)) .no [9])) .nil))) .nil))))
def b_holds_over_cells_2 : Ss := (.cons (.ite (.cmp .Eq (.var 2) (.cstr "all")) (.cons (.asg (.nm 5) (.call 140 (.cons (.sub (.var 0) (.cint 5)) (.cons (.var 1) .nil)))) (.cons (.ret (.blt .all (.cons (.fz (.comp (.call 141 (.cons (.var 12) (.cons (.sub (.var 0) (.cint 4)) (.cons (.var 5) .nil)))) (.nm 12) (.seq (.var 4)) .no [12])) .nil))) .nil)) .nil) b_holds_over_cells_1)
def b_holds_over_cells_3 : Ss := (.cons (.asg (.nm 4) (.call 144 (.cons (.sub (.var 0) (.cint 1)) (.cons (.sub (.var 0) (.cint 2)) (.cons (.sub (.var 0) (.cint 3)) (.cons (.var 1) .nil)))))) (.cons (.ite (.cmp .Eq (.var 2) (.cstr "sorted")) (.cons (.ret (.blt .all (.cons (.fz (.comp (.cmp .LtE (.var 10) (.var 11)) (.tup [10, 11]) (.zip (.var 4) (.fz (.slice (.var 4) (.so (.cint 1)) .no))) .no [10, 11])) .nil))) .nil) .nil) b_holds_over_cells_2))
def b_holds_over_cells : Ss := (.cons (.asg (.nm 2) (.sub (.var 0) (.cint 0))) (.cons (.ite (.cmp .Eq (.var 2) (.cstr "below")) (.cons (.asg (.nm 3) (.call 144 (.cons (.sub (.var 0) (.cint 1)) (.cons (.sub (.var 0) (.cint 2)) (.cons (.sub (.var 0) (.cint 3)) (.cons (.var 1) .nil)))))) (.cons (.ret (.call 145 (.cons (.var 3) (.cons (.call 144 (.cons (.sub (.var 0) (.cint 4)) (.cons (.sub (.var 0) (.cint 5)) (.cons (.sub (.var 0) (.cint 6)) (.cons (.var 1) .nil))))) .nil)))) .nil)) .nil) b_holds_over_cells_3))
def b_truth_of_1 : Ss := (.cons (.ret (.call 146 (.cons (.var 0) (.cons (.var 1) .nil)))) .nil)
def b_truth_of_2 : Ss := (.cons (.ite (.cmp .Eq (.var 2) (.cstr "either")) (.cons (.ret (.or (.call 142 (.cons (.sub (.var 0) (.cint 1)) (.cons (.var 1) .nil))) (.call 142 (.cons (.sub (.var 0) (.cint 2)) (.cons (.var 1) .nil))))) .nil) .nil) b_truth_of_1)
def b_truth_of_3 : Ss := (.cons (.ite (.cmp .Eq (.var 2) (.cstr "or")) (.cons (.ret (.blt .any (.cons (.fz (.comp (.call 147 (.cons (.var 3) (.cons (.var 1) .nil))) (.nm 3) (.seq (.sub (.var 0) (.cint 1))) .no [3])) .nil))) .nil) .nil) b_truth_of_2)
def b_truth_of_4 : Ss := (.cons (.ite (.cmp .Eq (.var 2) (.cstr "and")) (.cons (.ret (.blt .all (.cons (.fz (.comp (.call 147 (.cons (.var 3) (.cons (.var 1) .nil))) (.nm 3) (.seq (.sub (.var 0) (.cint 1))) .no [3])) .nil))) .nil) .nil) b_truth_of_3)
def b_truth_of_5 : Ss := (.cons (.ite (.cmp .Eq (.var 2) (.cstr "not")) (.cons (.ret (.not (.call 147 (.cons (.sub (.var 0) (.cint 1)) (.cons (.var 1) .nil))))) .nil) .nil) b_truth_of_4)
def b_truth_of : Ss := (.cons (.asg (.nm 2) (.sub (.var 0) (.cint 0))) (.cons (.ite (.cmp .Eq (.var 2) (.cstr "cmp")) (.cons (.ret (.call 142 (.cons (.var 0) (.cons (.var 1) .nil)))) .nil) .nil) b_truth_of_5))
class U (P : Prg) : Prop where
  f_State___init__ : P.fns.lookup 138 = some ⟨4, 4, b_State___init__⟩
  f_cells_of : P.fns.lookup 139 = some ⟨2, 2, b_cells_of⟩
  f_value_of : P.fns.lookup 140 = some ⟨2, 4, b_value_of⟩
  f_compared : P.fns.lookup 141 = some ⟨3, 3, b_compared⟩
  f_is_true : P.fns.lookup 142 = some ⟨2, 4, b_is_true⟩
  f_places : P.fns.lookup 143 = some ⟨4, 4, b_places⟩
  f_part_of : P.fns.lookup 144 = some ⟨4, 6, b_part_of⟩
  f_is_below : P.fns.lookup 145 = some ⟨2, 2, b_is_below⟩
  f_holds_over_cells : P.fns.lookup 146 = some ⟨2, 13, b_holds_over_cells⟩
  f_truth_of : P.fns.lookup 147 = some ⟨2, 4, b_truth_of⟩
  i_8 : P.init.lookup 8 = some 138
  d_8_numbers : P.flds.contains (8, ("numbers" : Str)) = true
  d_8_lists : P.flds.contains (8, ("lists" : Str)) = true
  d_8_old : P.flds.contains (8, ("old" : Str)) = true
end Tr

set_option maxRecDepth 100000
set_option maxHeartbeats 4000000
namespace Nm
open PySem L2 VL

def b_law_names_1 : Ss := (.cons (.asg (.nm 3) (.sub (.fz (.lst (.cons (.cstr "u") (.cons (.cstr "z") (.cons (.cstr "uz") (.cons (.cstr "zuuz") (.cons (.cstr "zzzzuuuu") .nil))))))) (.call 20 (.cons (.var 0) (.cons (.cint 5) .nil))))) (.cons (.app 1 (.sub (.fz (.lst (.cons (.var 2) (.cons (.bin .Add (.var 2) (.var 3)) (.cons (.bin .Add (.var 3) (.var 2)) .nil))))) (.call 20 (.cons (.var 0) (.cons (.cint 3) .nil))))) .nil))
def b_law_names_2 : Ss := (.cons (.frz 1) (.cons (.ret (.var 1)) .nil))
def b_law_names : Ss := (.cons (.asgO 1 (.lst .nil)) (.cons (.for (.nm 2) (.chars (.cstr "abcdegkmpqvxyhjw")) b_law_names_1) b_law_names_2))
class U (P : Prg) : Prop where
  f__law_names : P.fns.lookup 148 = some ⟨1, 4, b_law_names⟩
end Nm

set_option maxRecDepth 100000
set_option maxHeartbeats 4000000
namespace Ev
open PySem L2 VL

def b_law_compared : Ss := (.cons (.asg (.nm 3) (.fz (.lst (.cons (.cmp .Lt (.var 1) (.var 2)) (.cons (.cmp .LtE (.var 1) (.var 2)) (.cons (.cmp .Gt (.var 1) (.var 2)) (.cons (.cmp .GtE (.var 1) (.var 2)) (.cons (.cmp .Eq (.var 1) (.var 2)) (.cons (.cmp .NotEq (.var 1) (.var 2)) .nil))))))))) (.cons (.ret (.sub (.var 3) (.idx (.fz (.lst (.cons (.cstr "<") (.cons (.cstr "<=") (.cons (.cstr ">") (.cons (.cstr ">=") (.cons (.cstr "==") (.cons (.cstr "!=") .nil)))))))) (.var 0)))) .nil))
def b_law_value_1 : Ss := (.cons (.ret (.bin .Add (.sub (.var 4) (.var 5)) (.sub (.var 0) (.cint 3)))) .nil)
def b_law_value_2 : Ss := (.cons (.asg (.nm 5) (.call 150 (.cons (.sub (.var 0) (.cint 2)) (.cons (.var 1) (.cons (.var 2) (.cons (.var 3) .nil)))))) (.cons (.ite (.or (.cmp .Lt (.var 5) (.cint 0)) (.cmp .GtE (.var 5) (.blt .len (.cons (.var 4) .nil)))) (.cons (.ret .cnon) .nil) .nil) b_law_value_1))
def b_law_value_3 : Ss := (.cons (.asg (.nm 4) (.sub (.var 2) (.sub (.sub (.var 0) (.cint 1)) (.cint 0)))) (.cons (.ite (.tru (.sub (.sub (.var 0) (.cint 1)) (.cint 1))) (.cons (.asg (.nm 4) (.sub (.var 3) (.sub (.sub (.var 0) (.cint 1)) (.cint 0)))) .nil) .nil) b_law_value_2))
def b_law_value_4 : Ss := (.cons (.ite (.cmp .Eq (.sub (.var 0) (.cint 0)) (.cstr "len")) (.cons (.ret (.bin .Add (.blt .len (.cons (.sub (.var 2) (.sub (.var 0) (.cint 1))) .nil)) (.sub (.var 0) (.cint 2)))) .nil) .nil) b_law_value_3)
def b_law_value_5 : Ss := (.cons (.ite (.cmp .Eq (.sub (.var 0) (.cint 0)) (.cstr "var")) (.cons (.ret (.bin .Add (.sub (.var 1) (.sub (.var 0) (.cint 1))) (.sub (.var 0) (.cint 2)))) .nil) .nil) b_law_value_4)
def b_law_value : Ss := (.cons (.ite (.cmp .Eq (.sub (.var 0) (.cint 0)) (.cstr "num")) (.cons (.ret (.sub (.var 0) (.cint 1))) .nil) .nil) b_law_value_5)
def b_law_holds_1 : Ss := (.cons (.ret (.call 149 (.cons (.sub (.var 0) (.cint 1)) (.cons (.var 4) (.cons (.var 5) .nil))))) .nil)
def b_law_holds : Ss := (.cons (.asg (.nm 4) (.call 150 (.cons (.sub (.var 0) (.cint 2)) (.cons (.var 1) (.cons (.var 2) (.cons (.var 3) .nil)))))) (.cons (.asg (.nm 5) (.call 150 (.cons (.sub (.var 0) (.cint 3)) (.cons (.var 1) (.cons (.var 2) (.cons (.var 3) .nil)))))) (.cons (.ite (.or (.cmp .Is (.var 4) .cnon) (.cmp .Is (.var 5) .cnon)) (.cons (.ret (.cbl false)) .nil) .nil) b_law_holds_1)))
def b_law_part_1 : Ss := (.cons (.asg (.nm 7) (.blt .max2 (.cons (.cint 0) (.cons (.call 150 (.cons (.var 1) (.cons (.var 3) (.cons (.var 4) (.cons (.var 5) .nil))))) .nil)))) (.cons (.ret (.tup (.cons (.var 6) (.cons (.var 7) (.cons (.blt .min2 (.cons (.blt .len (.cons (.var 6) .nil)) (.cons (.call 150 (.cons (.var 2) (.cons (.var 3) (.cons (.var 4) (.cons (.var 5) .nil))))) .nil))) .nil))))) .nil))
def b_law_part : Ss := (.cons (.asg (.nm 6) (.sub (.var 4) (.sub (.var 0) (.cint 0)))) (.cons (.ite (.tru (.sub (.var 0) (.cint 1))) (.cons (.asg (.nm 6) (.sub (.var 5) (.sub (.var 0) (.cint 0)))) .nil) .nil) b_law_part_1))
def b_law_true_1 : Ss := (.cons (.ite (.cmp .Gt (.sub (.var 5) (.var 12)) (.sub (.var 9) (.var 13))) (.cons (.ret (.cbl false)) .nil) .nil) .nil)
def b_law_true_2 : Ss := (.cons (.for (.nm 13) (.rng2 (.var 10) (.var 11)) b_law_true_1) .nil)
def b_law_true_3 : Ss := (.cons (.ret (.cbl true)) .nil)
def b_law_true_4 : Ss := (.cons (.asg (.tup [9, 10, 11]) (.call 152 (.cons (.sub (.var 0) (.cint 4)) (.cons (.sub (.var 0) (.cint 5)) (.cons (.sub (.var 0) (.cint 6)) (.cons (.var 1) (.cons (.var 2) (.cons (.var 3) .nil)))))))) (.cons (.for (.nm 12) (.rng2 (.var 6) (.var 7)) b_law_true_2) b_law_true_3))
def b_law_true_5 : Ss := (.cons (.ite (.cmp .Eq (.var 4) (.cstr "sorted")) (.cons (.ret (.blt .all (.cons (.fz (.comp (.cmp .LtE (.sub (.var 5) (.var 14)) (.sub (.var 5) (.bin .Add (.var 14) (.cint 1)))) (.nm 14) (.rng2 (.var 6) (.bin .Sub (.var 7) (.cint 1))) .no [14])) .nil))) .nil) .nil) b_law_true_4)
def b_law_true_6 : Ss := (.cons (.ite (.cmp .Eq (.var 4) (.cstr "match")) (.cons (.asg (.nm 9) (.call 152 (.cons (.sub (.var 0) (.cint 5)) (.cons (.sub (.var 0) (.cint 2)) (.cons (.sub (.var 0) (.cint 3)) (.cons (.var 1) (.cons (.var 2) (.cons (.var 3) .nil)))))))) (.cons (.asg (.nm 7) (.blt .min2 (.cons (.var 7) (.cons (.sub (.var 9) (.cint 2)) .nil)))) (.cons (.ret (.blt .all (.cons (.fz (.comp (.call 149 (.cons (.sub (.var 0) (.cint 4)) (.cons (.sub (.var 5) (.var 14)) (.cons (.bin .Add (.sub (.sub (.var 9) (.cint 0)) (.var 14)) (.sub (.var 0) (.cint 6))) .nil)))) (.nm 14) (.rng2 (.var 6) (.var 7)) .no [14])) .nil))) .nil))) .nil) b_law_true_5)
def b_law_true_7 : Ss := (.cons (.asg (.tup [5, 6, 7]) (.call 152 (.cons (.sub (.var 0) (.cint 1)) (.cons (.sub (.var 0) (.cint 2)) (.cons (.sub (.var 0) (.cint 3)) (.cons (.var 1) (.cons (.var 2) (.cons (.var 3) .nil)))))))) (.cons (.ite (.cmp .Eq (.var 4) (.cstr "all")) (.cons (.asg (.nm 8) (.call 150 (.cons (.sub (.var 0) (.cint 5)) (.cons (.var 1) (.cons (.var 2) (.cons (.var 3) .nil)))))) (.cons (.ret (.blt .all (.cons (.fz (.comp (.call 149 (.cons (.sub (.var 0) (.cint 4)) (.cons (.sub (.var 5) (.var 14)) (.cons (.var 8) .nil)))) (.nm 14) (.rng2 (.var 6) (.var 7)) .no [14])) .nil))) .nil)) .nil) b_law_true_6))
def b_law_true_8 : Ss := (.cons (.ite (.cmp .Eq (.var 4) (.cstr "either")) (.cons (.ret (.or (.call 151 (.cons (.sub (.var 0) (.cint 1)) (.cons (.var 1) (.cons (.var 2) (.cons (.var 3) .nil))))) (.call 151 (.cons (.sub (.var 0) (.cint 2)) (.cons (.var 1) (.cons (.var 2) (.cons (.var 3) .nil))))))) .nil) .nil) b_law_true_7)
def b_law_true : Ss := (.cons (.asg (.nm 4) (.sub (.var 0) (.cint 0))) (.cons (.ite (.cmp .Eq (.var 4) (.cstr "cmp")) (.cons (.ret (.call 151 (.cons (.var 0) (.cons (.var 1) (.cons (.var 2) (.cons (.var 3) .nil)))))) .nil) .nil) b_law_true_8))
def b_law_pairs_true_1 : Ss := (.cons (.ite (.cmp .Gt (.sub (.var 4) (.var 7)) (.sub (.var 4) (.var 8))) (.cons (.ret (.cbl false)) .nil) .nil) .nil)
def b_law_pairs_true_2 : Ss := (.cons (.for (.nm 8) (.rng2 (.var 7) (.var 6)) b_law_pairs_true_1) .nil)
def b_law_pairs_true_3 : Ss := (.cons (.ret (.cbl true)) .nil)
def b_law_pairs_true_4 : Ss := (.cons (.asg (.tup [4, 5, 6]) (.call 152 (.cons (.sub (.var 0) (.cint 1)) (.cons (.sub (.var 0) (.cint 2)) (.cons (.sub (.var 0) (.cint 3)) (.cons (.var 1) (.cons (.var 2) (.cons (.var 3) .nil)))))))) (.cons (.for (.nm 7) (.rng2 (.var 5) (.var 6)) b_law_pairs_true_2) b_law_pairs_true_3))
def b_law_pairs_true : Ss := (.cons (.ite (.cmp .NotEq (.sub (.var 0) (.cint 0)) (.cstr "sorted")) (.cons (.ret (.call 153 (.cons (.var 0) (.cons (.var 1) (.cons (.var 2) (.cons (.var 3) .nil)))))) .nil) .nil) b_law_pairs_true_4)
def b_law_truth_1 : Ss := (.cons (.ret (.call 154 (.cons (.var 0) (.cons (.var 1) (.cons (.var 2) (.cons (.var 3) .nil)))))) .nil)
def b_law_truth_2 : Ss := (.cons (.ite (.cmp .Eq (.sub (.var 0) (.cint 0)) (.cstr "or")) (.cons (.ret (.blt .any (.cons (.fz (.comp (.call 155 (.cons (.var 4) (.cons (.var 1) (.cons (.var 2) (.cons (.var 3) .nil))))) (.nm 4) (.seq (.sub (.var 0) (.cint 1))) .no [4])) .nil))) .nil) .nil) b_law_truth_1)
def b_law_truth_3 : Ss := (.cons (.ite (.cmp .Eq (.sub (.var 0) (.cint 0)) (.cstr "and")) (.cons (.ret (.blt .all (.cons (.fz (.comp (.call 155 (.cons (.var 4) (.cons (.var 1) (.cons (.var 2) (.cons (.var 3) .nil))))) (.nm 4) (.seq (.sub (.var 0) (.cint 1))) .no [4])) .nil))) .nil) .nil) b_law_truth_2)
def b_law_truth : Ss := (.cons (.ite (.cmp .Eq (.sub (.var 0) (.cint 0)) (.cstr "not")) (.cons (.ret (.not (.call 155 (.cons (.sub (.var 0) (.cint 1)) (.cons (.var 1) (.cons (.var 2) (.cons (.var 3) .nil))))))) .nil) .nil) b_law_truth_3)
class U (P : Prg) : Prop where
  f__law_compared : P.fns.lookup 149 = some ⟨3, 4, b_law_compared⟩
  f__law_value : P.fns.lookup 150 = some ⟨4, 6, b_law_value⟩
  f__law_holds : P.fns.lookup 151 = some ⟨4, 6, b_law_holds⟩
  f__law_part : P.fns.lookup 152 = some ⟨6, 8, b_law_part⟩
  f__law_true : P.fns.lookup 153 = some ⟨4, 15, b_law_true⟩
  f__law_pairs_true : P.fns.lookup 154 = some ⟨4, 9, b_law_pairs_true⟩
  f__law_truth : P.fns.lookup 155 = some ⟨4, 5, b_law_truth⟩
end Ev

set_option maxRecDepth 100000
set_option maxHeartbeats 4000000
namespace K09
open PySem L2 VL

def b_law_some_1 : Ss := (.cons (.ret (.bin .Sub (.call 20 (.cons (.var 0) (.cons (.cint 5) .nil))) (.cint 1))) .nil)
def b_law_some : Ss := (.cons (.asg (.nm 1) (.call 20 (.cons (.var 0) (.cons (.cint 9) .nil)))) (.cons (.ite (.cmp .Eq (.var 1) (.cint 0)) (.cons (.ret (.bin .Mult (.bin .Sub (.call 20 (.cons (.var 0) (.cons (.cint 100003) .nil))) (.cint 50000)) (.bin .Pow (.cint 10) (.cint 25)))) .nil) .nil) b_law_some_1))
def b_law_plain_1 : Ss := (.cons (.ret (.tup (.cons (.cstr "len") (.cons (.sub (.var 1) (.bin .Add (.cint 3) (.call 20 (.cons (.var 0) (.cons (.cint 3) .nil))))) (.cons (.bin .Sub (.call 20 (.cons (.var 0) (.cons (.cint 5) .nil))) (.cint 3)) .nil))))) .nil)
def b_law_plain_2 : Ss := (.cons (.ite (.cmp .Lt (.var 2) (.cint 4)) (.cons (.ret (.tup (.cons (.cstr "var") (.cons (.sub (.fz (.lst (.cons (.sub (.var 1) (.cint 0)) (.cons (.sub (.var 1) (.cint 1)) (.cons (.cstr "result") .nil))))) (.call 20 (.cons (.var 0) (.cons (.cint 3) .nil)))) (.cons (.bin .Sub (.call 20 (.cons (.var 0) (.cons (.cint 4) .nil))) (.cint 1)) .nil))))) .nil) .nil) b_law_plain_1)
def b_law_plain : Ss := (.cons (.asg (.nm 2) (.call 20 (.cons (.var 0) (.cons (.cint 6) .nil)))) (.cons (.ite (.cmp .Lt (.var 2) (.cint 2)) (.cons (.ret (.tup (.cons (.cstr "num") (.cons (.sub (.fz (.lst (.cons (.bin .Sub (.call 20 (.cons (.var 0) (.cons (.cint 9) .nil))) (.cint 2)) (.cons (.bin .Sub (.call 20 (.cons (.var 0) (.cons (.cint 199) .nil))) (.cint 99)) .nil)))) (.bin .FloorDiv (.call 20 (.cons (.var 0) (.cons (.cint 4) .nil))) (.cint 3))) .nil)))) .nil) .nil) b_law_plain_2))
def b_law_list : Ss := (.cons (.ret (.tup (.cons (.sub (.var 1) (.bin .Add (.cint 3) (.call 20 (.cons (.var 0) (.cons (.cint 3) .nil))))) (.cons (.cmp .Eq (.call 20 (.cons (.var 0) (.cons (.cint 3) .nil))) (.cint 0)) .nil)))) .nil)
def b_law_term_1 : Ss := (.cons (.ret (.tup (.cons (.cstr "cell") (.cons (.call 158 (.cons (.var 0) (.cons (.var 1) .nil))) (.cons (.call 157 (.cons (.var 0) (.cons (.var 1) .nil))) (.cons (.sub (.fz (.lst (.cons (.cint 0) (.cons (.cint 0) (.cons (.cint 1) (.cons (.neg (.cint 2)) .nil)))))) (.call 20 (.cons (.var 0) (.cons (.cint 4) .nil)))) .nil)))))) .nil)
def b_law_term : Ss := (.cons (.ite (.cmp .Eq (.call 20 (.cons (.var 0) (.cons (.cint 2) .nil))) (.cint 0)) (.cons (.ret (.call 157 (.cons (.var 0) (.cons (.var 1) .nil)))) .nil) .nil) b_law_term_1)
def b_law_cmp : Ss := (.cons (.ret (.tup (.cons (.cstr "cmp") (.cons (.sub (.fz (.lst (.cons (.cstr "<") (.cons (.cstr "<=") (.cons (.cstr ">") (.cons (.cstr ">=") (.cons (.cstr "==") (.cons (.cstr "!=") .nil)))))))) (.call 20 (.cons (.var 0) (.cons (.cint 6) .nil)))) (.cons (.call 159 (.cons (.var 0) (.cons (.var 1) .nil))) (.cons (.call 159 (.cons (.var 0) (.cons (.var 1) .nil))) .nil)))))) .nil)
def b_law_promise_1 : Ss := (.cons (.ret (.bin .Add (.bin .Add (.tup (.cons (.cstr "below") .nil)) (.var 4)) (.tup (.cons (.call 158 (.cons (.var 0) (.cons (.var 1) .nil))) (.cons (.call 157 (.cons (.var 0) (.cons (.var 1) .nil))) (.cons (.call 157 (.cons (.var 0) (.cons (.var 1) .nil))) .nil)))))) .nil)
def b_law_promise_2 : Ss := (.cons (.ite (.cmp .Lt (.var 2) (.cint 9)) (.cons (.ret (.bin .Add (.tup (.cons (.cstr "sorted") .nil)) (.var 4))) .nil) .nil) b_law_promise_1)
def b_law_promise_3 : Ss := (.cons (.ite (.cmp .Lt (.var 2) (.cint 7)) (.cons (.ret (.bin .Add (.bin .Add (.tup (.cons (.cstr "match") .nil)) (.var 4)) (.tup (.cons (.var 3) (.cons (.call 158 (.cons (.var 0) (.cons (.var 1) .nil))) (.cons (.sub (.fz (.lst (.cons (.cint 0) (.cons (.cint 0) (.cons (.cint 1) (.cons (.neg (.cint 1)) .nil)))))) (.call 20 (.cons (.var 0) (.cons (.cint 4) .nil)))) .nil)))))) .nil) .nil) b_law_promise_2)
def b_law_promise_4 : Ss := (.cons (.asg (.nm 3) (.sub (.fz (.lst (.cons (.cstr "<") (.cons (.cstr "<=") (.cons (.cstr ">") (.cons (.cstr ">=") (.cons (.cstr "==") (.cons (.cstr "!=") .nil)))))))) (.call 20 (.cons (.var 0) (.cons (.cint 6) .nil))))) (.cons (.asg (.nm 4) (.tup (.cons (.call 158 (.cons (.var 0) (.cons (.var 1) .nil))) (.cons (.sub (.fz (.lst (.cons (.tup (.cons (.cstr "num") (.cons (.cint 0) .nil))) (.cons (.call 157 (.cons (.var 0) (.cons (.var 1) .nil))) .nil)))) (.call 20 (.cons (.var 0) (.cons (.cint 2) .nil)))) (.cons (.call 157 (.cons (.var 0) (.cons (.var 1) .nil))) .nil))))) (.cons (.ite (.cmp .Lt (.var 2) (.cint 5)) (.cons (.ret (.bin .Add (.bin .Add (.tup (.cons (.cstr "all") .nil)) (.var 4)) (.tup (.cons (.var 3) (.cons (.call 157 (.cons (.var 0) (.cons (.var 1) .nil))) .nil))))) .nil) .nil) b_law_promise_3)))
def b_law_promise_5 : Ss := (.cons (.ite (.cmp .Eq (.var 2) (.cint 2)) (.cons (.ret (.tup (.cons (.cstr "either") (.cons (.call 160 (.cons (.var 0) (.cons (.var 1) .nil))) (.cons (.call 160 (.cons (.var 0) (.cons (.var 1) .nil))) .nil))))) .nil) .nil) b_law_promise_4)
def b_law_promise : Ss := (.cons (.asg (.nm 2) (.call 20 (.cons (.var 0) (.cons (.cint 10) .nil)))) (.cons (.ite (.cmp .Lt (.var 2) (.cint 2)) (.cons (.ret (.call 160 (.cons (.var 0) (.cons (.var 1) .nil)))) .nil) .nil) b_law_promise_5))
def b_law_condition_1 : Ss := (.cons (.asg (.nm 4) (.fz (.comp (.call 162 (.cons (.var 0) (.cons (.var 1) (.cons (.bin .Sub (.var 2) (.cint 1)) .nil)))) (.nm 5) (.rng1 (.bin .Add (.cint 2) (.call 20 (.cons (.var 0) (.cons (.cint 2) .nil))))) .no [5]))) (.cons (.ret (.tup (.cons (.sub (.fz (.lst (.cons (.cstr "and") (.cons (.cstr "or") .nil)))) (.bin .Sub (.var 3) (.cint 3))) (.cons (.blt .tuple (.cons (.var 4) .nil)) .nil)))) .nil))
def b_law_condition_2 : Ss := (.cons (.ite (.cmp .Eq (.var 3) (.cint 2)) (.cons (.ret (.tup (.cons (.cstr "not") (.cons (.call 162 (.cons (.var 0) (.cons (.var 1) (.cons (.bin .Sub (.var 2) (.cint 1)) .nil)))) .nil)))) .nil) .nil) b_law_condition_1)
def b_law_condition : Ss := (.cons (.asg (.nm 3) (.call 20 (.cons (.var 0) (.cons (.cint 5) .nil)))) (.cons (.ite (.or (.cmp .Eq (.var 2) (.cint 0)) (.cmp .Lt (.var 3) (.cint 2))) (.cons (.ret (.call 160 (.cons (.var 0) (.cons (.var 1) .nil)))) .nil) .nil) b_law_condition_2))
def b_law_copied_1 : Ss := (.cons (.put 1 (.var 2) (.fz (.listOf (.sub (.var 0) (.var 2))))) .nil)
def b_law_copied_2 : Ss := (.cons (.frz 1) (.cons (.ret (.var 1)) .nil))
def b_law_copied : Ss := (.cons (.asgO 1 .dct0) (.cons (.for (.nm 2) (.keys (.var 0)) b_law_copied_1) b_law_copied_2))
def b_law_state_1 : Ss := (.cons (.put 2 (.var 3) (.call 156 (.cons (.var 0) .nil))) .nil)
def b_law_state_2 : Ss := (.cons (.put 5 (.sub (.var 1) (.bin .Add (.cint 3) (.var 6))) (.fz (.comp (.call 156 (.cons (.var 0) .nil)) (.nm 8) (.rng1 (.var 7)) .no [8]))) (.cons (.ite (.cmp .Eq (.call 20 (.cons (.var 0) (.cons (.cint 2) .nil))) (.cint 0)) (.cons (.put 5 (.sub (.var 1) (.bin .Add (.cint 3) (.var 6))) (.fz (.listOf (.sub (.vw 4) (.sub (.var 1) (.bin .Add (.cint 3) (.var 6))))))) .nil) .nil) .nil))
def b_law_state_3 : Ss := (.cons (.asg (.nm 7) (.call 20 (.cons (.var 0) (.cons (.cint 7) .nil)))) (.cons (.put 4 (.sub (.var 1) (.bin .Add (.cint 3) (.var 6))) (.fz (.comp (.call 156 (.cons (.var 0) .nil)) (.nm 8) (.rng1 (.var 7)) .no [8]))) (.cons (.ite (.cmp .Eq (.call 20 (.cons (.var 0) (.cons (.cint 2) .nil))) (.cint 0)) (.cons (.put 4 (.sub (.var 1) (.bin .Add (.cint 3) (.var 6))) (.fz (.sorted (.fz (.comp (.blt .int (.cons (.var 8) .nil)) (.nm 8) (.seq (.sub (.vw 4) (.sub (.var 1) (.bin .Add (.cint 3) (.var 6))))) .no [8]))))) .nil) .nil) b_law_state_2)))
def b_law_state_4 : Ss := (.cons (.frz 4) (.cons (.frz 2) (.cons (.frz 5) (.cons (.ret (.fz (.lst (.cons (.var 2) (.cons (.var 4) (.cons (.var 5) .nil)))))) .nil))))
def b_law_state_5 : Ss := (.cons (.asgO 4 .dct0) (.cons (.asgO 5 .dct0) (.cons (.for (.nm 6) (.rng1 (.cint 3)) b_law_state_3) b_law_state_4)))
def b_law_state : Ss := (.cons (.asgO 2 .dct0) (.cons (.for (.nm 3) (.seq (.fz (.lst (.cons (.sub (.var 1) (.cint 0)) (.cons (.sub (.var 1) (.cint 1)) (.cons (.cstr "result") .nil)))))) b_law_state_1) b_law_state_5))
def b_law_answers_1 : Ss := (.cons (.ite (.and (.cmp .IsNot (.var 6) .cnon) (.or (.not (.tru (.isi (.var 7) "int"))) (.or (.tru (.isi (.var 7) "bool")) (.cmp .NotEq (.var 7) (.var 6))))) (.cons (.ret (.cbl false)) .nil) .nil) .nil)
def b_law_answers_2 : Ss := (.cons (.asg (.nm 6) (.call 150 (.cons (.var 5) (.cons (.sub (.var 2) (.cint 0)) (.cons (.sub (.var 2) (.cint 1)) (.cons (.sub (.var 2) (.cint 2)) .nil)))))) (.cons (.asg (.nm 7) (.call 140 (.cons (.var 5) (.cons (.var 0) .nil)))) (.cons (.ite (.and (.cmp .Is (.var 6) .cnon) (.cmp .IsNot (.var 7) .cnon)) (.cons (.ret (.cbl false)) .nil) .nil) b_law_answers_1)))
def b_law_answers_3 : Ss := (.cons (.asg (.nm 7) (.call 147 (.cons (.var 8) (.cons (.var 0) .nil)))) (.cons (.ite (.or (.not (.tru (.isi (.var 7) "bool"))) (.cmp .NotEq (.var 7) (.call 155 (.cons (.var 8) (.cons (.sub (.var 2) (.cint 0)) (.cons (.sub (.var 2) (.cint 1)) (.cons (.sub (.var 2) (.cint 2)) .nil))))))) (.cons (.ret (.cbl false)) .nil) .nil) .nil))
def b_law_answers_4 : Ss := (.cons (.ret (.cbl true)) .nil)
def b_law_answers_5 : Ss := (.cons (.for (.nm 8) (.seq (.var 4)) b_law_answers_3) b_law_answers_4)
def b_law_answers : Ss := (.cons (.asg (.tup [3, 4]) (.var 1)) (.cons (.for (.nm 5) (.seq (.var 3)) b_law_answers_2) b_law_answers_5))
def b_law_1 : Ss := (.cons (.ret (.and (.cmp .Eq (.attr (.var 5) "numbers") (.sub (.var 4) (.cint 0))) (.and (.cmp .Eq (.attr (.var 5) "lists") (.sub (.var 4) (.cint 1))) (.and (.cmp .Eq (.attr (.var 5) "old") (.sub (.var 4) (.cint 2))) (.call 165 (.cons (.var 5) (.cons (.var 6) (.cons (.var 4) .nil)))))))) .nil)
def b_law_2 : Ss := (.cons (.ite (.or (.cmp .NotEq (.sub (.var 3) (.cint 0)) (.sub (.var 4) (.cint 0))) (.or (.cmp .NotEq (.sub (.var 3) (.cint 1)) (.sub (.var 4) (.cint 1))) (.cmp .NotEq (.sub (.var 3) (.cint 2)) (.sub (.var 4) (.cint 2))))) (.cons (.ret (.cbl false)) .nil) .nil) b_law_1)
def b_law_3 : Ss := (.cons (.asg (.nm 7) (.call 164 (.cons (.var 1) (.cons (.var 2) .nil)))) (.cons (.ite (.not (.tru (.call 165 (.cons (.make 8 (.cons (.sub (.var 7) (.cint 0)) (.cons (.sub (.var 7) (.cint 1)) (.cons (.sub (.var 7) (.cint 2)) .nil)))) (.cons (.var 6) (.cons (.var 7) .nil)))))) (.cons (.ret (.cbl false)) .nil) .nil) b_law_2))
def b_law : Ss := (.cons (.asg (.nm 1) (.new (.lst (.cons (.call 19 (.cons (.var 0) (.cons (.cint 400) .nil))) (.cons (.cint 0) .nil))))) (.cons (.asg (.nm 2) (.call 148 (.cons (.var 1) .nil))) (.cons (.asg (.nm 3) (.call 164 (.cons (.var 1) (.cons (.var 2) .nil)))) (.cons (.asg (.nm 4) (.fz (.lst (.cons (.fz (.dictOf (.sub (.var 3) (.cint 0)))) (.cons (.call 163 (.cons (.sub (.var 3) (.cint 1)) .nil)) (.cons (.call 163 (.cons (.sub (.var 3) (.cint 2)) .nil)) .nil)))))) (.cons (.asg (.nm 5) (.make 8 (.cons (.sub (.var 3) (.cint 0)) (.cons (.sub (.var 3) (.cint 1)) (.cons (.sub (.var 3) (.cint 2)) .nil))))) (.cons (.asg (.nm 6) (.fz (.lst (.cons (.new (.comp (.call 159 (.cons (.var 1) (.cons (.var 2) .nil))) (.nm 8) (.rng1 (.cint 4)) .no [8])) (.cons (.new (.comp (.call 161 (.cons (.var 1) (.cons (.var 2) .nil))) (.nm 8) (.rng1 (.cint 5)) .no [8])) .nil))))) (.cons (.appE (.sub (.var 6) (.cint 1)) (.call 162 (.cons (.var 1) (.cons (.var 2) (.cons (.cint 3) .nil))))) (.cons (.ite (.not (.tru (.call 165 (.cons (.var 5) (.cons (.var 6) (.cons (.var 4) .nil)))))) (.cons (.ret (.cbl false)) .nil) .nil) b_law_3))))))))
class U (P : Prg) : Prop where
  f__law_some : P.fns.lookup 156 = some ⟨1, 2, b_law_some⟩
  f__law_plain : P.fns.lookup 157 = some ⟨2, 3, b_law_plain⟩
  f__law_list : P.fns.lookup 158 = some ⟨2, 2, b_law_list⟩
  f__law_term : P.fns.lookup 159 = some ⟨2, 2, b_law_term⟩
  f__law_cmp : P.fns.lookup 160 = some ⟨2, 2, b_law_cmp⟩
  f__law_promise : P.fns.lookup 161 = some ⟨2, 5, b_law_promise⟩
  f__law_condition : P.fns.lookup 162 = some ⟨3, 6, b_law_condition⟩
  f__law_copied : P.fns.lookup 163 = some ⟨1, 3, b_law_copied⟩
  f__law_state : P.fns.lookup 164 = some ⟨2, 9, b_law_state⟩
  f__law_answers : P.fns.lookup 165 = some ⟨3, 9, b_law_answers⟩
  f_law : P.fns.lookup 166 = some ⟨1, 9, b_law⟩
end K09

set_option maxRecDepth 100000
set_option maxHeartbeats 400000
/-! Terms, promises, conditions: their values in a state. -/
namespace TvL
open PySem L2 VL
/-- numbers, lists, old lists by names -/
structure Stt where
  nu : List (Str × Int)
  li : List (Str × List Int)
  ol : List (Str × List Int)
def dN (l : List (Str × Int)) : List (Key × AV) := l.map fun p => (.inr p.1, .int p.2)
def dL (l : List (Str × List Int)) : List (Key × AV) := l.map fun p => (.inr p.1, .lst (p.2.map .int))
theorem getD_map {α : Type} (f : α → AV) (k : Str) : ∀ l : List (Str × α), VL.getD (l.map fun p => ((.inr p.1 : Key), f p.2)) (.inr k) = (l.lookup k).map f
  | [] => rfl
  | (a, x) :: l => by
    have ih := getD_map f k l
    unfold VL.getD at ih ⊢
    rw [List.map_cons, List.find?_cons, List.lookup_cons]
    by_cases c : a = k
    · subst c
      simp
    · have h1 : decide ((Sum.inr a : Key) = Sum.inr k) = false := decide_eq_false fun z => c (Sum.inr.inj z)
      have h2 : (k == a) = false := by simpa using fun z : k = a => c z.symm
      simp only [h1, h2]
      exact ih
theorem getD_N (l : List (Str × Int)) (k : Str) : VL.getD (dN l) (.inr k) = (l.lookup k).map .int := getD_map .int k l
theorem getD_L (l : List (Str × List Int)) (k : Str) : VL.getD (dL l) (.inr k) = (l.lookup k).map fun x => .lst (x.map .int) := getD_map (fun (x : List Int) => AV.lst (x.map .int)) k l
def Stt.num (st : Stt) (s : Str) : Int := (st.nu.lookup s).getD 0
def Stt.lis (st : Stt) (o : Bool) (s : Str) : List Int := ((if o then st.ol else st.li).lookup s).getD []
/-- the names are there -/
structure Stt.Ok (st : Stt) (nN lN : List Str) : Prop where
  n : ∀ s ∈ nN, ∃ i, st.nu.lookup s = some i
  l : ∀ (o : Bool), ∀ s ∈ lN, ∃ l : List Int, (if o then st.ol else st.li).lookup s = some l ∧ l.length ≤ 10
inductive Pl where
  | num (i : Int) | var (s : Str) (i : Int) | len (s : Str) (i : Int)
def Pl.av : Pl → AV
  | .num i => .tup [.str "num", .int i]
  | .var s i => .tup [.str "var", .str s, .int i]
  | .len s i => .tup [.str "len", .str s, .int i]
def Pl.Ok (nN lN : List Str) : Pl → Prop
  | .num _ => True
  | .var s _ => s ∈ nN
  | .len s _ => s ∈ lN
def Pl.v (st : Stt) : Pl → Int
  | .num i => i
  | .var s i => st.num s + i
  | .len s i => ((st.lis false s).length : Int) + i
inductive Tm where
  | pl (p : Pl) | cell (s : Str) (o : Bool) (p : Pl) (i : Int)
def ref (s : Str) (o : Bool) : AV := .tup [.str s, .bl o]
def Tm.av : TvL.Tm → AV
  | .pl p => p.av
  | .cell s o p i => .tup [.str "cell", ref s o, p.av, .int i]
def Tm.Ok (nN lN : List Str) : TvL.Tm → Prop
  | .pl p => p.Ok nN lN
  | .cell s _ p _ => s ∈ lN ∧ p.Ok nN lN
def at_ (l : List Int) (k : Int) : Int := (l[k.toNat]?).getD 0
def Tm.v (st : Stt) : TvL.Tm → Option Int
  | .pl p => some (p.v st)
  | .cell s o p i => if p.v st < 0 ∨ ((st.lis o s).length : Int) ≤ p.v st then none else some (at_ (st.lis o s) (p.v st) + i)
def sgs : List Str := ["<", "<=", ">", ">=", "==", "!="]
def sgS (k : Nat) : Str := (sgs[k]?).getD ""
def cmpB (k : Nat) (a b : Int) : Bool := match k with
  | 0 => decide (a < b)
  | 1 => decide (a ≤ b)
  | 2 => decide (b < a)
  | 3 => decide (b ≤ a)
  | 4 => decide (a = b)
  | _ => !decide (a = b)
structure Cm where
  sg : Nat
  l : TvL.Tm
  r : TvL.Tm
def Cm.av (c : TvL.Cm) : AV := .tup [.str "cmp", .str (sgS c.sg), c.l.av, c.r.av]
def Cm.Ok (nN lN : List Str) (c : TvL.Cm) : Prop := c.sg < 6 ∧ c.l.Ok nN lN ∧ c.r.Ok nN lN
def Cm.v (st : Stt) (c : TvL.Cm) : Bool := match c.l.v st, c.r.v st with
  | some a, some b => cmpB c.sg a b
  | _, _ => false
structure Rg where
  s : Str
  o : Bool
  lo : Pl
  hi : Pl
def Rg.Ok (nN lN : List Str) (r : Rg) : Prop := r.s ∈ lN ∧ r.lo.Ok nN lN ∧ r.hi.Ok nN lN
def Rg.a (st : Stt) (r : Rg) : Int := max 0 (r.lo.v st)
def Rg.e (st : Stt) (r : Rg) : Int := min ((st.lis r.o r.s).length : Int) (r.hi.v st)
def Rg.cs (st : Stt) (r : Rg) : List Int := st.lis r.o r.s
/-- the cells of a range -/
def Rg.part (st : Stt) (r : Rg) : List Int := (List.range (r.e st - r.a st).toNat).map fun (k : Nat) => at_ (r.cs st) (r.a st + (k : Int))
inductive Pr where
  | cmp (c : TvL.Cm) | either (c d : TvL.Cm) | all (r : Rg) (sg : Nat) (b : Pl) | mtch (r : Rg) (sg : Nat) (s : Str) (o : Bool) (k : Int) | sorted (r : Rg) | below (r q : Rg)
def Pr.av : Pr → AV
  | .cmp c => c.av
  | .either c d => .tup [.str "either", c.av, d.av]
  | .all r sg b => .tup [.str "all", ref r.s r.o, r.lo.av, r.hi.av, .str (sgS sg), b.av]
  | .mtch r sg s o k => .tup [.str "match", ref r.s r.o, r.lo.av, r.hi.av, .str (sgS sg), ref s o, .int k]
  | .sorted r => .tup [.str "sorted", ref r.s r.o, r.lo.av, r.hi.av]
  | .below r q => .tup [.str "below", ref r.s r.o, r.lo.av, r.hi.av, ref q.s q.o, q.lo.av, q.hi.av]
def Pr.Ok (nN lN : List Str) : Pr → Prop
  | .cmp c => c.Ok nN lN
  | .either c d => c.Ok nN lN ∧ d.Ok nN lN
  | .all r sg b => r.Ok nN lN ∧ sg < 6 ∧ b.Ok nN lN
  | .mtch r sg s _ _ => r.Ok nN lN ∧ sg < 6 ∧ s ∈ lN
  | .sorted r => r.Ok nN lN
  | .below r q => r.Ok nN lN ∧ q.Ok nN lN
def adj (l : List Int) : Bool := (l.zip (l.drop 1)).all fun p => decide (p.1 ≤ p.2)
def Pr.v (st : Stt) : Pr → Bool
  | .cmp c => c.v st
  | .either c d => c.v st || d.v st
  | .all r sg b => (r.part st).all fun x => cmpB sg x (b.v st)
  | .mtch r sg s o k => (List.range (min (r.e st) ((st.lis o s).length : Int) - r.a st).toNat).all fun (j : Nat) => cmpB sg (at_ (r.cs st) (r.a st + (j : Int))) (at_ (st.lis o s) (r.a st + (j : Int)) + k)
  | .sorted r => adj (r.part st)
  | .below r q => (r.part st).all fun x => (q.part st).all fun y => decide (x ≤ y)
/-- a condition: its form, and its truth in every state -/
inductive Cd (nN lN : List Str) : Nat → AV → (Stt → Bool) → Prop where
  | pr {k : Nat} (p : Pr) : p.Ok nN lN → Cd nN lN k p.av (fun st => p.v st)
  | not {k : Nat} {a : AV} {f : Stt → Bool} : Cd nN lN k a f → Cd nN lN (k + 1) (.tup [.str "not", a]) (fun st => !f st)
  | and {k : Nat} (xs : List (AV × (Stt → Bool))) : xs.length ≤ 10 → (∀ p ∈ xs, Cd nN lN k p.1 p.2) → Cd nN lN (k + 1) (.tup [.str "and", .tup (xs.map (·.1))]) (fun st => xs.all fun p => p.2 st)
  | or {k : Nat} (xs : List (AV × (Stt → Bool))) : xs.length ≤ 10 → (∀ p ∈ xs, Cd nN lN k p.1 p.2) → Cd nN lN (k + 1) (.tup [.str "or", .tup (xs.map (·.1))]) (fun st => xs.any fun p => p.2 st)
/-! ### the plain laws -/
theorem Rg.part_len (st : Stt) (r : Rg) : (r.part st).length = (r.e st - r.a st).toNat := by simp [Rg.part]
theorem Rg.part_at {st : Stt} {r : Rg} {k : Nat} (h : k < (r.e st - r.a st).toNat) : (r.part st)[k]? = some (at_ (r.cs st) (r.a st + (k : Int))) := by
  unfold Rg.part
  rw [List.getElem?_map, List.getElem?_range h]; rfl
theorem adj_iff (l : List Int) : adj l = true ↔ ∀ (i j : Nat) (x y : Int), i ≤ j → l[i]? = some x → l[j]? = some y → x ≤ y := by
  have key : adj l = true ↔ ∀ (i : Nat) (x y : Int), l[i]? = some x → l[i + 1]? = some y → x ≤ y := by
    unfold adj
    rw [List.all_eq_true]
    constructor
    · intro h i x y h1 h2
      have m : (x, y) ∈ l.zip (l.drop 1) := by
        refine List.mem_of_getElem? (i := i) ?_
        rw [List.getElem?_zip_eq_some]
        exact ⟨h1, by rw [List.getElem?_drop, Nat.add_comm]; exact h2⟩
      simpa using h _ m
    · intro h p m
      obtain ⟨i, hi⟩ := List.mem_iff_getElem?.mp m
      rw [List.getElem?_zip_eq_some] at hi
      obtain ⟨h1, h2⟩ := hi
      rw [List.getElem?_drop, Nat.add_comm] at h2
      exact decide_eq_true (h i _ _ h1 h2)
  rw [key]
  constructor
  · intro h i j x y hij
    induction j generalizing y with
    | zero =>
      intro h1 h2
      have : i = 0 := by omega
      subst this
      rw [h1] at h2
      cases h2
      exact Int.le_refl _
    | succ j ih =>
      intro h1 h2
      by_cases c : i = j + 1
      · subst c
        rw [h1] at h2
        cases h2
        exact Int.le_refl _
      · have hj : j < l.length := by have := (List.getElem?_eq_some_iff.mp h2).1; omega
        have := ih l[j] (by omega) h1 (List.getElem?_eq_getElem hj)
        have := h j _ _ (List.getElem?_eq_getElem hj) h2
        omega
  · intro h i x y h1 h2
    exact h i (i + 1) x y (by omega) h1 h2
end TvL

set_option maxRecDepth 100000
set_option maxHeartbeats 400000
/-! Small equations for tuples and kinds. -/
namespace TvL
open PySem L2 VL
section
variable {h : AHeap} {Q : KA} {a b c d e f g : AV} {xs : List AV}
theorem sT {xs : List AV} {k : Nat} {d : AV} (e : xs[k]? = some d) : subK h (.tup xs) (.int (k : Int)) Q = Q d := by
  have hk := (List.getElem?_eq_some_iff.mp e).1
  show (match atI xs (k : Int) with | some d => Q d | none => False) = Q d
  rw [atI_nat hk, e]
theorem sub0 : subK h (.tup (a :: xs)) (.int 0) Q = Q a := sT (k := 0) rfl
theorem sub1 : subK h (.tup (a :: b :: xs)) (.int 1) Q = Q b := sT (k := 1) rfl
theorem sub2 : subK h (.tup (a :: b :: c :: xs)) (.int 2) Q = Q c := sT (k := 2) rfl
theorem sub3 : subK h (.tup (a :: b :: c :: d :: xs)) (.int 3) Q = Q d := sT (k := 3) rfl
theorem sub4 : subK h (.tup (a :: b :: c :: d :: e :: xs)) (.int 4) Q = Q e := sT (k := 4) rfl
theorem sub5 : subK h (.tup (a :: b :: c :: d :: e :: f :: xs)) (.int 5) Q = Q f := sT (k := 5) rfl
theorem sub6 : subK h (.tup (a :: b :: c :: d :: e :: f :: g :: xs)) (.int 6) Q = Q g := sT (k := 6) rfl
theorem lT {xs : List AV} {k : Nat} {d : AV} (e : xs[k]? = some d) : subK h (.lst xs) (.int (k : Int)) Q = Q d := by
  have hk := (List.getElem?_eq_some_iff.mp e).1
  show (match atI xs (k : Int) with | some d => Q d | none => False) = Q d
  rw [atI_nat hk, e]
theorem lub0 : subK h (.lst (a :: xs)) (.int 0) Q = Q a := lT (k := 0) rfl
theorem lub1 : subK h (.lst (a :: b :: xs)) (.int 1) Q = Q b := lT (k := 1) rfl
theorem lub2 : subK h (.lst (a :: b :: c :: xs)) (.int 2) Q = Q c := lT (k := 2) rfl
theorem subN {l : List (Str × Int)} {s : Str} {i : Int} (e : l.lookup s = some i) : subK h (.dct (dN l)) (.str s) Q = Q (.int i) := by
  show (match VL.getD (dN l) (.inr s) with | some d => Q d | none => False) = _
  rw [getD_N, e]; rfl
theorem subL {l : List (Str × List Int)} {s : Str} {x : List Int} (e : l.lookup s = some x) : subK h (.dct (dL l)) (.str s) Q = Q (.lst (x.map .int)) := by
  show (match VL.getD (dL l) (.inr s) with | some d => Q d | none => False) = _
  rw [getD_L, e]; rfl
theorem subI {l : List Int} {k : Int} (h0 : 0 ≤ k) (h1 : k < (l.length : Int)) : subK h (.lst (l.map .int)) (.int k) Q = Q (.int (at_ l k)) := by
  obtain ⟨n, rfl⟩ := Int.eq_ofNat_of_zero_le h0
  have hn : n < l.length := by omega
  have e : (l.map AV.int)[n]? = some (.int (at_ l (n : Int))) := by
    unfold at_
    rw [List.getElem?_map, Int.toNat_natCast, List.getElem?_eq_getElem hn]; rfl
  exact lT e
end
theorem ne_num_var : decide (("num" : Str) = "var") = false := by decide +kernel
theorem ne_num_len : decide (("num" : Str) = "len") = false := by decide +kernel
theorem ne_num_cmp : decide (("num" : Str) = "cmp") = false := by decide +kernel
theorem ne_num_not : decide (("num" : Str) = "not") = false := by decide +kernel
theorem ne_num_and : decide (("num" : Str) = "and") = false := by decide +kernel
theorem ne_num_or : decide (("num" : Str) = "or") = false := by decide +kernel
theorem ne_num_either : decide (("num" : Str) = "either") = false := by decide +kernel
theorem ne_num_all : decide (("num" : Str) = "all") = false := by decide +kernel
theorem ne_num_match : decide (("num" : Str) = "match") = false := by decide +kernel
theorem ne_num_sorted : decide (("num" : Str) = "sorted") = false := by decide +kernel
theorem ne_num_below : decide (("num" : Str) = "below") = false := by decide +kernel
theorem ne_var_num : decide (("var" : Str) = "num") = false := by decide +kernel
theorem ne_var_len : decide (("var" : Str) = "len") = false := by decide +kernel
theorem ne_var_cmp : decide (("var" : Str) = "cmp") = false := by decide +kernel
theorem ne_var_not : decide (("var" : Str) = "not") = false := by decide +kernel
theorem ne_var_and : decide (("var" : Str) = "and") = false := by decide +kernel
theorem ne_var_or : decide (("var" : Str) = "or") = false := by decide +kernel
theorem ne_var_either : decide (("var" : Str) = "either") = false := by decide +kernel
theorem ne_var_all : decide (("var" : Str) = "all") = false := by decide +kernel
theorem ne_var_match : decide (("var" : Str) = "match") = false := by decide +kernel
theorem ne_var_sorted : decide (("var" : Str) = "sorted") = false := by decide +kernel
theorem ne_var_below : decide (("var" : Str) = "below") = false := by decide +kernel
theorem ne_len_num : decide (("len" : Str) = "num") = false := by decide +kernel
theorem ne_len_var : decide (("len" : Str) = "var") = false := by decide +kernel
theorem ne_len_cmp : decide (("len" : Str) = "cmp") = false := by decide +kernel
theorem ne_len_not : decide (("len" : Str) = "not") = false := by decide +kernel
theorem ne_len_and : decide (("len" : Str) = "and") = false := by decide +kernel
theorem ne_len_or : decide (("len" : Str) = "or") = false := by decide +kernel
theorem ne_len_either : decide (("len" : Str) = "either") = false := by decide +kernel
theorem ne_len_all : decide (("len" : Str) = "all") = false := by decide +kernel
theorem ne_len_match : decide (("len" : Str) = "match") = false := by decide +kernel
theorem ne_len_sorted : decide (("len" : Str) = "sorted") = false := by decide +kernel
theorem ne_len_below : decide (("len" : Str) = "below") = false := by decide +kernel
theorem ne_cell_num : decide (("cell" : Str) = "num") = false := by decide +kernel
theorem ne_cell_var : decide (("cell" : Str) = "var") = false := by decide +kernel
theorem ne_cell_len : decide (("cell" : Str) = "len") = false := by decide +kernel
theorem ne_cell_cmp : decide (("cell" : Str) = "cmp") = false := by decide +kernel
theorem ne_cell_not : decide (("cell" : Str) = "not") = false := by decide +kernel
theorem ne_cell_and : decide (("cell" : Str) = "and") = false := by decide +kernel
theorem ne_cell_or : decide (("cell" : Str) = "or") = false := by decide +kernel
theorem ne_cell_either : decide (("cell" : Str) = "either") = false := by decide +kernel
theorem ne_cell_all : decide (("cell" : Str) = "all") = false := by decide +kernel
theorem ne_cell_match : decide (("cell" : Str) = "match") = false := by decide +kernel
theorem ne_cell_sorted : decide (("cell" : Str) = "sorted") = false := by decide +kernel
theorem ne_cell_below : decide (("cell" : Str) = "below") = false := by decide +kernel
theorem ne_cmp_num : decide (("cmp" : Str) = "num") = false := by decide +kernel
theorem ne_cmp_var : decide (("cmp" : Str) = "var") = false := by decide +kernel
theorem ne_cmp_len : decide (("cmp" : Str) = "len") = false := by decide +kernel
theorem ne_cmp_not : decide (("cmp" : Str) = "not") = false := by decide +kernel
theorem ne_cmp_and : decide (("cmp" : Str) = "and") = false := by decide +kernel
theorem ne_cmp_or : decide (("cmp" : Str) = "or") = false := by decide +kernel
theorem ne_cmp_either : decide (("cmp" : Str) = "either") = false := by decide +kernel
theorem ne_cmp_all : decide (("cmp" : Str) = "all") = false := by decide +kernel
theorem ne_cmp_match : decide (("cmp" : Str) = "match") = false := by decide +kernel
theorem ne_cmp_sorted : decide (("cmp" : Str) = "sorted") = false := by decide +kernel
theorem ne_cmp_below : decide (("cmp" : Str) = "below") = false := by decide +kernel
theorem ne_not_num : decide (("not" : Str) = "num") = false := by decide +kernel
theorem ne_not_var : decide (("not" : Str) = "var") = false := by decide +kernel
theorem ne_not_len : decide (("not" : Str) = "len") = false := by decide +kernel
theorem ne_not_cmp : decide (("not" : Str) = "cmp") = false := by decide +kernel
theorem ne_not_and : decide (("not" : Str) = "and") = false := by decide +kernel
theorem ne_not_or : decide (("not" : Str) = "or") = false := by decide +kernel
theorem ne_not_either : decide (("not" : Str) = "either") = false := by decide +kernel
theorem ne_not_all : decide (("not" : Str) = "all") = false := by decide +kernel
theorem ne_not_match : decide (("not" : Str) = "match") = false := by decide +kernel
theorem ne_not_sorted : decide (("not" : Str) = "sorted") = false := by decide +kernel
theorem ne_not_below : decide (("not" : Str) = "below") = false := by decide +kernel
theorem ne_and_num : decide (("and" : Str) = "num") = false := by decide +kernel
theorem ne_and_var : decide (("and" : Str) = "var") = false := by decide +kernel
theorem ne_and_len : decide (("and" : Str) = "len") = false := by decide +kernel
theorem ne_and_cmp : decide (("and" : Str) = "cmp") = false := by decide +kernel
theorem ne_and_not : decide (("and" : Str) = "not") = false := by decide +kernel
theorem ne_and_or : decide (("and" : Str) = "or") = false := by decide +kernel
theorem ne_and_either : decide (("and" : Str) = "either") = false := by decide +kernel
theorem ne_and_all : decide (("and" : Str) = "all") = false := by decide +kernel
theorem ne_and_match : decide (("and" : Str) = "match") = false := by decide +kernel
theorem ne_and_sorted : decide (("and" : Str) = "sorted") = false := by decide +kernel
theorem ne_and_below : decide (("and" : Str) = "below") = false := by decide +kernel
theorem ne_or_num : decide (("or" : Str) = "num") = false := by decide +kernel
theorem ne_or_var : decide (("or" : Str) = "var") = false := by decide +kernel
theorem ne_or_len : decide (("or" : Str) = "len") = false := by decide +kernel
theorem ne_or_cmp : decide (("or" : Str) = "cmp") = false := by decide +kernel
theorem ne_or_not : decide (("or" : Str) = "not") = false := by decide +kernel
theorem ne_or_and : decide (("or" : Str) = "and") = false := by decide +kernel
theorem ne_or_either : decide (("or" : Str) = "either") = false := by decide +kernel
theorem ne_or_all : decide (("or" : Str) = "all") = false := by decide +kernel
theorem ne_or_match : decide (("or" : Str) = "match") = false := by decide +kernel
theorem ne_or_sorted : decide (("or" : Str) = "sorted") = false := by decide +kernel
theorem ne_or_below : decide (("or" : Str) = "below") = false := by decide +kernel
theorem ne_either_num : decide (("either" : Str) = "num") = false := by decide +kernel
theorem ne_either_var : decide (("either" : Str) = "var") = false := by decide +kernel
theorem ne_either_len : decide (("either" : Str) = "len") = false := by decide +kernel
theorem ne_either_cmp : decide (("either" : Str) = "cmp") = false := by decide +kernel
theorem ne_either_not : decide (("either" : Str) = "not") = false := by decide +kernel
theorem ne_either_and : decide (("either" : Str) = "and") = false := by decide +kernel
theorem ne_either_or : decide (("either" : Str) = "or") = false := by decide +kernel
theorem ne_either_all : decide (("either" : Str) = "all") = false := by decide +kernel
theorem ne_either_match : decide (("either" : Str) = "match") = false := by decide +kernel
theorem ne_either_sorted : decide (("either" : Str) = "sorted") = false := by decide +kernel
theorem ne_either_below : decide (("either" : Str) = "below") = false := by decide +kernel
theorem ne_all_num : decide (("all" : Str) = "num") = false := by decide +kernel
theorem ne_all_var : decide (("all" : Str) = "var") = false := by decide +kernel
theorem ne_all_len : decide (("all" : Str) = "len") = false := by decide +kernel
theorem ne_all_cmp : decide (("all" : Str) = "cmp") = false := by decide +kernel
theorem ne_all_not : decide (("all" : Str) = "not") = false := by decide +kernel
theorem ne_all_and : decide (("all" : Str) = "and") = false := by decide +kernel
theorem ne_all_or : decide (("all" : Str) = "or") = false := by decide +kernel
theorem ne_all_either : decide (("all" : Str) = "either") = false := by decide +kernel
theorem ne_all_match : decide (("all" : Str) = "match") = false := by decide +kernel
theorem ne_all_sorted : decide (("all" : Str) = "sorted") = false := by decide +kernel
theorem ne_all_below : decide (("all" : Str) = "below") = false := by decide +kernel
theorem ne_match_num : decide (("match" : Str) = "num") = false := by decide +kernel
theorem ne_match_var : decide (("match" : Str) = "var") = false := by decide +kernel
theorem ne_match_len : decide (("match" : Str) = "len") = false := by decide +kernel
theorem ne_match_cmp : decide (("match" : Str) = "cmp") = false := by decide +kernel
theorem ne_match_not : decide (("match" : Str) = "not") = false := by decide +kernel
theorem ne_match_and : decide (("match" : Str) = "and") = false := by decide +kernel
theorem ne_match_or : decide (("match" : Str) = "or") = false := by decide +kernel
theorem ne_match_either : decide (("match" : Str) = "either") = false := by decide +kernel
theorem ne_match_all : decide (("match" : Str) = "all") = false := by decide +kernel
theorem ne_match_sorted : decide (("match" : Str) = "sorted") = false := by decide +kernel
theorem ne_match_below : decide (("match" : Str) = "below") = false := by decide +kernel
theorem ne_sorted_num : decide (("sorted" : Str) = "num") = false := by decide +kernel
theorem ne_sorted_var : decide (("sorted" : Str) = "var") = false := by decide +kernel
theorem ne_sorted_len : decide (("sorted" : Str) = "len") = false := by decide +kernel
theorem ne_sorted_cmp : decide (("sorted" : Str) = "cmp") = false := by decide +kernel
theorem ne_sorted_not : decide (("sorted" : Str) = "not") = false := by decide +kernel
theorem ne_sorted_and : decide (("sorted" : Str) = "and") = false := by decide +kernel
theorem ne_sorted_or : decide (("sorted" : Str) = "or") = false := by decide +kernel
theorem ne_sorted_either : decide (("sorted" : Str) = "either") = false := by decide +kernel
theorem ne_sorted_all : decide (("sorted" : Str) = "all") = false := by decide +kernel
theorem ne_sorted_match : decide (("sorted" : Str) = "match") = false := by decide +kernel
theorem ne_sorted_below : decide (("sorted" : Str) = "below") = false := by decide +kernel
theorem ne_below_num : decide (("below" : Str) = "num") = false := by decide +kernel
theorem ne_below_var : decide (("below" : Str) = "var") = false := by decide +kernel
theorem ne_below_len : decide (("below" : Str) = "len") = false := by decide +kernel
theorem ne_below_cmp : decide (("below" : Str) = "cmp") = false := by decide +kernel
theorem ne_below_not : decide (("below" : Str) = "not") = false := by decide +kernel
theorem ne_below_and : decide (("below" : Str) = "and") = false := by decide +kernel
theorem ne_below_or : decide (("below" : Str) = "or") = false := by decide +kernel
theorem ne_below_either : decide (("below" : Str) = "either") = false := by decide +kernel
theorem ne_below_all : decide (("below" : Str) = "all") = false := by decide +kernel
theorem ne_below_match : decide (("below" : Str) = "match") = false := by decide +kernel
theorem ne_below_sorted : decide (("below" : Str) = "sorted") = false := by decide +kernel
theorem sne (a b : Nat) (ha : a < 6) (hb : b < 6) : decide (sgS a = sgS b) = decide (a = b) := by
  have : ∀ a : Fin 6, ∀ b : Fin 6, decide (sgS a.val = sgS b.val) = decide (a.val = b.val) := by decide +kernel
  exact this ⟨a, ha⟩ ⟨b, hb⟩
theorem slit : ("<" : Str) = sgS 0 ∧ ("<=" : Str) = sgS 1 ∧ (">" : Str) = sgS 2 ∧ (">=" : Str) = sgS 3 ∧ ("==" : Str) = sgS 4 ∧ ("!=" : Str) = sgS 5 := ⟨rfl, rfl, rfl, rfl, rfl, rfl⟩
end TvL

set_option maxRecDepth 100000
set_option maxHeartbeats 400000
/-! Dicts by names: stored, copied, compared. -/
namespace TvL
open PySem L2 VL
variable {α : Type}
def upd (l : List (Str × α)) (s : Str) (x : α) : List (Str × α) := if (l.any fun p => decide (p.1 = s)) = true then l.map (fun p => if p.1 = s then (p.1, x) else p) else l ++ [(s, x)]
def Nk (l : List (Str × α)) : Prop := (l.map (·.1)).Nodup
theorem put_map (f : α → AV) (l : List (Str × α)) (s : Str) (x : α) : putD (l.map fun p => ((.inr p.1 : Key), f p.2)) (.inr s) (f x) = (upd l s x).map fun p => ((.inr p.1 : Key), f p.2) := by
  have e : ((l.map fun p => ((.inr p.1 : Key), f p.2)).any fun kv => decide (kv.1 = .inr s)) = l.any fun p => decide (p.1 = s) := by
    rw [List.any_map]
    congr 1
    funext p
    show decide ((Sum.inr p.1 : Key) = Sum.inr s) = decide (p.1 = s)
    by_cases c : p.1 = s
    · rw [c]; simp
    · rw [decide_eq_false c, decide_eq_false fun z => c (Sum.inr.inj z)]
  unfold putD upd
  rw [e]
  split
  · rw [List.map_map, List.map_map]
    apply List.map_congr_left
    intro p _
    show (if (Sum.inr p.1 : Key) = Sum.inr s then ((Sum.inr p.1 : Key), f x) else (Sum.inr p.1, f p.2)) = (fun p : Str × α => ((.inr p.1 : Key), f p.2)) (if p.1 = s then (p.1, x) else p)
    by_cases c : p.1 = s
    · rw [if_pos c, if_pos (by rw [c])]
    · rw [if_neg c, if_neg fun z => c (Sum.inr.inj z)]
  · rw [List.map_append]; rfl
theorem put_N (l : List (Str × Int)) (s : Str) (x : Int) : putD (dN l) (.inr s) (.int x) = dN (upd l s x) := put_map .int l s x
theorem put_L (l : List (Str × List Int)) (s : Str) (x : List Int) : putD (dL l) (.inr s) (.lst (x.map .int)) = dL (upd l s x) := put_map (fun (x : List Int) => AV.lst (x.map .int)) l s x
theorem upd_len (l : List (Str × α)) (s : Str) (x : α) : (upd l s x).length ≤ l.length + 1 := by
  unfold upd
  split <;> simp
theorem upd_keys (l : List (Str × α)) (s : Str) (x : α) : (upd l s x).map (·.1) = if s ∈ l.map (·.1) then l.map (·.1) else l.map (·.1) ++ [s] := by
  have e : (l.any fun p => decide (p.1 = s)) = decide (s ∈ l.map (·.1)) := by
    rw [Bool.eq_iff_iff, List.any_eq_true, decide_eq_true_iff, List.mem_map]
    constructor
    · rintro ⟨p, m, c⟩; exact ⟨p, m, of_decide_eq_true c⟩
    · rintro ⟨p, m, c⟩; exact ⟨p, m, decide_eq_true c⟩
  unfold upd
  rw [e]
  by_cases c : s ∈ l.map (·.1)
  · rw [if_pos (decide_eq_true c), if_pos c, List.map_map]
    apply List.map_congr_left
    intro p _
    show (if p.1 = s then (p.1, x) else p).1 = p.1
    split <;> rfl
  · rw [if_neg (by simpa using c), if_neg c, List.map_append]; rfl
theorem upd_nk {l : List (Str × α)} (n : Nk l) (s : Str) (x : α) : Nk (upd l s x) := by
  unfold Nk at n ⊢
  rw [upd_keys]
  split
  · exact n
  · rename_i c
    rw [List.nodup_append]
    exact ⟨n, by simp, fun a ha b hb e => by rw [List.mem_singleton.mp hb] at e; exact c (e ▸ ha)⟩
theorem look_map (g : Str × α → α) (s : Str) : ∀ l : List (Str × α), (l.map fun p => (p.1, g p)).lookup s = ((l.find? fun p => decide (p.1 = s))).map g
  | [] => rfl
  | (a, y) :: l => by
    rw [List.map_cons, List.lookup_cons, List.find?_cons]
    by_cases c : a = s
    · subst c
      simp
    · have h1 : (s == a) = false := by simpa using fun z : s = a => c z.symm
      have h2 : decide (((a, y) : Str × α).1 = s) = false := decide_eq_false c
      simp only [h1, h2]
      exact look_map g s l
theorem upd_look (l : List (Str × α)) (s t : Str) (x : α) : (upd l s x).lookup t = if t = s then some x else l.lookup t := by
  induction l with
  | nil =>
    show List.lookup t [(s, x)] = _
    rw [List.lookup_cons]
    by_cases c : t = s
    · subst c; simp
    · have : (t == s) = false := by simpa using c
      simp only [this, if_neg c]
  | cons p l ih =>
    obtain ⟨a, y⟩ := p
    by_cases c : a = s
    · subst c
      have e : upd ((a, y) :: l) a x = (a, x) :: l.map (fun p => if p.1 = a then (p.1, x) else p) := by
        unfold upd
        rw [if_pos (by simp), List.map_cons, if_pos rfl]
      rw [e, List.lookup_cons]
      by_cases ct : t = a
      · subst ct; simp
      · have h1 : (t == a) = false := by simpa using ct
        simp only [h1, if_neg ct]
        rw [List.lookup_cons]
        simp only [h1]
        have : ∀ l : List (Str × α), (l.map (fun p => if p.1 = a then (p.1, x) else p)).lookup t = l.lookup t := by
          intro l
          induction l with
          | nil => rfl
          | cons p l ih =>
            obtain ⟨b, z⟩ := p
            rw [List.map_cons]
            by_cases cb : b = a
            · subst cb
              rw [if_pos rfl, List.lookup_cons, List.lookup_cons]
              simp only [h1]
              exact ih
            · rw [if_neg cb, List.lookup_cons, List.lookup_cons, ih]
        exact this l
    · have e : upd ((a, y) :: l) s x = (a, y) :: upd l s x := by
        have h2 : decide (((a, y) : Str × α).1 = s) = false := decide_eq_false c
        unfold upd
        rw [List.any_cons, h2, Bool.false_or]
        split
        · rw [List.map_cons, if_neg c]
        · rfl
      rw [e, List.lookup_cons, List.lookup_cons, ih]
      by_cases ct : t = a
      · subst ct
        simp [c]
      · have h1 : (t == a) = false := by simpa using ct
        simp only [h1]
theorem nk_look {l : List (Str × α)} (n : Nk l) {p : Str × α} (m : p ∈ l) : l.lookup p.1 = some p.2 := by
  induction l with
  | nil => cases m
  | cons q l ih =>
    obtain ⟨a, y⟩ := q
    unfold Nk at n
    rw [List.map_cons, List.nodup_cons] at n
    rw [List.lookup_cons]
    rcases List.mem_cons.mp m with rfl | m
    · simp
    · have : (p.1 == a) = false := by
        simp only [beq_eq_false_iff_ne]
        intro e
        exact n.1 (e ▸ List.mem_map.mpr ⟨p, m, rfl⟩)
      simp only [this]
      exact ih n.2 m
theorem upd_take {l : List (Str × α)} (n : Nk l) {i : Nat} (hi : i < l.length) : upd (l.take i) l[i].1 l[i].2 = l.take (i + 1) := by
  have c : ¬ ((l.take i).any fun p => decide (p.1 = l[i].1)) = true := by
    rw [List.any_eq_true]
    rintro ⟨p, m, e⟩
    have e := of_decide_eq_true e
    obtain ⟨j, hj, rfl⟩ := List.mem_iff_getElem.mp m
    rw [List.length_take] at hj
    rw [List.getElem_take] at e
    unfold Nk at n
    have := (List.getElem_inj (i := j) (j := i) (h₀ := by rw [List.length_map]; omega) (h₁ := by rw [List.length_map]; omega) n).mp (by rw [List.getElem_map, List.getElem_map]; exact e)
    omega
  unfold upd
  rw [if_neg c, List.take_succ, List.getElem?_eq_getElem hi]; rfl
theorem dEq_map (f : α → AV) (hf : ∀ x, eqv1 (f x) (f x)) {l : List (Str × α)} (n : Nk l) : dEq (l.map fun p => ((.inr p.1 : Key), f p.2)) (l.map fun p => ((.inr p.1 : Key), f p.2)) := by
  refine ⟨rfl, fun p m => ?_⟩
  obtain ⟨q, mq, rfl⟩ := List.mem_map.mp m
  exact ⟨f q.2, by rw [getD_map, nk_look n mq]; rfl, hf q.2⟩
theorem dEq_N {l : List (Str × Int)} (n : Nk l) : dEq (dN l) (dN l) := dEq_map .int (fun x => .inl ⟨x, rfl, rfl⟩) n
theorem dEq_L {l : List (Str × List Int)} (n : Nk l) : dEq (dL l) (dL l) := dEq_map (fun (x : List Int) => AV.lst (x.map .int)) (fun x => .inr ⟨x, rfl, rfl⟩) n
theorem nk_nil : Nk ([] : List (Str × α)) := List.nodup_nil
end TvL

set_option maxRecDepth 100000
set_option maxHeartbeats 400000
namespace Tr
open PySem L2 VL TvL
local macro_rules
  | `(tactic| push_cast [$xs,*]) => `(tactic| try simp only [$xs,*, WpSs, WpS, WpE, WpEs, WpBs, WpO, WpN, WpI, WpC, WpT, getS, setS, tgK, setsS, wipeS, k_add, k_addT, k_sub, k_mul, k_fdiv, k_mod, k_neg, k_lt, k_le, k_gt, k_ge, k_eqI, k_neI, k_eqS, k_neS, k_eqB, k_neB, k_is, k_isn, k_isB, k_isnB, k_gIn, ctx_gdct, isNon_non, isNon_int, isNon_str, isNon_lst, isNon_tup, isNon_adr, k_lenS, k_lenL, k_lenR, k_lenT, k_int, k_str, k_abs, tru_bl, augK, ctx_call, ctx_glob, k_in, k_nin, k_inS, k_addS, k_intB, isi_non_int, isi_non_bool, isi_non_str, isi_non_list, isi_non_tuple, isi_bl_int, isi_bl_bool, isi_bl_str, isi_bl_list, isi_bl_tuple, isi_int_int, isi_int_bool, isi_int_str, isi_int_list, isi_int_tuple, isi_str_int, isi_str_bool, isi_str_str, isi_str_list, isi_str_tuple, isi_tup_int, isi_tup_bool, isi_tup_str, isi_tup_list, isi_tup_tuple, isi_lst_int, isi_lst_bool, isi_lst_str, isi_lst_list, isi_lst_tuple, isi_ro_int, isi_ro_bool, isi_ro_str, isi_ro_list, isi_ro_tuple, sub0, sub1, sub2, sub3, sub4, sub5, sub6, lub0, lub1, lub2, ne_num_var, ne_num_len, ne_num_cmp, ne_num_not, ne_num_and, ne_num_or, ne_num_either, ne_num_all, ne_num_match, ne_num_sorted, ne_num_below, ne_var_num, ne_var_len, ne_var_cmp, ne_var_not, ne_var_and, ne_var_or, ne_var_either, ne_var_all, ne_var_match, ne_var_sorted, ne_var_below, ne_len_num, ne_len_var, ne_len_cmp, ne_len_not, ne_len_and, ne_len_or, ne_len_either, ne_len_all, ne_len_match, ne_len_sorted, ne_len_below, ne_cell_num, ne_cell_var, ne_cell_len, ne_cell_cmp, ne_cell_not, ne_cell_and, ne_cell_or, ne_cell_either, ne_cell_all, ne_cell_match, ne_cell_sorted, ne_cell_below, ne_cmp_num, ne_cmp_var, ne_cmp_len, ne_cmp_not, ne_cmp_and, ne_cmp_or, ne_cmp_either, ne_cmp_all, ne_cmp_match, ne_cmp_sorted, ne_cmp_below, ne_not_num, ne_not_var, ne_not_len, ne_not_cmp, ne_not_and, ne_not_or, ne_not_either, ne_not_all, ne_not_match, ne_not_sorted, ne_not_below, ne_and_num, ne_and_var, ne_and_len, ne_and_cmp, ne_and_not, ne_and_or, ne_and_either, ne_and_all, ne_and_match, ne_and_sorted, ne_and_below, ne_or_num, ne_or_var, ne_or_len, ne_or_cmp, ne_or_not, ne_or_and, ne_or_either, ne_or_all, ne_or_match, ne_or_sorted, ne_or_below, ne_either_num, ne_either_var, ne_either_len, ne_either_cmp, ne_either_not, ne_either_and, ne_either_or, ne_either_all, ne_either_match, ne_either_sorted, ne_either_below, ne_all_num, ne_all_var, ne_all_len, ne_all_cmp, ne_all_not, ne_all_and, ne_all_or, ne_all_either, ne_all_match, ne_all_sorted, ne_all_below, ne_match_num, ne_match_var, ne_match_len, ne_match_cmp, ne_match_not, ne_match_and, ne_match_or, ne_match_either, ne_match_all, ne_match_sorted, ne_match_below, ne_sorted_num, ne_sorted_var, ne_sorted_len, ne_sorted_cmp, ne_sorted_not, ne_sorted_and, ne_sorted_or, ne_sorted_either, ne_sorted_all, ne_sorted_match, ne_sorted_below, ne_below_num, ne_below_var, ne_below_len, ne_below_cmp, ne_below_not, ne_below_and, ne_below_or, ne_below_either, ne_below_all, ne_below_match, ne_below_sorted])
def stO (st : Stt) : Cell := .obj 8 [("numbers", .dct (dN st.nu)), ("lists", .dct (dL st.li)), ("old", .dct (dL st.ol))]
def oI : Option Int → AV
  | none => .non
  | some i => .int i
theorem lk1 (a b c : AV) : List.lookup ("numbers" : Str) [("numbers", a), ("lists", b), ("old", c)] = some a := rfl
theorem lk2 (a b c : AV) : List.lookup ("lists" : Str) [("numbers", a), ("lists", b), ("old", c)] = some b := rfl
theorem lk3 (a b c : AV) : List.lookup ("old" : Str) [("numbers", a), ("lists", b), ("old", c)] = some c := rfl
section
variable {P : Prg} [U P] {n a : Nat} {h : AHeap} {Q : AV → AHeap → Prop} {st : Stt} {nN lN : List Str}
theorem fN : (ctxOf P (callN P n)).fld 8 "numbers" = true := U.d_8_numbers
theorem fL : (ctxOf P (callN P n)).fld 8 "lists" = true := U.d_8_lists
theorem fO : (ctxOf P (callN P n)).fld 8 "old" = true := U.d_8_old
theorem cells_of_ok {s : Str} {o : Bool} (e : cells h a = stO st) (k : st.Ok nN lN) (hs : s ∈ lN) (q : Q (.lst ((st.lis o s).map .int)) h) : callN P (n+1) 139 [ref s o, .adr a] h Q := by
  refine call_of U.f_cells_of rfl ?_
  show WpSs (ctxOf P (callN P n)) b_cells_of _ [.val (ref s o), .val (.adr a)] h
  obtain ⟨l, e1, e2⟩ := k.l o s hs
  have eo : st.lis o s = l := by unfold Stt.lis; rw [e1]; rfl
  rw [eo] at q
  push_cast [b_cells_of, ref, e, stO, lk1, lk2, lk3, fN, fL, fO]
  cases o with
  | true =>
    have e1 : st.ol.lookup s = some l := e1
    push_cast [if_true]
    refine ⟨trivial, ?_⟩
    push_cast [subL e1]
    exact q
  | false =>
    have e1 : st.li.lookup s = some l := e1
    push_cast [Bool.false_eq_true, if_false]
    refine ⟨trivial, ?_⟩
    push_cast [subL e1]
    exact q
theorem value_pl {p : Pl} (e : cells h a = stO st) (k : st.Ok nN lN) (hp : p.Ok nN lN) (q : Q (.int (p.v st)) h) : callN P (n+1) 140 [p.av, .adr a] h Q := by
  refine call_of U.f_value_of rfl ?_
  show WpSs (ctxOf P (callN P n)) b_value_of _ [.val p.av, .val (.adr a), .no, .no] h
  cases p with
  | num i =>
    push_cast [b_value_of, Pl.av, decide_true, if_true]
    exact q
  | var s i =>
    obtain ⟨x, ex⟩ := k.n s hp
    have ev : Pl.v st (.var s i) = x + i := by show st.num s + i = _; unfold Stt.num; rw [ex]; rfl
    rw [ev] at q
    push_cast [b_value_of, b_value_of_4, Pl.av, decide_true, if_true, Bool.false_eq_true, if_false, e, stO, lk1, fN, subN ex]
    exact ⟨trivial, q⟩
  | len s i =>
    obtain ⟨l, e1, e2⟩ := k.l false s hp
    have e1 : st.li.lookup s = some l := e1
    have ev : Pl.v st (.len s i) = (l.length : Int) + i := by show ((st.lis false s).length : Int) + i = _; unfold Stt.lis; simp only [Bool.false_eq_true, if_false, e1]; rfl
    rw [ev] at q
    push_cast [b_value_of, b_value_of_4, b_value_of_3, Pl.av, decide_true, if_true, Bool.false_eq_true, if_false, e, stO, lk2, fL, subL e1, k_lenL, List.length_map]
    exact ⟨trivial, q⟩
theorem v_cell {s : Str} {o : Bool} {p : Pl} {i : Int} : TvL.Tm.v st (.cell s o p i) = if p.v st < 0 ∨ ((st.lis o s).length : Int) ≤ p.v st then none else some (at_ (st.lis o s) (p.v st) + i) := rfl
theorem value_of_ok {t : TvL.Tm} (e : cells h a = stO st) (k : st.Ok nN lN) (hp : t.Ok nN lN) (q : Q (oI (t.v st)) h) : callN P (n+2) 140 [t.av, .adr a] h Q := by
  cases t with
  | pl p => exact value_pl (n := n + 1) e k hp q
  | cell s o p i =>
    refine call_of U.f_value_of rfl ?_
    show WpSs (ctxOf P (callN P (n+1))) b_value_of _ [.val (TvL.Tm.av (.cell s o p i)), .val (.adr a), .no, .no] h
    push_cast [b_value_of, b_value_of_4, b_value_of_3, b_value_of_2, TvL.Tm.av, Bool.false_eq_true, if_false]
    refine cells_of_ok e k hp.1 ?_
    push_cast [WpSs]
    refine value_pl e k hp.2 ?_
    push_cast [WpSs]
    have fin : (t : Option Int) → t = TvL.Tm.v st (.cell s o p i) → Q (oI t) h := fun t e => by rw [e]; exact q
    refine ite_b (fun c => ?_) (fun c => ?_)
    · rw [if_pos trivial]
      exact fin none (by rw [v_cell, if_pos (.inl c)])
    · refine ite_b (fun c2 => ?_) (fun c2 => ?_)
      · rw [List.length_map] at c2
        exact fin none (by rw [v_cell, if_pos (.inr c2)])
      · rw [List.length_map] at c2
        push_cast [b_value_of_1]
        rw [subI (by omega) (by omega)]
        push_cast [WpSs]
        exact fin (some (at_ (st.lis o s) (p.v st) + i)) (by rw [v_cell, if_neg (by omega)])
theorem compared_ok {k : Nat} (hk : k < 6) {x y : Int} (q : Q (.bl (cmpB k x y)) h) : callN P (n+1) 141 [.int x, .str (sgS k), .int y] h Q := by
  refine call_of U.f_compared rfl ?_
  show WpSs (ctxOf P (callN P n)) b_compared _ [.val (.int x), .val (.str (sgS k)), .val (.int y)] h
  have d : ∀ j, j < 6 → decide (sgS k = sgS j) = decide (k = j) := fun j hj => sne k j hk hj
  push_cast [b_compared, slit, d 0 (by omega)]
  refine ite_b (fun c => ?_) (fun c => ?_)
  · subst c; exact q
  push_cast [b_compared_4, slit, d 1 (by omega)]
  refine ite_b (fun c => ?_) (fun c => ?_)
  · subst c; exact q
  push_cast [b_compared_3, slit, d 2 (by omega)]
  refine ite_b (fun c => ?_) (fun c => ?_)
  · subst c; exact q
  push_cast [b_compared_2, slit, d 3 (by omega)]
  refine ite_b (fun c => ?_) (fun c => ?_)
  · subst c; exact q
  push_cast [b_compared_1, slit, d 4 (by omega)]
  have : decide (decide (x = y) = decide (k = 4)) = cmpB k x y := by
    have : k = 4 ∨ k = 5 := by omega
    rcases this with rfl | rfl
    · by_cases e : x = y <;> simp [cmpB, e]
    · by_cases e : x = y <;> simp [cmpB, e]
  rw [this]
  exact q
theorem is_true_ok {c : TvL.Cm} (e : cells h a = stO st) (k : st.Ok nN lN) (hc : c.Ok nN lN) (q : Q (.bl (c.v st)) h) : callN P (n+3) 142 [c.av, .adr a] h Q := by
  refine call_of U.f_is_true rfl ?_
  show WpSs (ctxOf P (callN P (n+2))) b_is_true _ [.val c.av, .val (.adr a), .no, .no] h
  push_cast [b_is_true, TvL.Cm.av]
  refine value_of_ok e k hc.2.1 ?_
  push_cast [WpSs]
  refine value_of_ok e k hc.2.2 ?_
  unfold TvL.Cm.v at q
  cases e1 : c.l.v st with
  | none =>
    rw [e1] at q
    have i1 : isNon (oI none) = true := rfl
    push_cast [i1, Bool.not_true, Bool.false_eq_true, if_false]
    exact q
  | some x =>
    rw [e1] at q
    have i1 : ∀ x, isNon (oI (some x)) = false := fun _ => rfl
    have i0 : isNon (oI none) = true := rfl
    cases e2 : c.r.v st with
    | none =>
      rw [e2] at q
      push_cast [i1, i0, Bool.not_true, Bool.not_false, if_true, Bool.false_eq_true, if_false]
      exact q
    | some y =>
      rw [e2] at q
      push_cast [i1, Bool.not_true, Bool.not_false, if_true, Bool.false_eq_true, if_false]
      exact compared_ok hc.1 q
theorem places_ok {lo hi : Pl} {l : List Int} (e : cells h a = stO st) (k : st.Ok nN lN) (h1 : lo.Ok nN lN) (h2 : hi.Ok nN lN) (hl : l.length ≤ 10)
    (q : Q (.lst ((List.range (min (l.length : Int) (hi.v st) - max 0 (lo.v st)).toNat).map fun (j : Nat) => .int (max 0 (lo.v st) + (j : Int)))) h) : callN P (n+2) 143 [lo.av, hi.av, .lst (l.map .int), .adr a] h Q := by
  refine call_of U.f_places rfl ?_
  show WpSs (ctxOf P (callN P (n+1))) b_places _ [.val lo.av, .val hi.av, .val (.lst (l.map .int)), .val (.adr a)] h
  push_cast [b_places]
  refine value_pl e k h1 ?_
  have em : (if lo.v st > 0 then lo.v st else 0) = max 0 (lo.v st) := by split <;> omega
  push_cast [k_max2, em, k_lenL, List.length_map]
  refine value_pl e k h2 ?_
  have en : (if hi.v st < (l.length : Int) then hi.v st else (l.length : Int)) = min (l.length : Int) (hi.v st) := by split <;> omega
  push_cast [k_min2, en]
  exact ⟨by omega, q⟩
theorem part_of_ok {r : Rg} (e : cells h a = stO st) (k : st.Ok nN lN) (hr : r.Ok nN lN) (q : Q (.lst ((r.part st).map .int)) h) : callN P (n+3) 144 [ref r.s r.o, r.lo.av, r.hi.av, .adr a] h Q := by
  refine call_of U.f_part_of rfl ?_
  show WpSs (ctxOf P (callN P (n+2))) b_part_of _ [.val (ref r.s r.o), .val r.lo.av, .val r.hi.av, .val (.adr a), .no, .no] h
  have hl : (st.lis r.o r.s).length ≤ 10 := by
    obtain ⟨l, e1, e2⟩ := k.l r.o r.s hr.1
    unfold Stt.lis; rw [e1]; exact e2
  push_cast [b_part_of]
  refine cells_of_ok e k hr.1 ?_
  push_cast [WpSs]
  refine places_ok e k hr.2.1 hr.2.2 hl ?_
  push_cast [viewT_lst, if_true]
  have hz : sizeLine = 16777216 := sizeLine_eq
  refine ⟨by simp; omega, ?_⟩
  refine comp_map (fun (i : Nat) => .int (at_ (r.cs st) (r.a st + (i : Int)))) ?_ ?_
  · intro i x R hx z
    obtain ⟨hi, rfl⟩ := items_range hx
    push_cast [WpSs]
    rw [subI (by omega) (by omega)]
    push_cast [WpSs]
    exact z
  · have : (List.range ((List.range (min ((st.lis r.o r.s).length : Int) (r.hi.v st) - max 0 (r.lo.v st)).toNat).map fun (j : Nat) => AV.int (max 0 (r.lo.v st) + (j : Int))).length).map (fun (i : Nat) => AV.int (at_ (r.cs st) (r.a st + (i : Int)))) = (r.part st).map .int := by
      rw [List.length_map, List.length_range]
      unfold Rg.part
      rw [List.map_map]; rfl
    rw [this]
    exact q
theorem is_below_ok {l m : List Int} (h1 : l.length ≤ 10) (h2 : m.length ≤ 10) (q : Q (.bl (l.all fun x => m.all fun y => decide (x ≤ y))) h) : callN P (n+1) 145 [.lst (l.map .int), .lst (m.map .int)] h Q := by
  refine call_of U.f_is_below rfl ?_
  show WpSs (ctxOf P (callN P n)) b_is_below _ [.val (.lst (l.map .int)), .val (.lst (m.map .int))] h
  push_cast [b_is_below, k_lenL, List.length_map]
  by_cases c : l = []
  · subst c
    exact q
  have d1 : decide ((l.length : Int) = 0) = false := decide_eq_false fun z => c (List.length_eq_zero_iff.mp (by omega))
  by_cases c2 : m = []
  · subst c2
    have : (l.all fun x => ([] : List Int).all fun y => decide (x ≤ y)) = true := List.all_eq_true.mpr fun x _ => rfl
    rw [this] at q
    push_cast [d1, Bool.false_eq_true, if_false]
    exact q
  have d2 : decide ((m.length : Int) = 0) = false := decide_eq_false fun z => c2 (List.length_eq_zero_iff.mp (by omega))
  push_cast [d1, d2, Bool.false_eq_true, if_false, bltK, view_lst, Option.bind_some, asInts_map]
  refine ⟨List.length_pos_iff.mpr c, fun x hx hx2 => ?_⟩
  refine ⟨List.length_pos_iff.mpr c2, fun y hy hy2 => ?_⟩
  have : decide (x ≤ y) = (l.all fun x => m.all fun y => decide (x ≤ y)) := by
    by_cases c3 : x ≤ y
    · rw [decide_eq_true c3]
      symm
      refine List.all_eq_true.mpr fun u hu => List.all_eq_true.mpr fun v hv => decide_eq_true ?_
      have := hx2 u hu; have := hy2 v hv; omega
    · rw [decide_eq_false c3]
      symm
      refine Bool.eq_false_iff.mpr fun z => c3 ?_
      have := List.all_eq_true.mp (List.all_eq_true.mp z x hx) y hy
      simpa using this
  rw [this]
  exact q
theorem lis_le (k : st.Ok nN lN) {s : Str} {o : Bool} (hs : s ∈ lN) : (st.lis o s).length ≤ 10 := by
  obtain ⟨l, e1, e2⟩ := k.l o s hs
  unfold Stt.lis; rw [e1]; exact e2
theorem part_le (k : st.Ok nN lN) {r : Rg} (hr : r.Ok nN lN) : (r.part st).length ≤ 10 := by
  rw [Rg.part_len]
  have := lis_le (o := r.o) k hr.1
  have e1 : r.e st ≤ ((st.lis r.o r.s).length : Int) := by unfold Rg.e; omega
  have e2 : 0 ≤ r.a st := by unfold Rg.a; omega
  omega
theorem asB (l : List Bool) : asBools (l.map .bl) = some l := by
  induction l with
  | nil => rfl
  | cons x l ih =>
    show (asBools (l.map .bl)).map (x :: ·) = _
    rw [ih]; rfl
theorem over_ok {p : Pr} (e : cells h a = stO st) (k : st.Ok nN lN) (hp : p.Ok nN lN) (hc : ∀ c, p ≠ .cmp c) (he : ∀ c d, p ≠ .either c d) (q : Q (.bl (p.v st)) h) : callN P (n+4) 146 [p.av, .adr a] h Q := by
  refine call_of U.f_holds_over_cells rfl ?_
  show WpSs (ctxOf P (callN P (n+3))) b_holds_over_cells _ [.val p.av, .val (.adr a), .no, .no, .no, .no, .no, .no, .no, .no, .no, .no, .no] h
  have hz : sizeLine = 16777216 := sizeLine_eq
  cases p with
  | cmp c => exact absurd rfl (hc c)
  | either c d => exact absurd rfl (he c d)
  | below r q2 =>
    push_cast [b_holds_over_cells, Pr.av, decide_true, if_true]
    refine part_of_ok e k hp.1 ?_
    push_cast [WpSs]
    refine part_of_ok e k hp.2 ?_
    exact is_below_ok (n := n + 2) (part_le k hp.1) (part_le k hp.2) q
  | sorted r =>
    have pl := part_le k hp
    have cd : cut ((r.part st).map AV.int) (some 1) none = ((r.part st).drop 1).map .int := (cut_sn _ 1).trans (by rw [List.map_drop])
    push_cast [b_holds_over_cells, b_holds_over_cells_3, Pr.av, decide_true, if_true, Bool.false_eq_true, if_false]
    refine part_of_ok e k hp ?_
    push_cast [decide_true, if_true, view_lst, cd]
    refine ⟨by simp; omega, ?_⟩
    refine comp_map (fun (i : Nat) => .bl (match ((r.part st).zip ((r.part st).drop 1))[i]? with
      | some p => decide (p.1 ≤ p.2)
      | none => true)) ?_ ?_
    · intro i x R hx z
      rw [List.getElem?_map] at hx
      obtain ⟨p, hp1, rfl⟩ := Option.map_eq_some_iff.mp hx
      rw [List.getElem?_zip_eq_some, List.getElem?_map, List.getElem?_map] at hp1
      obtain ⟨h1, h2⟩ := hp1
      obtain ⟨x1, g1, e1⟩ := Option.map_eq_some_iff.mp h1
      obtain ⟨x2, g2, e2⟩ := Option.map_eq_some_iff.mp h2
      have hz2 : ((r.part st).zip ((r.part st).drop 1))[i]? = some (x1, x2) := by rw [List.getElem?_zip_eq_some]; exact ⟨g1, g2⟩
      rw [hz2] at z
      rw [← e1, ← e2]
      push_cast [WpSs]
      exact z
    · have eq : (List.range (((((r.part st).map AV.int).zip (((r.part st).drop 1).map AV.int))).map fun p => AV.tup [p.1, p.2]).length).map (fun (i : Nat) => AV.bl (match ((r.part st).zip ((r.part st).drop 1))[i]? with
          | some p => decide (p.1 ≤ p.2)
          | none => true)) = (((r.part st).zip ((r.part st).drop 1)).map fun p => decide (p.1 ≤ p.2)).map AV.bl := by
        apply List.ext_getElem
        · simp
        · intro i h1 h2
          simp only [List.length_map, List.length_range, List.length_zip] at h1
          have h3 : i < ((r.part st).zip ((r.part st).drop 1)).length := by rw [List.length_zip]; exact h1
          simp only [List.getElem_map, List.getElem_range, List.getElem?_eq_getElem h3]
      rw [eq]
      push_cast [bltK, view_lst, Option.bind_some, asB]
      have : ((((r.part st).zip ((r.part st).drop 1)).map fun p => decide (p.1 ≤ p.2)).all id) = adj (r.part st) := by unfold adj; rw [List.all_map]; rfl
      rw [this]
      exact q
  | all r sg b =>
    have pl := part_le k hp.1
    push_cast [b_holds_over_cells, b_holds_over_cells_3, b_holds_over_cells_2, Pr.av, decide_true, if_true, Bool.false_eq_true, if_false]
    refine part_of_ok e k hp.1 ?_
    push_cast [decide_true, if_true, Bool.false_eq_true, if_false]
    refine value_pl (n := n + 2) e k hp.2.2 ?_
    push_cast [viewT_lst, if_true]
    refine ⟨by simp; omega, ?_⟩
    refine comp_map (fun (i : Nat) => .bl (cmpB sg (((r.part st)[i]?).getD 0) (b.v st))) ?_ ?_
    · intro i x R hx z
      obtain ⟨y, hy, rfl⟩ := items_map hx
      rw [hy] at z
      push_cast [WpSs]
      exact compared_ok (n := n + 2) hp.2.1 z
    · have eq : (List.range ((r.part st).map AV.int).length).map (fun (i : Nat) => AV.bl (cmpB sg (((r.part st)[i]?).getD 0) (b.v st))) = ((r.part st).map fun x => cmpB sg x (b.v st)).map AV.bl := by
        apply List.ext_getElem
        · simp
        · intro i h1 h2
          simp only [List.length_map, List.length_range] at h1
          simp only [List.getElem_map, List.getElem_range, List.getElem?_eq_getElem h1, Option.getD_some]
      rw [eq]
      push_cast [bltK, view_lst, Option.bind_some, asB]
      have : (((r.part st).map fun x => cmpB sg x (b.v st)).all id) = (r.part st).all fun x => cmpB sg x (b.v st) := by rw [List.all_map]; rfl
      rw [this]
      exact q
  | mtch r sg s o k0 =>
    have pl := part_le k hp.1
    have l1 := lis_le (o := r.o) k hp.1.1
    have l2 := lis_le (o := o) k hp.2.2
    push_cast [b_holds_over_cells, b_holds_over_cells_3, b_holds_over_cells_2, b_holds_over_cells_1, Pr.av, decide_true, if_true, Bool.false_eq_true, if_false]
    refine part_of_ok e k hp.1 ?_
    push_cast [Bool.false_eq_true, if_false]
    refine cells_of_ok (n := n + 2) e k hp.1.1 ?_
    push_cast [WpSs]
    refine cells_of_ok (n := n + 2) e k hp.2.2 ?_
    push_cast [WpSs]
    refine places_ok (n := n + 1) e k hp.1.2.1 hp.1.2.2 l1 ?_
    have ea : max 0 (r.lo.v st) = r.a st := rfl
    have ee : min ((st.lis r.o r.s).length : Int) (r.hi.v st) = r.e st := rfl
    have a0 : 0 ≤ r.a st := by unfold Rg.a; omega
    have e0 : r.e st ≤ ((st.lis r.o r.s).length : Int) := by unfold Rg.e; omega
    rw [ea, ee]
    push_cast [viewT_lst]
    refine ⟨by simp; omega, ?_⟩
    obtain ⟨m, hm⟩ : ∃ m : Nat, m = (min (r.e st) ((st.lis o s).length : Int) - r.a st).toNat := ⟨_, rfl⟩
    refine comp_inv (fun i acc h' => h' = h ∧ acc = (List.range (min i m)).map fun (j : Nat) => .int (r.a st + (j : Int))) ⟨rfl, by simp⟩ (fun _ _ _ _ _ => by trivial) ?_ ?_
    · rintro i x acc _ R hx ⟨rfl, rfl⟩ k1 k2
      obtain ⟨hi, rfl⟩ := items_range hx
      push_cast [k_lenL, List.length_map]
      refine ite_b (fun c => ?_) (fun c => ?_)
      · refine k1 _ _ ⟨rfl, ?_⟩
        have e1 : min i m = i := by omega
        have e2 : min (i + 1) m = i + 1 := by omega
        rw [e1, e2, List.range_succ, List.map_append]; rfl
      · refine k2 _ ⟨rfl, ?_⟩
        have e1 : min (i + 1) m = min i m := by omega
        rw [e1]
    · rintro _ h ⟨rfl, rfl⟩
      have em : min ((List.range (r.e st - r.a st).toNat).map fun (j : Nat) => AV.int (r.a st + (j : Int))).length m = m := by
        rw [List.length_map, List.length_range]; omega
      rw [em]
      push_cast [viewT_lst, if_true]
      refine ⟨by simp; omega, ?_⟩
      refine comp_map (fun (j : Nat) => .bl (cmpB sg (at_ (r.cs st) (r.a st + (j : Int))) (at_ (st.lis o s) (r.a st + (j : Int)) + k0))) ?_ ?_
      · intro i x R hx z
        obtain ⟨hi, rfl⟩ := items_range hx
        push_cast [WpSs]
        rw [subI (by omega) (by omega)]
        push_cast [WpSs]
        rw [subI (by omega) (by omega)]
        push_cast [WpSs]
        exact compared_ok (n := n + 2) hp.2.1 z
      · have eq : (List.range ((List.range m).map fun (j : Nat) => AV.int (r.a st + (j : Int))).length).map (fun (j : Nat) => AV.bl (cmpB sg (at_ (r.cs st) (r.a st + (j : Int))) (at_ (st.lis o s) (r.a st + (j : Int)) + k0))) = ((List.range m).map fun (j : Nat) => cmpB sg (at_ (r.cs st) (r.a st + (j : Int))) (at_ (st.lis o s) (r.a st + (j : Int)) + k0)).map AV.bl := by
          rw [List.length_map, List.length_range, List.map_map]; rfl
        rw [eq]
        push_cast [bltK, view_lst, Option.bind_some, asB]
        have : (((List.range m).map fun (j : Nat) => cmpB sg (at_ (r.cs st) (r.a st + (j : Int))) (at_ (st.lis o s) (r.a st + (j : Int)) + k0)).all id) = Pr.v st (.mtch r sg s o k0) := by
          rw [List.all_map, hm]; rfl
        rw [this]
        exact q
theorem truth_pr {p : Pr} (e : cells h a = stO st) (k : st.Ok nN lN) (hp : p.Ok nN lN) (q : Q (.bl (p.v st)) h) : callN P (n+5) 147 [p.av, .adr a] h Q := by
  refine call_of U.f_truth_of rfl ?_
  show WpSs (ctxOf P (callN P (n+4))) b_truth_of _ [.val p.av, .val (.adr a), .no, .no] h
  have ov : (∀ c, p ≠ .cmp c) → (∀ c d, p ≠ .either c d) → callN P (n+4) 146 [p.av, .adr a] h Q := fun h1 h2 => over_ok e k hp h1 h2 q
  cases p with
  | cmp c =>
    push_cast [b_truth_of, Pr.av, TvL.Cm.av, decide_true, if_true]
    exact is_true_ok (n := n + 1) e k hp q
  | either c d =>
    push_cast [b_truth_of, b_truth_of_5, b_truth_of_4, b_truth_of_3, b_truth_of_2, Pr.av, decide_true, if_true, Bool.false_eq_true, if_false]
    refine is_true_ok (n := n + 1) e k hp.1 ?_
    have q : Q (.bl (c.v st || d.v st)) h := q
    cases hc : c.v st with
    | true =>
      rw [hc] at q
      exact q
    | false =>
      rw [hc] at q
      refine is_true_ok (n := n + 1) e k hp.2 ?_
      exact q
  | all r sg b =>
    have ov := ov (fun _ => by simp) (fun _ _ => by simp)
    push_cast [b_truth_of, b_truth_of_5, b_truth_of_4, b_truth_of_3, b_truth_of_2, b_truth_of_1, Pr.av, Bool.false_eq_true, if_false] at ov ⊢
    exact ov
  | mtch r sg s o k0 =>
    have ov := ov (fun _ => by simp) (fun _ _ => by simp)
    push_cast [b_truth_of, b_truth_of_5, b_truth_of_4, b_truth_of_3, b_truth_of_2, b_truth_of_1, Pr.av, Bool.false_eq_true, if_false] at ov ⊢
    exact ov
  | sorted r =>
    have ov := ov (fun _ => by simp) (fun _ _ => by simp)
    push_cast [b_truth_of, b_truth_of_5, b_truth_of_4, b_truth_of_3, b_truth_of_2, b_truth_of_1, Pr.av, Bool.false_eq_true, if_false] at ov ⊢
    exact ov
  | below r q2 =>
    have ov := ov (fun _ => by simp) (fun _ _ => by simp)
    push_cast [b_truth_of, b_truth_of_5, b_truth_of_4, b_truth_of_3, b_truth_of_2, b_truth_of_1, Pr.av, Bool.false_eq_true, if_false] at ov ⊢
    exact ov
theorem parts_eq (st : Stt) (xs : List (AV × (Stt → Bool))) : (List.range (xs.map (·.1)).length).map (fun (i : Nat) => AV.bl (match xs[i]? with
    | some p => p.2 st
    | none => true)) = (xs.map fun p => p.2 st).map AV.bl := by
  apply List.ext_getElem
  · simp
  · intro i h1 h2
    simp only [List.length_map, List.length_range] at h1
    simp only [List.getElem_map, List.getElem_range, List.getElem?_eq_getElem h1]
theorem tnot {c : AV} {b : Bool} {m : Nat} (w : ∀ Q : AV → AHeap → Prop, Q (.bl b) h → callN P m 147 [c, .adr a] h Q) (q : Q (.bl (!b)) h) : callN P (m + 1) 147 [.tup [.str "not", c], .adr a] h Q := by
  refine call_of U.f_truth_of rfl ?_
  show WpSs (ctxOf P (callN P m)) b_truth_of _ [.val (.tup [.str "not", c]), .val (.adr a), .no, .no] h
  push_cast [b_truth_of, b_truth_of_5, decide_true, if_true, Bool.false_eq_true, if_false]
  exact w _ q
theorem tand {xs : List (AV × (Stt → Bool))} {m : Nat} (hl : xs.length ≤ 10) (w : ∀ p ∈ xs, ∀ Q : AV → AHeap → Prop, Q (.bl (p.2 st)) h → callN P m 147 [p.1, .adr a] h Q) (q : Q (.bl (xs.all fun p => p.2 st)) h) : callN P (m + 1) 147 [.tup [.str "and", .tup (xs.map (·.1))], .adr a] h Q := by
  obtain ⟨c, hc⟩ : ∃ c : AV, c = .tup [.str "and", .tup (xs.map (·.1))] := ⟨_, rfl⟩
  rw [← hc]
  refine call_of U.f_truth_of rfl ?_
  show WpSs (ctxOf P (callN P m)) b_truth_of _ [.val c, .val (.adr a), .no, .no] h
  subst hc
  have hz : sizeLine = 16777216 := sizeLine_eq
  push_cast [b_truth_of, b_truth_of_5, b_truth_of_4, decide_true, if_true, Bool.false_eq_true, if_false, viewT_tup]
  refine ⟨by rw [List.length_map]; omega, ?_⟩
  refine comp_map (fun (i : Nat) => .bl (match xs[i]? with
    | some p => p.2 st
    | none => true)) ?_ ?_
  · intro i x R hx z
    obtain ⟨p, hp, rfl⟩ := items_map hx
    rw [hp] at z
    push_cast [WpSs]
    exact w p (List.mem_of_getElem? hp) _ z
  · rw [parts_eq]
    push_cast [bltK, view_lst, Option.bind_some, asB]
    have : ((xs.map fun p => p.2 st).all id) = xs.all fun p => p.2 st := by rw [List.all_map]; rfl
    rw [this]
    exact q
theorem tor {xs : List (AV × (Stt → Bool))} {m : Nat} (hl : xs.length ≤ 10) (w : ∀ p ∈ xs, ∀ Q : AV → AHeap → Prop, Q (.bl (p.2 st)) h → callN P m 147 [p.1, .adr a] h Q) (q : Q (.bl (xs.any fun p => p.2 st)) h) : callN P (m + 1) 147 [.tup [.str "or", .tup (xs.map (·.1))], .adr a] h Q := by
  obtain ⟨c, hc⟩ : ∃ c : AV, c = .tup [.str "or", .tup (xs.map (·.1))] := ⟨_, rfl⟩
  rw [← hc]
  refine call_of U.f_truth_of rfl ?_
  show WpSs (ctxOf P (callN P m)) b_truth_of _ [.val c, .val (.adr a), .no, .no] h
  subst hc
  have hz : sizeLine = 16777216 := sizeLine_eq
  push_cast [b_truth_of, b_truth_of_5, b_truth_of_4, b_truth_of_3, decide_true, if_true, Bool.false_eq_true, if_false, viewT_tup]
  refine ⟨by rw [List.length_map]; omega, ?_⟩
  refine comp_map (fun (i : Nat) => .bl (match xs[i]? with
    | some p => p.2 st
    | none => true)) ?_ ?_
  · intro i x R hx z
    obtain ⟨p, hp, rfl⟩ := items_map hx
    rw [hp] at z
    push_cast [WpSs]
    exact w p (List.mem_of_getElem? hp) _ z
  · rw [parts_eq]
    push_cast [bltK, view_lst, Option.bind_some, asB]
    have : ((xs.map fun p => p.2 st).any id) = xs.any fun p => p.2 st := by rw [List.any_map]; rfl
    rw [this]
    exact q
theorem truth_ok {d : Nat} {c : AV} {f : Stt → Bool} (w : Cd nN lN d c f) : ∀ {m a : Nat} {h : AHeap} {Q : AV → AHeap → Prop} {st : Stt}, d + 5 ≤ m → cells h a = stO st → st.Ok nN lN → Q (.bl (f st)) h → callN P m 147 [c, .adr a] h Q := by
  induction w with
  | pr p hp =>
    intro m a h Q st hm e k q
    obtain ⟨n, rfl⟩ : ∃ n, m = n + 5 := ⟨m - 5, by omega⟩
    exact truth_pr e k hp q
  | @not d c f w ih =>
    intro m a h Q st hm e k q
    obtain ⟨n, rfl⟩ : ∃ n, m = n + 1 := ⟨m - 1, by omega⟩
    exact tnot (fun Q z => ih (by omega) e k z) q
  | @and d xs hl w ih =>
    intro m a h Q st hm e k q
    obtain ⟨n, rfl⟩ : ∃ n, m = n + 1 := ⟨m - 1, by omega⟩
    exact tand hl (fun p hp Q z => ih p hp (by omega) e k z) q
  | @or d xs hl w ih =>
    intro m a h Q st hm e k q
    obtain ⟨n, rfl⟩ : ∃ n, m = n + 1 := ⟨m - 1, by omega⟩
    exact tor hl (fun p hp Q z => ih p hp (by omega) e k z) q
end
end Tr

set_option maxRecDepth 100000
set_option maxHeartbeats 400000
namespace Nm
open PySem L2 VL Hd
local macro_rules
  | `(tactic| push_cast [$xs,*]) => `(tactic| try simp only [$xs,*, WpSs, WpS, WpE, WpEs, WpBs, WpO, WpN, WpI, WpC, WpT, getS, setS, tgK, setsS, wipeS, k_add, k_addT, k_sub, k_mul, k_fdiv, k_mod, k_neg, k_lt, k_le, k_gt, k_ge, k_eqI, k_neI, k_eqS, k_neS, k_eqB, k_neB, k_is, k_isn, k_isB, k_isnB, k_gIn, ctx_gdct, isNon_non, isNon_int, isNon_str, isNon_lst, isNon_tup, isNon_adr, k_lenS, k_lenL, k_lenR, k_lenT, k_int, k_str, k_abs, tru_bl, augK, ctx_call, ctx_glob, k_in, k_nin, k_inS, k_addS, k_intB, isi_non_int, isi_non_bool, isi_non_str, isi_non_list, isi_non_tuple, isi_bl_int, isi_bl_bool, isi_bl_str, isi_bl_list, isi_bl_tuple, isi_int_int, isi_int_bool, isi_int_str, isi_int_list, isi_int_tuple, isi_str_int, isi_str_bool, isi_str_str, isi_str_list, isi_str_tuple, isi_tup_int, isi_tup_bool, isi_tup_str, isi_tup_list, isi_tup_tuple, isi_lst_int, isi_lst_bool, isi_lst_str, isi_lst_list, isi_lst_tuple, isi_ro_int, isi_ro_bool, isi_ro_str, isi_ro_list, isi_ro_tuple])
section
variable {P : Prg} [Hd.U P] [U P] {n a : Nat} {h : AHeap} {Q : AV → AHeap → Prop}
theorem k_pick {xs : List AV} {i : Nat} {Q : KA} (hi : i < xs.length) (q : ∀ d ∈ xs, Q d) : subK h (.lst xs) (.int (i : Int)) Q :=
  k_subL viewT_lst (fun _ z => by cases z) (d := xs[i]) (by rw [atI_nat hi, List.getElem?_eq_getElem hi]) (q _ (List.getElem_mem hi))
theorem names_ok (hd : Hnd a h) (q : ∀ ns : List Str, ns.length = 16 → ∀ h', Hx a h h' → Q (.lst (ns.map .str)) h') : callN P (n+2) 148 [.adr a] h Q := by
  refine call_of U.f__law_names rfl ?_
  show WpSs (ctxOf P (callN P (n+1))) b_law_names _ [.val (.adr a), .no, .no, .no] h
  have hz : sizeLine = 16777216 := sizeLine_eq
  push_cast [b_law_names]
  refine ⟨Nat.zero_le _, ?_⟩
  refine for_inv (fun i ρ h' => Hx a h h' ∧ ∃ (ns : List Str) (s2 s3 : Slot), ns.length = i ∧ ρ = [.val (.adr a), .own (.lst (ns.map .str)), s2, s3]) ⟨Hx.refl hd, [], _, _, rfl, rfl⟩ (fun _ _ _ _ _ => by trivial) ?_ ?_
  · rintro i x _ h1 D' hx ⟨x1, ns, s2, s3, hl, rfl⟩ k1 k2 k3 k4
    obtain ⟨c, hc, rfl⟩ := items_map hx
    have hi : i < 16 := by
      have := (List.getElem?_eq_some_iff.mp hc).1
      have e : ("abcdegkmpqvxyhjw" : Str).cps.toList.length = 16 := by decide +kernel
      omega
    have lc : Str.length ⟨#[c]⟩ = 1 := rfl
    push_cast [b_law_names_1]
    refine ⟨(show 5 ≤ sizeLine by decide), ?_⟩
    refine take_ok x1.hand (by decide) fun r h2 x2 hr => ?_
    refine k_pick (by show r < 5; omega) fun d hd => ?_
    have : ∃ s : Str, d = .str s ∧ s.length ≤ 8 := by
      simp only [List.mem_cons, List.not_mem_nil, or_false] at hd
      rcases hd with rfl | rfl | rfl | rfl | rfl <;> exact ⟨_, rfl, by decide +kernel⟩
    obtain ⟨s, rfl, hs⟩ := this
    push_cast [WpSs]
    refine ⟨by omega, by omega, (show 3 ≤ sizeLine by decide), ?_⟩
    refine take_ok x2.hand (by decide) fun r2 h3 x3 hr2 => ?_
    refine k_pick (by show r2 < 3; omega) fun d hd => ?_
    have : ∃ s : Str, d = .str s := by
      simp only [List.mem_cons, List.not_mem_nil, or_false] at hd
      rcases hd with rfl | rfl | rfl <;> exact ⟨_, rfl⟩
    obtain ⟨t, rfl⟩ := this
    refine ⟨by simp; omega, ?_⟩
    have em : ns.map AV.str ++ [AV.str t] = (ns ++ [t]).map AV.str := by rw [List.map_append]; rfl
    rw [em]
    exact k1 _ _ ⟨(x1.trans x2).trans x3, ns ++ [t], _, _, by simp [hl], rfl⟩
  · rintro _ h1 ⟨x1, ns, s2, s3, hl, rfl⟩
    have e : ("abcdegkmpqvxyhjw" : Str).cps.toList.length = 16 := by decide +kernel
    rw [List.length_map, e] at hl
    push_cast [b_law_names_2]
    exact q ns hl h1 x1
end
end Nm

set_option maxRecDepth 100000
set_option maxHeartbeats 400000
namespace Ev
open PySem L2 VL TvL
local macro_rules
  | `(tactic| push_cast [$xs,*]) => `(tactic| try simp only [$xs,*, WpSs, WpS, WpE, WpEs, WpBs, WpO, WpN, WpI, WpC, WpT, getS, setS, tgK, setsS, wipeS, k_add, k_addT, k_sub, k_mul, k_fdiv, k_mod, k_neg, k_lt, k_le, k_gt, k_ge, k_eqI, k_neI, k_eqS, k_neS, k_eqB, k_neB, k_is, k_isn, k_isB, k_isnB, k_gIn, ctx_gdct, isNon_non, isNon_int, isNon_str, isNon_lst, isNon_tup, isNon_adr, k_lenS, k_lenL, k_lenR, k_lenT, k_int, k_str, k_abs, tru_bl, augK, ctx_call, ctx_glob, k_in, k_nin, k_inS, k_addS, k_intB, isi_non_int, isi_non_bool, isi_non_str, isi_non_list, isi_non_tuple, isi_bl_int, isi_bl_bool, isi_bl_str, isi_bl_list, isi_bl_tuple, isi_int_int, isi_int_bool, isi_int_str, isi_int_list, isi_int_tuple, isi_str_int, isi_str_bool, isi_str_str, isi_str_list, isi_str_tuple, isi_tup_int, isi_tup_bool, isi_tup_str, isi_tup_list, isi_tup_tuple, isi_lst_int, isi_lst_bool, isi_lst_str, isi_lst_list, isi_lst_tuple, isi_ro_int, isi_ro_bool, isi_ro_str, isi_ro_list, isi_ro_tuple, sub0, sub1, sub2, sub3, sub4, sub5, sub6, lub0, lub1, lub2, ne_num_var, ne_num_len, ne_num_cmp, ne_num_not, ne_num_and, ne_num_or, ne_num_either, ne_num_all, ne_num_match, ne_num_sorted, ne_num_below, ne_var_num, ne_var_len, ne_var_cmp, ne_var_not, ne_var_and, ne_var_or, ne_var_either, ne_var_all, ne_var_match, ne_var_sorted, ne_var_below, ne_len_num, ne_len_var, ne_len_cmp, ne_len_not, ne_len_and, ne_len_or, ne_len_either, ne_len_all, ne_len_match, ne_len_sorted, ne_len_below, ne_cell_num, ne_cell_var, ne_cell_len, ne_cell_cmp, ne_cell_not, ne_cell_and, ne_cell_or, ne_cell_either, ne_cell_all, ne_cell_match, ne_cell_sorted, ne_cell_below, ne_cmp_num, ne_cmp_var, ne_cmp_len, ne_cmp_not, ne_cmp_and, ne_cmp_or, ne_cmp_either, ne_cmp_all, ne_cmp_match, ne_cmp_sorted, ne_cmp_below, ne_not_num, ne_not_var, ne_not_len, ne_not_cmp, ne_not_and, ne_not_or, ne_not_either, ne_not_all, ne_not_match, ne_not_sorted, ne_not_below, ne_and_num, ne_and_var, ne_and_len, ne_and_cmp, ne_and_not, ne_and_or, ne_and_either, ne_and_all, ne_and_match, ne_and_sorted, ne_and_below, ne_or_num, ne_or_var, ne_or_len, ne_or_cmp, ne_or_not, ne_or_and, ne_or_either, ne_or_all, ne_or_match, ne_or_sorted, ne_or_below, ne_either_num, ne_either_var, ne_either_len, ne_either_cmp, ne_either_not, ne_either_and, ne_either_or, ne_either_all, ne_either_match, ne_either_sorted, ne_either_below, ne_all_num, ne_all_var, ne_all_len, ne_all_cmp, ne_all_not, ne_all_and, ne_all_or, ne_all_either, ne_all_match, ne_all_sorted, ne_all_below, ne_match_num, ne_match_var, ne_match_len, ne_match_cmp, ne_match_not, ne_match_and, ne_match_or, ne_match_either, ne_match_all, ne_match_sorted, ne_match_below, ne_sorted_num, ne_sorted_var, ne_sorted_len, ne_sorted_cmp, ne_sorted_not, ne_sorted_and, ne_sorted_or, ne_sorted_either, ne_sorted_all, ne_sorted_match, ne_sorted_below, ne_below_num, ne_below_var, ne_below_len, ne_below_cmp, ne_below_not, ne_below_and, ne_below_or, ne_below_either, ne_below_all, ne_below_match, ne_below_sorted])
section
variable {P : Prg} [U P] {n : Nat} {h : AHeap} {Q : AV → AHeap → Prop} {st : Stt} {nN lN : List Str}
theorem idx6 {k : Nat} {Q : KA} (hk : k < 6) (q : Q (.int (k : Int))) : idxK h (.lst [.str "<", .str "<=", .str ">", .str ">=", .str "==", .str "!="]) (.str (sgS k)) Q := by
  have e : ([.str "<", .str "<=", .str ">", .str ">=", .str "==", .str "!="] : List AV).findIdx? (fun z => eqF z (.str (sgS k))) = some k := by
    have : ∀ i, i < 6 → ([.str "<", .str "<=", .str ">", .str ">=", .str "==", .str "!="] : List AV).findIdx? (fun z => eqF z (.str (sgS i))) = some i := by decide +kernel
    exact this k hk
  unfold idxK
  simp only [view_lst, e]
  exact ⟨rfl, rfl, q⟩
theorem lcompared_ok {k : Nat} (hk : k < 6) {x y : Int} (q : Q (.bl (cmpB k x y)) h) : callN P (n+1) 149 [.str (sgS k), .int x, .int y] h Q := by
  refine call_of U.f__law_compared rfl ?_
  show WpSs (ctxOf P (callN P n)) b_law_compared _ [.val (.str (sgS k)), .val (.int x), .val (.int y), .no] h
  have hz : (6 : Nat) ≤ sizeLine := by decide
  push_cast [b_law_compared]
  refine ⟨hz, hz, rfl, idx6 hk ?_⟩
  have e : ([.bl (decide (x < y)), .bl (decide (x ≤ y)), .bl (decide (y < x)), .bl (decide (y ≤ x)), .bl (decide (x = y)), .bl (!decide (x = y))] : List AV)[k]? = some (.bl (cmpB k x y)) := by
    have : k = 0 ∨ k = 1 ∨ k = 2 ∨ k = 3 ∨ k = 4 ∨ k = 5 := by omega
    rcases this with rfl | rfl | rfl | rfl | rfl | rfl <;> rfl
  rw [lT e]
  exact q
theorem lvalue_pl {p : Pl} (k : st.Ok nN lN) (hp : p.Ok nN lN) (q : Q (.int (p.v st)) h) : callN P (n+1) 150 [p.av, .dct (dN st.nu), .dct (dL st.li), .dct (dL st.ol)] h Q := by
  refine call_of U.f__law_value rfl ?_
  show WpSs (ctxOf P (callN P n)) b_law_value _ [.val p.av, .val (.dct (dN st.nu)), .val (.dct (dL st.li)), .val (.dct (dL st.ol)), .no, .no] h
  cases p with
  | num i =>
    push_cast [b_law_value, Pl.av, decide_true, if_true]
    exact q
  | var s i =>
    obtain ⟨x, ex⟩ := k.n s hp
    have ev : Pl.v st (.var s i) = x + i := by show st.num s + i = _; unfold Stt.num; rw [ex]; rfl
    rw [ev] at q
    push_cast [b_law_value, b_law_value_5, Pl.av, decide_true, if_true, Bool.false_eq_true, if_false, subN ex]
    exact q
  | len s i =>
    obtain ⟨l, e1, e2⟩ := k.l false s hp
    have e1 : st.li.lookup s = some l := e1
    have ev : Pl.v st (.len s i) = (l.length : Int) + i := by show ((st.lis false s).length : Int) + i = _; unfold Stt.lis; simp only [Bool.false_eq_true, if_false, e1]; rfl
    rw [ev] at q
    push_cast [b_law_value, b_law_value_5, b_law_value_4, Pl.av, decide_true, if_true, Bool.false_eq_true, if_false, subL e1, k_lenL, List.length_map]
    exact q
theorem v_cell {s : Str} {o : Bool} {p : Pl} {i : Int} : TvL.Tm.v st (.cell s o p i) = if p.v st < 0 ∨ ((st.lis o s).length : Int) ≤ p.v st then none else some (at_ (st.lis o s) (p.v st) + i) := rfl
def oI : Option Int → AV
  | none => .non
  | some i => .int i
theorem lvalue_ok {t : TvL.Tm} (k : st.Ok nN lN) (hp : t.Ok nN lN) (q : Q (oI (t.v st)) h) : callN P (n+2) 150 [t.av, .dct (dN st.nu), .dct (dL st.li), .dct (dL st.ol)] h Q := by
  cases t with
  | pl p => exact lvalue_pl (n := n + 1) k hp q
  | cell s o p i =>
    obtain ⟨l, e1, e2⟩ := k.l false s hp.1
    obtain ⟨l2, e3, e4⟩ := k.l true s hp.1
    have e1 : st.li.lookup s = some l := e1
    have e3 : st.ol.lookup s = some l2 := e3
    refine call_of U.f__law_value rfl ?_
    show WpSs (ctxOf P (callN P (n+1))) b_law_value _ [.val (TvL.Tm.av (.cell s o p i)), .val (.dct (dN st.nu)), .val (.dct (dL st.li)), .val (.dct (dL st.ol)), .no, .no] h
    push_cast [b_law_value, b_law_value_5, b_law_value_4, b_law_value_3, TvL.Tm.av, ref, Bool.false_eq_true, if_false, subL e1]
    have fin : (t : Option Int) → t = TvL.Tm.v st (.cell s o p i) → Q (oI t) h := fun t e => by rw [e]; exact q
    have rest : ∀ l : List Int, st.lis o s = l → WpSs (ctxOf P (callN P (n+1))) b_law_value_2 { nx := fun _ h => Q .non h, rt := Q } [.val (TvL.Tm.av (.cell s o p i)), .val (.dct (dN st.nu)), .val (.dct (dL st.li)), .val (.dct (dL st.ol)), .val (.lst (l.map .int)), .no] h := by
      intro l el
      subst el
      push_cast [b_law_value_2, TvL.Tm.av]
      refine lvalue_pl k hp.2 ?_
      push_cast [List.length_map]
      refine ite_b (fun c => ?_) (fun c => ?_)
      · rw [if_pos trivial]
        exact fin none (by rw [v_cell, if_pos (.inl c)])
      · refine ite_b (fun c2 => ?_) (fun c2 => ?_)
        · exact fin none (by rw [v_cell, if_pos (.inr c2)])
        · push_cast [b_law_value_1]
          rw [subI (by omega) (by omega)]
          push_cast [WpSs]
          exact fin (some (at_ (st.lis o s) (p.v st) + i)) (by rw [v_cell, if_neg (by omega)])
    cases o with
    | true =>
      push_cast [if_true, subL e3]
      exact rest l2 (by unfold Stt.lis; simp only [if_true, e3]; rfl)
    | false =>
      push_cast [Bool.false_eq_true, if_false]
      exact rest l (by unfold Stt.lis; simp only [Bool.false_eq_true, if_false, e1]; rfl)
theorem lholds_ok {c : TvL.Cm} (k : st.Ok nN lN) (hc : c.Ok nN lN) (q : Q (.bl (c.v st)) h) : callN P (n+3) 151 [c.av, .dct (dN st.nu), .dct (dL st.li), .dct (dL st.ol)] h Q := by
  refine call_of U.f__law_holds rfl ?_
  show WpSs (ctxOf P (callN P (n+2))) b_law_holds _ [.val c.av, .val (.dct (dN st.nu)), .val (.dct (dL st.li)), .val (.dct (dL st.ol)), .no, .no] h
  push_cast [b_law_holds, TvL.Cm.av]
  refine lvalue_ok k hc.2.1 ?_
  push_cast [WpSs]
  refine lvalue_ok k hc.2.2 ?_
  unfold TvL.Cm.v at q
  have i1 : ∀ x, isNon (oI (some x)) = false := fun _ => rfl
  have i0 : isNon (oI none) = true := rfl
  cases e1 : c.l.v st with
  | none =>
    rw [e1] at q
    push_cast [i0, if_true]
    exact q
  | some x =>
    rw [e1] at q
    cases e2 : c.r.v st with
    | none =>
      rw [e2] at q
      push_cast [i1, i0, if_true, Bool.false_eq_true, if_false]
      exact q
    | some y =>
      rw [e2] at q
      push_cast [i1, Bool.false_eq_true, if_false, b_law_holds_1]
      exact lcompared_ok hc.1 q
theorem lpart_ok {r : Rg} (k : st.Ok nN lN) (hr : r.Ok nN lN) (q : Q (.tup [.lst ((r.cs st).map .int), .int (r.a st), .int (r.e st)]) h) : callN P (n+2) 152 [ref r.s r.o, r.lo.av, r.hi.av, .dct (dN st.nu), .dct (dL st.li), .dct (dL st.ol)] h Q := by
  obtain ⟨s, o, lo, hi⟩ := r
  obtain ⟨l, e1, e2⟩ := k.l false s hr.1
  obtain ⟨l2, e3, e4⟩ := k.l true s hr.1
  have e1 : st.li.lookup s = some l := e1
  have e3 : st.ol.lookup s = some l2 := e3
  refine call_of U.f__law_part rfl ?_
  show WpSs (ctxOf P (callN P (n+1))) b_law_part _ [.val (ref s o), .val lo.av, .val hi.av, .val (.dct (dN st.nu)), .val (.dct (dL st.li)), .val (.dct (dL st.ol)), .no, .no] h
  have rest : ∀ l : List Int, st.lis o s = l → WpSs (ctxOf P (callN P (n+1))) b_law_part_1 { nx := fun _ h => Q .non h, rt := Q } [.val (ref s o), .val lo.av, .val hi.av, .val (.dct (dN st.nu)), .val (.dct (dL st.li)), .val (.dct (dL st.ol)), .val (.lst (l.map .int)), .no] h := by
    intro l el
    subst el
    push_cast [b_law_part_1]
    refine lvalue_pl k hr.2.1 ?_
    have em : (if lo.v st > 0 then lo.v st else 0) = max 0 (lo.v st) := by split <;> omega
    push_cast [k_max2, em, k_lenL, List.length_map]
    refine lvalue_pl k hr.2.2 ?_
    have en : (if hi.v st < ((st.lis o s).length : Int) then hi.v st else ((st.lis o s).length : Int)) = min ((st.lis o s).length : Int) (hi.v st) := by split <;> omega
    push_cast [k_min2, en]
    exact ⟨(show 3 ≤ sizeLine by decide), q⟩
  push_cast [b_law_part, ref, subL e1]
  cases o with
  | true =>
    push_cast [if_true, subL e3]
    exact rest l2 (by unfold Stt.lis; simp only [if_true, e3]; rfl)
  | false =>
    push_cast [Bool.false_eq_true, if_false]
    exact rest l (by unfold Stt.lis; simp only [Bool.false_eq_true, if_false, e1]; rfl)
theorem lis_le (k : st.Ok nN lN) {s : Str} {o : Bool} (hs : s ∈ lN) : (st.lis o s).length ≤ 10 := by
  obtain ⟨l, e1, e2⟩ := k.l o s hs
  unfold Stt.lis; rw [e1]; exact e2
theorem re_le (k : st.Ok nN lN) {r : Rg} (hr : r.Ok nN lN) : r.e st ≤ ((r.cs st).length : Int) ∧ r.e st ≤ 10 ∧ 0 ≤ r.a st := by
  have h1 := lis_le (o := r.o) k hr.1
  have h2 : r.e st ≤ ((st.lis r.o r.s).length : Int) := by unfold Rg.e; omega
  have h3 : (r.cs st).length = (st.lis r.o r.s).length := rfl
  have h4 : 0 ≤ r.a st := by unfold Rg.a; omega
  omega
theorem asB (l : List Bool) : asBools (l.map .bl) = some l := by
  induction l with
  | nil => rfl
  | cons x l ih =>
    show (asBools (l.map .bl)).map (x :: ·) = _
    rw [ih]; rfl
theorem all_rng {m : Nat} (f : Nat → Bool) {h : AHeap} {Q : KA} (q : Q (.bl ((List.range m).all f))) : bltK h .all [.lst ((List.range m).map fun (j : Nat) => .bl (f j))] Q := by
  have : ((List.range m).map fun (j : Nat) => AV.bl (f j)) = ((List.range m).map f).map .bl := by rw [List.map_map]; rfl
  rw [this]
  simp only [bltK, view_lst, Option.bind_some, asB]
  rw [List.all_map]
  exact q
theorem mem_part {r : Rg} {x : Int} (hx : x ∈ r.part st) : ∃ j : Nat, (j : Int) < r.e st - r.a st ∧ x = at_ (r.cs st) (r.a st + (j : Int)) := by
  obtain ⟨j, hj, e⟩ := List.mem_map.mp hx
  rw [List.mem_range] at hj
  exact ⟨j, by omega, e.symm⟩
theorem part_mem {r : Rg} {j : Nat} (hj : (j : Int) < r.e st - r.a st) : at_ (r.cs st) (r.a st + (j : Int)) ∈ r.part st := List.mem_map.mpr ⟨j, List.mem_range.mpr (by omega), rfl⟩
theorem ltrue_ok {p : Pr} (k : st.Ok nN lN) (hp : p.Ok nN lN) (hs : ∀ r, p ≠ .sorted r) (q : Q (.bl (p.v st)) h) : callN P (n+4) 153 [p.av, .dct (dN st.nu), .dct (dL st.li), .dct (dL st.ol)] h Q := by
  refine call_of U.f__law_true rfl ?_
  show WpSs (ctxOf P (callN P (n+3))) b_law_true _ [.val p.av, .val (.dct (dN st.nu)), .val (.dct (dL st.li)), .val (.dct (dL st.ol)), .no, .no, .no, .no, .no, .no, .no, .no, .no, .no, .no] h
  cases p with
  | sorted r => exact absurd rfl (hs r)
  | cmp c =>
    push_cast [b_law_true, Pr.av, TvL.Cm.av, decide_true, if_true]
    exact lholds_ok (n := n) k hp q
  | either c d =>
    push_cast [b_law_true, b_law_true_8, Pr.av, decide_true, if_true, Bool.false_eq_true, if_false]
    refine lholds_ok (n := n) k hp.1 ?_
    have q : Q (.bl (c.v st || d.v st)) h := q
    cases hc : c.v st with
    | true =>
      rw [hc] at q
      exact q
    | false =>
      rw [hc] at q
      exact lholds_ok (n := n) k hp.2 q
  | all r sg b =>
    have hz : sizeLine = 16777216 := sizeLine_eq
    obtain ⟨e1, e2, e3⟩ := re_le k hp.1
    push_cast [b_law_true, b_law_true_8, b_law_true_7, Pr.av, decide_true, if_true, Bool.false_eq_true, if_false]
    refine lpart_ok (n := n + 1) k hp.1 ?_
    push_cast [decide_true, if_true]
    refine lvalue_pl (n := n + 2) k hp.2.2 ?_
    push_cast [WpSs]
    refine ⟨by omega, by simp; omega, ?_⟩
    refine comp_map (fun (j : Nat) => .bl (cmpB sg (at_ (r.cs st) (r.a st + (j : Int))) (b.v st))) ?_ ?_
    · intro i x R hx z
      obtain ⟨hi, rfl⟩ := items_range hx
      push_cast [WpSs]
      rw [subI (by omega) (by omega)]
      push_cast [WpSs]
      exact lcompared_ok (n := n + 2) hp.2.1 z
    · rw [List.length_map, List.length_range]
      refine all_rng (fun (j : Nat) => cmpB sg (at_ (r.cs st) (r.a st + (j : Int))) (b.v st)) ?_
      have : Pr.v st (.all r sg b) = (List.range (r.e st - r.a st).toNat).all fun (j : Nat) => cmpB sg (at_ (r.cs st) (r.a st + (j : Int))) (b.v st) := by
        show ((r.part st).all fun x => cmpB sg x (b.v st)) = _
        unfold Rg.part
        rw [List.all_map]; rfl
      rw [this] at q
      exact q
  | mtch r sg s o k0 =>
    have hz : sizeLine = 16777216 := sizeLine_eq
    obtain ⟨e1, e2, e3⟩ := re_le k hp.1
    have ho : Rg.Ok nN lN ⟨s, o, r.lo, r.hi⟩ := ⟨hp.2.2, hp.1.2⟩
    have eo : (Rg.mk s o r.lo r.hi).e st = min ((st.lis o s).length : Int) (r.hi.v st) := rfl
    have er : r.e st = min ((st.lis r.o r.s).length : Int) (r.hi.v st) := rfl
    have ec : (Rg.mk s o r.lo r.hi).cs st = st.lis o s := rfl
    push_cast [b_law_true, b_law_true_8, b_law_true_7, b_law_true_6, Pr.av, decide_true, if_true, Bool.false_eq_true, if_false]
    refine lpart_ok (n := n + 1) k hp.1 ?_
    push_cast [decide_true, if_true, Bool.false_eq_true, if_false]
    refine lpart_ok (n := n + 1) (r := ⟨s, o, r.lo, r.hi⟩) k ho ?_
    have em : (if (Rg.mk s o r.lo r.hi).e st < r.e st then (Rg.mk s o r.lo r.hi).e st else r.e st) = min (r.e st) ((st.lis o s).length : Int) := by rw [eo, er]; split <;> omega
    push_cast [k_min2, em]
    refine ⟨by omega, by simp; omega, ?_⟩
    refine comp_map (fun (j : Nat) => .bl (cmpB sg (at_ (r.cs st) (r.a st + (j : Int))) (at_ (st.lis o s) (r.a st + (j : Int)) + k0))) ?_ ?_
    · intro i x R hx z
      obtain ⟨hi, rfl⟩ := items_range hx
      push_cast [WpSs]
      rw [subI (by omega) (by omega)]
      push_cast [ec]
      rw [subI (by omega) (by omega)]
      push_cast [WpSs]
      exact lcompared_ok (n := n + 2) hp.2.1 z
    · rw [List.length_map, List.length_range]
      exact all_rng (fun (j : Nat) => cmpB sg (at_ (r.cs st) (r.a st + (j : Int))) (at_ (st.lis o s) (r.a st + (j : Int)) + k0)) q
  | below r p =>
    have hz : sizeLine = 16777216 := sizeLine_eq
    obtain ⟨e1, e2, e3⟩ := re_le k hp.1
    obtain ⟨f1, f2, f3⟩ := re_le k hp.2
    have bad : ∀ i j : Nat, (i : Int) < r.e st - r.a st → (j : Int) < p.e st - p.a st → ¬ at_ (r.cs st) (r.a st + (i : Int)) ≤ at_ (p.cs st) (p.a st + (j : Int)) → Pr.v st (.below r p) = false := fun i j hi hj hn => by
      refine Bool.eq_false_iff.mpr fun z => hn ?_
      have := List.all_eq_true.mp (List.all_eq_true.mp z _ (part_mem hi)) _ (part_mem hj)
      simpa using this
    push_cast [b_law_true, b_law_true_8, b_law_true_7, b_law_true_6, b_law_true_5, b_law_true_4, Pr.av, decide_true, if_true, Bool.false_eq_true, if_false]
    refine lpart_ok (n := n + 1) k hp.1 ?_
    push_cast [decide_true, if_true, Bool.false_eq_true, if_false]
    refine lpart_ok (n := n + 1) k hp.2 ?_
    push_cast [WpSs]
    refine ⟨by omega, ?_⟩
    refine for_inv (fun i ρ h' => h' = h ∧ (∃ s12 s13, ρ = [.val (.tup [.str "below", ref r.s r.o, r.lo.av, r.hi.av, ref p.s p.o, p.lo.av, p.hi.av]), .val (.dct (dN st.nu)), .val (.dct (dL st.li)), .val (.dct (dL st.ol)), .val (.str "below"), .val (.lst ((r.cs st).map .int)), .val (.int (r.a st)), .val (.int (r.e st)), .no, .val (.lst ((p.cs st).map .int)), .val (.int (p.a st)), .val (.int (p.e st)), s12, s13, .no]) ∧ ∀ j : Nat, j < i → (j : Int) < r.e st - r.a st → ∀ y ∈ p.part st, at_ (r.cs st) (r.a st + (j : Int)) ≤ y) ⟨rfl, ⟨_, _, rfl⟩, fun j hj => absurd hj (Nat.not_lt_zero _)⟩ (fun _ _ _ _ _ => trivial) ?_ ?_
    · rintro i x _ h D' hx ⟨rfl, ⟨s12, s13, rfl⟩, hI⟩ k1 k2 k3 k4
      obtain ⟨hi, rfl⟩ := items_range hx
      push_cast [b_law_true_2]
      refine ⟨by omega, ?_⟩
      refine for_inv (fun j ρ h' => h' = h ∧ (∃ s13, ρ = [.val (.tup [.str "below", ref r.s r.o, r.lo.av, r.hi.av, ref p.s p.o, p.lo.av, p.hi.av]), .val (.dct (dN st.nu)), .val (.dct (dL st.li)), .val (.dct (dL st.ol)), .val (.str "below"), .val (.lst ((r.cs st).map .int)), .val (.int (r.a st)), .val (.int (r.e st)), .no, .val (.lst ((p.cs st).map .int)), .val (.int (p.a st)), .val (.int (p.e st)), .val (.int (r.a st + (i : Int))), s13, .no]) ∧ ∀ l : Nat, l < j → (l : Int) < p.e st - p.a st → at_ (r.cs st) (r.a st + (i : Int)) ≤ at_ (p.cs st) (p.a st + (l : Int))) ⟨rfl, ⟨_, rfl⟩, fun j hj => absurd hj (Nat.not_lt_zero _)⟩ (fun _ _ _ _ _ => trivial) ?_ ?_
      · rintro j x _ h D2 hx2 ⟨rfl, ⟨s13, rfl⟩, hJ⟩ m1 m2 m3 m4
        obtain ⟨hj, rfl⟩ := items_range hx2
        push_cast [b_law_true_1]
        rw [subI (by omega) (by omega)]
        push_cast [WpSs]
        rw [subI (by omega) (by omega)]
        push_cast [WpSs]
        refine ite_b (fun c => ?_) (fun c => ?_)
        · rw [bad i j (by omega) (by omega) (by omega)] at q
          exact m3 _ _ (k3 _ _ q)
        · refine m1 _ _ ⟨rfl, ⟨_, rfl⟩, fun l hl hl2 => ?_⟩
          by_cases cl : l = j
          · subst cl; omega
          · exact hJ l (by omega) hl2
      · rintro _ h ⟨rfl, ⟨s13, rfl⟩, hJ⟩
        rw [List.length_map, List.length_range] at hJ
        refine k1 _ _ ⟨rfl, ⟨_, _, rfl⟩, fun j hj hj2 y hy => ?_⟩
        by_cases cl : j = i
        · subst cl
          obtain ⟨l, hl, rfl⟩ := mem_part hy
          exact hJ l (by omega) hl
        · exact hI j (by omega) hj2 y hy
    · rintro _ h ⟨rfl, ⟨s12, s13, rfl⟩, hI⟩
      rw [List.length_map, List.length_range] at hI
      have : Pr.v st (.below r p) = true := by
        refine List.all_eq_true.mpr fun x hx => List.all_eq_true.mpr fun y hy => decide_eq_true ?_
        obtain ⟨j, hj, rfl⟩ := mem_part hx
        exact hI j (by omega) hj y hy
      rw [this] at q
      push_cast [b_law_true_3]
      exact q
theorem pairs_adj {r : Rg} : Pr.v st (.sorted r) = true ↔ ∀ i j : Nat, i ≤ j → (j : Int) < r.e st - r.a st → at_ (r.cs st) (r.a st + (i : Int)) ≤ at_ (r.cs st) (r.a st + (j : Int)) := by
  show adj (r.part st) = true ↔ _
  rw [adj_iff]
  constructor
  · intro z i j hij hj
    exact z i j _ _ hij (Rg.part_at (by omega)) (Rg.part_at (by omega))
  · intro z i j x y hij hx hy
    have hj : j < (r.e st - r.a st).toNat := by
      have := (List.getElem?_eq_some_iff.mp hy).1
      rw [Rg.part_len] at this
      exact this
    rw [Rg.part_at (by omega)] at hx hy
    cases hx; cases hy
    exact z i j hij (by omega)
theorem pr_kind {p : Pr} (hs : ∀ r, p ≠ .sorted r) : ∃ s xs, p.av = .tup (.str s :: xs) ∧ decide (s = "sorted") = false := by
  cases p with
  | sorted r => exact absurd rfl (hs r)
  | cmp c => exact ⟨_, _, rfl, ne_cmp_sorted⟩
  | either c d => exact ⟨_, _, rfl, ne_either_sorted⟩
  | all r sg b => exact ⟨_, _, rfl, ne_all_sorted⟩
  | mtch r sg s o k => exact ⟨_, _, rfl, ne_match_sorted⟩
  | below r q => exact ⟨_, _, rfl, ne_below_sorted⟩
theorem lpairs_ok {p : Pr} (k : st.Ok nN lN) (hp : p.Ok nN lN) (q : Q (.bl (p.v st)) h) : callN P (n+5) 154 [p.av, .dct (dN st.nu), .dct (dL st.li), .dct (dL st.ol)] h Q := by
  refine call_of U.f__law_pairs_true rfl ?_
  show WpSs (ctxOf P (callN P (n+4))) b_law_pairs_true _ [.val p.av, .val (.dct (dN st.nu)), .val (.dct (dL st.li)), .val (.dct (dL st.ol)), .no, .no, .no, .no, .no] h
  have other : (∀ r, p ≠ .sorted r) → WpSs (ctxOf P (callN P (n+4))) b_law_pairs_true { nx := fun _ h => Q .non h, rt := Q } [.val p.av, .val (.dct (dN st.nu)), .val (.dct (dL st.li)), .val (.dct (dL st.ol)), .no, .no, .no, .no, .no] h := fun hs => by
    have t := ltrue_ok (P := P) (n := n) k hp hs q
    obtain ⟨s, xs, e1, e2⟩ := pr_kind hs
    rw [e1] at t ⊢
    push_cast [b_law_pairs_true, e2, Bool.not_false, if_true]
    exact t
  cases p with
  | cmp c => exact other fun _ z => by cases z
  | either c d => exact other fun _ z => by cases z
  | all r sg b => exact other fun _ z => by cases z
  | mtch r sg s o k => exact other fun _ z => by cases z
  | below r q => exact other fun _ z => by cases z
  | sorted r =>
    obtain ⟨e1, e2, e3⟩ := re_le k hp
    push_cast [b_law_pairs_true, b_law_pairs_true_4, Pr.av, decide_true, Bool.not_true, Bool.false_eq_true, if_false]
    refine lpart_ok (n := n + 2) k hp ?_
    push_cast [WpSs]
    refine ⟨by omega, ?_⟩
    refine for_inv (fun i ρ h' => h' = h ∧ (∃ s12 s13, ρ = [.val (.tup [.str "sorted", ref r.s r.o, r.lo.av, r.hi.av]), .val (.dct (dN st.nu)), .val (.dct (dL st.li)), .val (.dct (dL st.ol)), .val (.lst ((r.cs st).map .int)), .val (.int (r.a st)), .val (.int (r.e st)), s12, s13]) ∧ ∀ i' j : Nat, i' < i → i' ≤ j → (j : Int) < r.e st - r.a st → at_ (r.cs st) (r.a st + (i' : Int)) ≤ at_ (r.cs st) (r.a st + (j : Int))) ⟨rfl, ⟨_, _, rfl⟩, fun i' j hj => absurd hj (Nat.not_lt_zero _)⟩ (fun _ _ _ _ _ => trivial) ?_ ?_
    · rintro i x _ h D' hx ⟨rfl, ⟨s12, s13, rfl⟩, hI⟩ k1 k2 k3 k4
      obtain ⟨hi, rfl⟩ := items_range hx
      push_cast [b_law_pairs_true_2]
      refine ⟨by omega, ?_⟩
      refine for_inv (fun j ρ h' => h' = h ∧ (∃ s13, ρ = [.val (.tup [.str "sorted", ref r.s r.o, r.lo.av, r.hi.av]), .val (.dct (dN st.nu)), .val (.dct (dL st.li)), .val (.dct (dL st.ol)), .val (.lst ((r.cs st).map .int)), .val (.int (r.a st)), .val (.int (r.e st)), .val (.int (r.a st + (i : Int))), s13]) ∧ ∀ l : Nat, l < j → (((i + l : Nat)) : Int) < r.e st - r.a st → at_ (r.cs st) (r.a st + (i : Int)) ≤ at_ (r.cs st) (r.a st + ((i + l : Nat) : Int))) ⟨rfl, ⟨_, rfl⟩, fun l hl => absurd hl (Nat.not_lt_zero _)⟩ (fun _ _ _ _ _ => trivial) ?_ ?_
      · rintro j x _ h D2 hx2 ⟨rfl, ⟨s13, rfl⟩, hJ⟩ m1 m2 m3 m4
        obtain ⟨hj, rfl⟩ := items_range hx2
        have ej : r.a st + (i : Int) + (j : Int) = r.a st + ((i + j : Nat) : Int) := by omega
        push_cast [b_law_pairs_true_1]
        rw [subI (by omega) (by omega)]
        push_cast [WpSs]
        rw [ej, subI (by omega) (by omega)]
        push_cast [WpSs]
        refine ite_b (fun c => ?_) (fun c => ?_)
        · have : Pr.v st (.sorted r) = false := Bool.eq_false_iff.mpr fun z => by
            have := pairs_adj.mp z i (i + j) (by omega) (by omega)
            omega
          rw [this] at q
          exact m3 _ _ (k3 _ _ q)
        · refine m1 _ _ ⟨rfl, ⟨_, rfl⟩, fun l hl hl2 => ?_⟩
          by_cases cl : l = j
          · subst cl; omega
          · exact hJ l (by omega) hl2
      · rintro _ h ⟨rfl, ⟨s13, rfl⟩, hJ⟩
        rw [List.length_map, List.length_range] at hJ
        refine k1 _ _ ⟨rfl, ⟨_, _, rfl⟩, fun i' j hi' hij hj => ?_⟩
        by_cases cl : i' = i
        · subst cl
          have e4 : i' + (j - i') = j := by omega
          have := hJ (j - i') (by omega) (by rw [e4]; exact hj)
          rw [e4] at this
          exact this
        · exact hI i' j (by omega) hij hj
    · rintro _ h ⟨rfl, ⟨s12, s13, rfl⟩, hI⟩
      rw [List.length_map, List.length_range] at hI
      have : Pr.v st (.sorted r) = true := pairs_adj.mpr fun i j hij hj => hI i j (by omega) hij hj
      rw [this] at q
      push_cast [b_law_pairs_true_3]
      exact q
theorem parts_eq (st : Stt) (xs : List (AV × (Stt → Bool))) : (List.range (xs.map (·.1)).length).map (fun (i : Nat) => AV.bl (match xs[i]? with
    | some p => p.2 st
    | none => true)) = (xs.map fun p => p.2 st).map AV.bl := by
  apply List.ext_getElem
  · simp
  · intro i h1 h2
    simp only [List.length_map, List.length_range] at h1
    simp only [List.getElem_map, List.getElem_range, List.getElem?_eq_getElem h1]
theorem cd_kind {p : Pr} : ∃ s xs, p.av = .tup (.str s :: xs) ∧ decide (s = "not") = false ∧ decide (s = "and") = false ∧ decide (s = "or") = false := by
  cases p with
  | cmp c => exact ⟨_, _, rfl, ne_cmp_not, ne_cmp_and, ne_cmp_or⟩
  | either c d => exact ⟨_, _, rfl, ne_either_not, ne_either_and, ne_either_or⟩
  | all r sg b => exact ⟨_, _, rfl, ne_all_not, ne_all_and, ne_all_or⟩
  | mtch r sg s o k => exact ⟨_, _, rfl, ne_match_not, ne_match_and, ne_match_or⟩
  | sorted r => exact ⟨_, _, rfl, ne_sorted_not, ne_sorted_and, ne_sorted_or⟩
  | below r q => exact ⟨_, _, rfl, ne_below_not, ne_below_and, ne_below_or⟩
theorem ltruth_pr {p : Pr} (k : st.Ok nN lN) (hp : p.Ok nN lN) (q : Q (.bl (p.v st)) h) : callN P (n+6) 155 [p.av, .dct (dN st.nu), .dct (dL st.li), .dct (dL st.ol)] h Q := by
  refine call_of U.f__law_truth rfl ?_
  have t := lpairs_ok (P := P) (n := n) k hp q
  show WpSs (ctxOf P (callN P (n+5))) b_law_truth _ [.val p.av, .val (.dct (dN st.nu)), .val (.dct (dL st.li)), .val (.dct (dL st.ol)), .no] h
  obtain ⟨s, xs, e1, e2, e3, e4⟩ := cd_kind (p := p)
  rw [e1] at t ⊢
  push_cast [b_law_truth, b_law_truth_3, b_law_truth_2, b_law_truth_1, e2, e3, e4, Bool.false_eq_true, if_false]
  exact t
theorem lnot {c : AV} {b : Bool} {m : Nat} (w : ∀ Q : AV → AHeap → Prop, Q (.bl b) h → callN P m 155 [c, .dct (dN st.nu), .dct (dL st.li), .dct (dL st.ol)] h Q) (q : Q (.bl (!b)) h) : callN P (m + 1) 155 [.tup [.str "not", c], .dct (dN st.nu), .dct (dL st.li), .dct (dL st.ol)] h Q := by
  refine call_of U.f__law_truth rfl ?_
  show WpSs (ctxOf P (callN P m)) b_law_truth _ [.val (.tup [.str "not", c]), .val (.dct (dN st.nu)), .val (.dct (dL st.li)), .val (.dct (dL st.ol)), .no] h
  push_cast [b_law_truth, decide_true, if_true]
  exact w _ q
theorem land {xs : List (AV × (Stt → Bool))} {m : Nat} (hl : xs.length ≤ 10) (w : ∀ p ∈ xs, ∀ Q : AV → AHeap → Prop, Q (.bl (p.2 st)) h → callN P m 155 [p.1, .dct (dN st.nu), .dct (dL st.li), .dct (dL st.ol)] h Q) (q : Q (.bl (xs.all fun p => p.2 st)) h) : callN P (m + 1) 155 [.tup [.str "and", .tup (xs.map (·.1))], .dct (dN st.nu), .dct (dL st.li), .dct (dL st.ol)] h Q := by
  refine call_of U.f__law_truth rfl ?_
  show WpSs (ctxOf P (callN P m)) b_law_truth _ [.val (.tup [.str "and", .tup (xs.map (·.1))]), .val (.dct (dN st.nu)), .val (.dct (dL st.li)), .val (.dct (dL st.ol)), .no] h
  have hz : sizeLine = 16777216 := sizeLine_eq
  push_cast [b_law_truth, b_law_truth_3, decide_true, if_true, Bool.false_eq_true, if_false, viewT_tup]
  refine ⟨by rw [List.length_map]; omega, ?_⟩
  refine comp_map (fun (i : Nat) => .bl (match xs[i]? with
    | some p => p.2 st
    | none => true)) ?_ ?_
  · intro i x R hx z
    obtain ⟨p, hp, rfl⟩ := items_map hx
    rw [hp] at z
    push_cast [WpSs]
    exact w p (List.mem_of_getElem? hp) _ z
  · rw [parts_eq]
    push_cast [bltK, view_lst, Option.bind_some, asB]
    have : ((xs.map fun p => p.2 st).all id) = xs.all fun p => p.2 st := by rw [List.all_map]; rfl
    rw [this]
    exact q
theorem lor {xs : List (AV × (Stt → Bool))} {m : Nat} (hl : xs.length ≤ 10) (w : ∀ p ∈ xs, ∀ Q : AV → AHeap → Prop, Q (.bl (p.2 st)) h → callN P m 155 [p.1, .dct (dN st.nu), .dct (dL st.li), .dct (dL st.ol)] h Q) (q : Q (.bl (xs.any fun p => p.2 st)) h) : callN P (m + 1) 155 [.tup [.str "or", .tup (xs.map (·.1))], .dct (dN st.nu), .dct (dL st.li), .dct (dL st.ol)] h Q := by
  refine call_of U.f__law_truth rfl ?_
  show WpSs (ctxOf P (callN P m)) b_law_truth _ [.val (.tup [.str "or", .tup (xs.map (·.1))]), .val (.dct (dN st.nu)), .val (.dct (dL st.li)), .val (.dct (dL st.ol)), .no] h
  have hz : sizeLine = 16777216 := sizeLine_eq
  push_cast [b_law_truth, b_law_truth_3, b_law_truth_2, decide_true, if_true, Bool.false_eq_true, if_false, viewT_tup]
  refine ⟨by rw [List.length_map]; omega, ?_⟩
  refine comp_map (fun (i : Nat) => .bl (match xs[i]? with
    | some p => p.2 st
    | none => true)) ?_ ?_
  · intro i x R hx z
    obtain ⟨p, hp, rfl⟩ := items_map hx
    rw [hp] at z
    push_cast [WpSs]
    exact w p (List.mem_of_getElem? hp) _ z
  · rw [parts_eq]
    push_cast [bltK, view_lst, Option.bind_some, asB]
    have : ((xs.map fun p => p.2 st).any id) = xs.any fun p => p.2 st := by rw [List.any_map]; rfl
    rw [this]
    exact q
theorem ltruth_ok {d : Nat} {c : AV} {f : Stt → Bool} (w : Cd nN lN d c f) : ∀ {m : Nat} {h : AHeap} {Q : AV → AHeap → Prop} {st : Stt}, d + 6 ≤ m → st.Ok nN lN → Q (.bl (f st)) h → callN P m 155 [c, .dct (dN st.nu), .dct (dL st.li), .dct (dL st.ol)] h Q := by
  induction w with
  | pr p hp =>
    intro m h Q st hm k q
    obtain ⟨n, rfl⟩ : ∃ n, m = n + 6 := ⟨m - 6, by omega⟩
    exact ltruth_pr k hp q
  | @not d c f w ih =>
    intro m h Q st hm k q
    obtain ⟨n, rfl⟩ : ∃ n, m = n + 1 := ⟨m - 1, by omega⟩
    exact lnot (fun Q z => ih (by omega) k z) q
  | @and d xs hl w ih =>
    intro m h Q st hm k q
    obtain ⟨n, rfl⟩ : ∃ n, m = n + 1 := ⟨m - 1, by omega⟩
    exact land hl (fun p hp Q z => ih p hp (by omega) k z) q
  | @or d xs hl w ih =>
    intro m h Q st hm k q
    obtain ⟨n, rfl⟩ : ∃ n, m = n + 1 := ⟨m - 1, by omega⟩
    exact lor hl (fun p hp Q z => ih p hp (by omega) k z) q
end
end Ev

set_option maxRecDepth 100000
set_option maxHeartbeats 400000
namespace K09
open PySem L2 VL Hd TvL Nm
local macro_rules
  | `(tactic| push_cast [$xs,*]) => `(tactic| try simp only [$xs,*, WpSs, WpS, WpE, WpEs, WpBs, WpO, WpN, WpI, WpC, WpT, getS, setS, tgK, setsS, wipeS, k_add, k_addT, k_sub, k_mul, k_fdiv, k_mod, k_neg, k_lt, k_le, k_gt, k_ge, k_eqI, k_neI, k_eqS, k_neS, k_eqB, k_neB, k_is, k_isn, k_isB, k_isnB, k_gIn, ctx_gdct, isNon_non, isNon_int, isNon_str, isNon_lst, isNon_tup, isNon_adr, k_lenS, k_lenL, k_lenR, k_lenT, k_int, k_str, k_abs, tru_bl, augK, ctx_call, ctx_glob, k_in, k_nin, k_inS, k_addS, k_intB, isi_non_int, isi_non_bool, isi_non_str, isi_non_list, isi_non_tuple, isi_bl_int, isi_bl_bool, isi_bl_str, isi_bl_list, isi_bl_tuple, isi_int_int, isi_int_bool, isi_int_str, isi_int_list, isi_int_tuple, isi_str_int, isi_str_bool, isi_str_str, isi_str_list, isi_str_tuple, isi_tup_int, isi_tup_bool, isi_tup_str, isi_tup_list, isi_tup_tuple, isi_lst_int, isi_lst_bool, isi_lst_str, isi_lst_list, isi_lst_tuple, isi_ro_int, isi_ro_bool, isi_ro_str, isi_ro_list, isi_ro_tuple])
def nm (ns : List Str) (k : Nat) : Str := (ns[k]?).getD ""
def nN (ns : List Str) : List Str := [nm ns 0, nm ns 1, "result"]
def lN (ns : List Str) : List Str := [nm ns 3, nm ns 4, nm ns 5]
section
variable {P : Prg} [Hd.U P] [Nm.U P] [U P] {n a : Nat} {h : AHeap} {Q : AV → AHeap → Prop} {ns : List Str}
theorem k_nm {i : Nat} {Q : KA} (hn : ns.length = 16) (hi : i < 16) (q : Q (.str (nm ns i))) : subK h (.lst (ns.map .str)) (.int (i : Int)) Q := by
  refine k_subL viewT_lst (fun _ z => by cases z) (d := .str (nm ns i)) ?_ q
  rw [VL.atI_nat (by rw [List.length_map]; omega), List.getElem?_map, List.getElem?_eq_getElem (by omega)]
  unfold nm
  rw [List.getElem?_eq_getElem (by omega)]; rfl
theorem k_nm3 {r : Nat} {Q : KA} (hn : ns.length = 16) (hr : (r : Int) < 3) (q : ∀ s ∈ lN ns, Q (.str s)) : subK h (.lst (ns.map .str)) (.int (3 + (r : Int))) Q := by
  have e : (3 + (r : Int)) = ((3 + r : Nat) : Int) := by omega
  rw [e]
  refine k_nm hn (by omega) (q _ ?_)
  have : r = 0 ∨ r = 1 ∨ r = 2 := by omega
  rcases this with rfl | rfl | rfl
  · exact .head _
  · exact .tail _ (.head _)
  · exact .tail _ (.tail _ (.head _))
theorem some_ok (hd : Hnd a h) (q : ∀ (i : Int) h', Hx a h h' → Q (.int i) h') : callN P (n+2) 156 [.adr a] h Q := by
  refine call_of U.f__law_some rfl ?_
  show WpSs (ctxOf P (callN P (n+1))) b_law_some _ [.val (.adr a), .no] h
  push_cast [b_law_some]
  refine take_ok hd (by decide) fun r h1 x1 hr => ?_
  push_cast [WpSs]
  refine ite_b (fun c => ?_) (fun c => ?_)
  · refine take_ok x1.hand (by decide) fun r2 h2 x2 hr2 => ?_
    push_cast [WpSs]
    exact ⟨⟨by decide, by decide, by decide⟩, mulA_l (by omega) (by omega), q _ _ (x1.trans x2)⟩
  · push_cast [b_law_some_1]
    refine take_ok x1.hand (by decide) fun r2 h2 x2 hr2 => ?_
    push_cast [WpSs]
    exact q _ _ (x1.trans x2)
theorem plain_ok (hn : ns.length = 16) (hd : Hnd a h) (q : ∀ p : Pl, p.Ok (nN ns) (lN ns) → ∀ h', Hx a h h' → Q p.av h') : callN P (n+2) 157 [.adr a, .lst (ns.map .str)] h Q := by
  refine call_of U.f__law_plain rfl ?_
  show WpSs (ctxOf P (callN P (n+1))) b_law_plain _ [.val (.adr a), .val (.lst (ns.map .str)), .no] h
  have z3 : 3 ≤ sizeLine := by decide
  have z2 : 2 ≤ sizeLine := by decide
  push_cast [b_law_plain]
  refine take_ok hd (by decide) fun r h1 x1 hr => ?_
  push_cast [WpSs]
  refine ite_b (fun c => ?_) (fun c => ?_)
  · refine take_ok x1.hand (by decide) fun r2 h2 x2 hr2 => ?_
    push_cast [WpSs]
    refine take_ok x2.hand (by decide) fun r3 h3 x3 hr3 => ?_
    push_cast [WpSs]
    refine ⟨z2, ?_⟩
    refine take_ok x3.hand (by decide) fun r4 h4 x4 hr4 => ?_
    push_cast [WpSs]
    refine ⟨divA (by decide) (by decide), ?_⟩
    have e : (r4 : Int) / 3 = ((r4 / 3 : Nat) : Int) := by omega
    rw [e]
    refine k_pick (by show r4 / 3 < 2; omega) fun d hd => ?_
    have : ∃ i : Int, d = .int i := by
      simp only [List.mem_cons, List.not_mem_nil, or_false] at hd
      rcases hd with rfl | rfl <;> exact ⟨_, rfl⟩
    obtain ⟨i, rfl⟩ := this
    exact ⟨z2, q (.num i) trivial _ (((x1.trans x2).trans x3).trans x4)⟩
  · push_cast [b_law_plain_2]
    refine ite_b (fun c => ?_) (fun c => ?_)
    · push_cast [WpSs]
      refine k_nm (i := 0) hn (by decide) ?_
      refine k_nm (i := 1) hn (by decide) ?_
      refine ⟨z3, ?_⟩
      refine take_ok x1.hand (by decide) fun r2 h2 x2 hr2 => ?_
      refine k_pick (by show r2 < 3; omega) fun d hd => ?_
      have : ∃ s ∈ nN ns, d = .str s := by
        simp only [List.mem_cons, List.not_mem_nil, or_false] at hd
        rcases hd with rfl | rfl | rfl
        · exact ⟨_, .head _, rfl⟩
        · exact ⟨_, .tail _ (.head _), rfl⟩
        · exact ⟨_, .tail _ (.tail _ (.head _)), rfl⟩
      obtain ⟨s, hs, rfl⟩ := this
      refine take_ok x2.hand (by decide) fun r3 h3 x3 hr3 => ?_
      push_cast [WpSs]
      exact ⟨z3, q (.var s _) hs _ ((x1.trans x2).trans x3)⟩
    · push_cast [b_law_plain_1]
      refine take_ok x1.hand (by decide) fun r2 h2 x2 hr2 => ?_
      push_cast [WpSs]
      refine k_nm3 hn hr2 fun s hs => ?_
      refine take_ok x2.hand (by decide) fun r3 h3 x3 hr3 => ?_
      push_cast [WpSs]
      exact ⟨z3, q (.len s _) hs _ ((x1.trans x2).trans x3)⟩
theorem list_ok (hn : ns.length = 16) (hd : Hnd a h) (q : ∀ (s : Str) (o : Bool), s ∈ lN ns → ∀ h', Hx a h h' → Q (ref s o) h') : callN P (n+2) 158 [.adr a, .lst (ns.map .str)] h Q := by
  refine call_of U.f__law_list rfl ?_
  show WpSs (ctxOf P (callN P (n+1))) b_law_list _ [.val (.adr a), .val (.lst (ns.map .str))] h
  have z2 : 2 ≤ sizeLine := by decide
  push_cast [b_law_list]
  refine take_ok hd (by decide) fun r h1 x1 hr => ?_
  push_cast [WpSs]
  refine k_nm3 hn hr fun s hs => ?_
  refine take_ok x1.hand (by decide) fun r2 h2 x2 hr2 => ?_
  push_cast [WpSs]
  exact ⟨z2, q s _ hs _ (x1.trans x2)⟩
theorem term_ok (hn : ns.length = 16) (hd : Hnd a h) (q : ∀ t : TvL.Tm, t.Ok (nN ns) (lN ns) → ∀ h', Hx a h h' → Q t.av h') : callN P (n+3) 159 [.adr a, .lst (ns.map .str)] h Q := by
  refine call_of U.f__law_term rfl ?_
  show WpSs (ctxOf P (callN P (n+2))) b_law_term _ [.val (.adr a), .val (.lst (ns.map .str))] h
  have z4 : 4 ≤ sizeLine := by decide
  push_cast [b_law_term]
  refine take_ok hd (by decide) fun r h1 x1 hr => ?_
  push_cast [WpSs]
  refine ite_b (fun c => ?_) (fun c => ?_)
  · exact plain_ok hn x1.hand fun p hp h2 x2 => q (.pl p) hp _ (x1.trans x2)
  · push_cast [b_law_term_1]
    refine list_ok hn x1.hand fun s o hs h2 x2 => ?_
    refine plain_ok hn x2.hand fun p hp h3 x3 => ?_
    refine ⟨z4, ?_⟩
    refine take_ok x3.hand (by decide) fun r2 h4 x4 hr2 => ?_
    refine k_pick (by show r2 < 4; omega) fun d hd => ?_
    have : ∃ i : Int, d = .int i := by
      simp only [List.mem_cons, List.not_mem_nil, or_false] at hd
      rcases hd with rfl | rfl | rfl | rfl <;> exact ⟨_, rfl⟩
    obtain ⟨i, rfl⟩ := this
    exact ⟨z4, q (.cell s o p i) ⟨hs, hp⟩ _ (((x1.trans x2).trans x3).trans x4)⟩
theorem k_sg {r : Nat} {Q : KA} (hr : r < 6) (q : Q (.str (sgS r))) : subK h (.lst [.str "<", .str "<=", .str ">", .str ">=", .str "==", .str "!="]) (.int (r : Int)) Q := by
  have e : ([.str "<", .str "<=", .str ">", .str ">=", .str "==", .str "!="] : List AV)[r]? = some (.str (sgS r)) := by
    have : r = 0 ∨ r = 1 ∨ r = 2 ∨ r = 3 ∨ r = 4 ∨ r = 5 := by omega
    rcases this with rfl | rfl | rfl | rfl | rfl | rfl <;> rfl
  rw [lT e]
  exact q
theorem cmp_ok (hn : ns.length = 16) (hd : Hnd a h) (q : ∀ c : TvL.Cm, c.Ok (nN ns) (lN ns) → ∀ h', Hx a h h' → Q c.av h') : callN P (n+4) 160 [.adr a, .lst (ns.map .str)] h Q := by
  refine call_of U.f__law_cmp rfl ?_
  show WpSs (ctxOf P (callN P (n+3))) b_law_cmp _ [.val (.adr a), .val (.lst (ns.map .str))] h
  have z4 : 4 ≤ sizeLine := by decide
  have z6 : 6 ≤ sizeLine := by decide
  push_cast [b_law_cmp]
  refine ⟨z6, ?_⟩
  refine take_ok hd (by decide) fun r h1 x1 hr => ?_
  refine k_sg (by omega) ?_
  refine term_ok hn x1.hand fun t ht h2 x2 => ?_
  refine term_ok hn x2.hand fun u hu h3 x3 => ?_
  exact ⟨z4, q ⟨r, t, u⟩ ⟨by show r < 6; omega, ht, hu⟩ _ ((x1.trans x2).trans x3)⟩
theorem promise_ok (hn : ns.length = 16) (hd : Hnd a h) (q : ∀ p : Pr, p.Ok (nN ns) (lN ns) → ∀ h', Hx a h h' → Q p.av h') : callN P (n+5) 161 [.adr a, .lst (ns.map .str)] h Q := by
  refine call_of U.f__law_promise rfl ?_
  show WpSs (ctxOf P (callN P (n+4))) b_law_promise _ [.val (.adr a), .val (.lst (ns.map .str)), .no, .no, .no] h
  have z1 : 1 ≤ sizeLine := by decide
  have z2 : 2 ≤ sizeLine := by decide
  have z3 : 3 ≤ sizeLine := by decide
  have z4 : 4 ≤ sizeLine := by decide
  have z6 : 6 ≤ sizeLine := by decide
  have z7 : 7 ≤ sizeLine := by decide
  push_cast [b_law_promise]
  refine take_ok hd (by decide) fun r h1 x1 hr => ?_
  push_cast [WpSs]
  refine ite_b (fun c => ?_) (fun c => ?_)
  · exact cmp_ok hn x1.hand fun p hp h2 x2 => q (.cmp p) hp _ (x1.trans x2)
  push_cast [b_law_promise_5]
  refine ite_b (fun c => ?_) (fun c => ?_)
  · push_cast [WpSs]
    refine cmp_ok hn x1.hand fun p hp h2 x2 => ?_
    refine cmp_ok hn x2.hand fun p2 hp2 h3 x3 => ?_
    exact ⟨z3, q (.either p p2) ⟨hp, hp2⟩ _ ((x1.trans x2).trans x3)⟩
  push_cast [b_law_promise_4]
  refine ⟨z6, ?_⟩
  refine take_ok x1.hand (by decide) fun sg h2 x2 hsg => ?_
  refine k_sg (by omega) ?_
  push_cast [WpSs]
  refine list_ok (n := n + 2) hn x2.hand fun s o hs h3 x3 => ?_
  refine ⟨z2, ?_⟩
  refine plain_ok (n := n + 2) hn x3.hand fun p hp h4 x4 => ?_
  refine ⟨z2, ?_⟩
  refine take_ok x4.hand (by decide) fun r2 h5 x5 hr2 => ?_
  refine k_pick (by show r2 < 2; omega) fun lo mlo => ?_
  have : ∃ p : Pl, p.Ok (nN ns) (lN ns) ∧ lo = p.av := by
    simp only [List.mem_cons, List.not_mem_nil, or_false] at mlo
    rcases mlo with rfl | rfl
    · exact ⟨.num 0, trivial, rfl⟩
    · exact ⟨p, hp, rfl⟩
  obtain ⟨lo, hlo, rfl⟩ := this
  refine plain_ok (n := n + 2) hn x5.hand fun hi hhi h6 x6 => ?_
  refine ⟨z3, ?_⟩
  have xx := ((((x1.trans x2).trans x3).trans x4).trans x5).trans x6
  have hg : Rg.Ok (nN ns) (lN ns) ⟨s, o, lo, hi⟩ := ⟨hs, hlo, hhi⟩
  push_cast [WpSs]
  refine ite_b (fun c => ?_) (fun c => ?_)
  · push_cast [WpSs]
    refine ⟨z1, z4, ?_⟩
    refine plain_ok (n := n + 2) hn x6.hand fun b hb h7 x7 => ?_
    exact ⟨z2, z6, q (.all ⟨s, o, lo, hi⟩ sg b) ⟨hg, by omega, hb⟩ _ (xx.trans x7)⟩
  push_cast [b_law_promise_3]
  refine ite_b (fun c => ?_) (fun c => ?_)
  · push_cast [WpSs]
    refine ⟨z1, z4, ?_⟩
    refine list_ok (n := n + 2) hn x6.hand fun t u ht h7 x7 => ?_
    refine ⟨z4, ?_⟩
    refine take_ok x7.hand (by decide) fun r3 h8 x8 hr3 => ?_
    refine k_pick (by show r3 < 4; omega) fun d hd => ?_
    have : ∃ i : Int, d = .int i := by
      simp only [List.mem_cons, List.not_mem_nil, or_false] at hd
      rcases hd with rfl | rfl | rfl | rfl <;> exact ⟨_, rfl⟩
    obtain ⟨i, rfl⟩ := this
    exact ⟨z3, z7, q (.mtch ⟨s, o, lo, hi⟩ sg t u i) ⟨hg, by omega, ht⟩ _ ((xx.trans x7).trans x8)⟩
  push_cast [b_law_promise_2]
  refine ite_b (fun c => ?_) (fun c => ?_)
  · push_cast [WpSs]
    exact ⟨z1, z4, q (.sorted ⟨s, o, lo, hi⟩) hg _ xx⟩
  push_cast [b_law_promise_1]
  refine ⟨z1, z4, ?_⟩
  refine list_ok (n := n + 2) hn x6.hand fun t u ht h7 x7 => ?_
  refine plain_ok (n := n + 2) hn x7.hand fun b hb h8 x8 => ?_
  refine plain_ok (n := n + 2) hn x8.hand fun e he h9 x9 => ?_
  exact ⟨z3, z7, q (.below ⟨s, o, lo, hi⟩ ⟨t, u, b, e⟩) ⟨hg, ht, hb, he⟩ _ (((xx.trans x7).trans x8).trans x9)⟩
theorem cond_ok : ∀ (d : Nat) {m a : Nat} {h : AHeap} {Q : AV → AHeap → Prop}, ns.length = 16 → d + 5 ≤ m → Hnd a h → (∀ c f, Cd (nN ns) (lN ns) d c f → ∀ h', Hx a h h' → Q c h') → callN P m 162 [.adr a, .lst (ns.map .str), .int (d : Int)] h Q := by
  intro d
  induction d with
  | zero =>
    intro m a h Q hn hm hd q
    obtain ⟨n, rfl⟩ : ∃ n, m = n + 5 := ⟨m - 5, by omega⟩
    refine call_of U.f__law_condition rfl ?_
    show WpSs (ctxOf P (callN P (n+4))) b_law_condition _ [.val (.adr a), .val (.lst (ns.map .str)), .val (.int 0), .no, .no, .no] h
    push_cast [b_law_condition]
    refine take_ok (n := n + 3) hd (by decide) fun r h1 x1 hr => ?_
    push_cast [decide_true, if_true]
    exact cmp_ok hn x1.hand fun p hp h2 x2 => q _ _ (.pr (.cmp p) hp) _ (x1.trans x2)
  | succ d ih =>
    intro m a h Q hn hm hd q
    obtain ⟨n, rfl⟩ : ∃ n, m = n + 5 := ⟨m - 5, by omega⟩
    refine call_of U.f__law_condition rfl ?_
    show WpSs (ctxOf P (callN P (n+4))) b_law_condition _ [.val (.adr a), .val (.lst (ns.map .str)), .val (.int ((d + 1 : Nat) : Int)), .no, .no, .no] h
    have z2 : 2 ≤ sizeLine := by decide
    have hz : sizeLine = 16777216 := sizeLine_eq
    have d0 : decide (((d + 1 : Nat) : Int) = 0) = false := decide_eq_false (by omega)
    have ed : ((d + 1 : Nat) : Int) - 1 = (d : Int) := by omega
    push_cast [b_law_condition]
    refine take_ok (n := n + 3) hd (by decide) fun r h1 x1 hr => ?_
    push_cast [d0, Bool.false_eq_true, if_false]
    refine ite_b (fun c => ?_) (fun c => ?_)
    · push_cast [WpSs]
      exact cmp_ok hn x1.hand fun p hp h2 x2 => q _ _ (.pr (.cmp p) hp) _ (x1.trans x2)
    push_cast [b_law_condition_2, Bool.false_eq_true, if_false]
    refine ite_b (fun c2 => ?_) (fun c2 => ?_)
    · push_cast [ed]
      refine ih hn (by omega) x1.hand fun c f w h2 x2 => ?_
      exact ⟨z2, q _ _ (.not w) _ (x1.trans x2)⟩
    push_cast [b_law_condition_1]
    refine take_ok (n := n + 3) x1.hand (by decide) fun r2 h2 x2 hr2 => ?_
    push_cast [WpSs]
    refine ⟨by omega, by simp; omega, ?_⟩
    refine comp_inv (fun i acc h' => Hx a h2 h' ∧ ∃ xs : List (AV × (Stt → Bool)), xs.length = i ∧ acc = xs.map (·.1) ∧ ∀ p ∈ xs, Cd (nN ns) (lN ns) d p.1 p.2) ⟨Hx.refl x2.hand, [], rfl, rfl, fun _ z => by cases z⟩ (fun _ _ _ _ _ => by trivial) ?_ ?_
    · rintro i x _ h3 R hx ⟨x3, xs, hl, rfl, w⟩ k1 k2
      push_cast [ed]
      refine ih hn (by omega) x3.hand fun c f wc h4 x4 => ?_
      have em : xs.map (·.1) ++ [c] = (xs ++ [(c, f)]).map (·.1) := by rw [List.map_append]; rfl
      refine k1 _ _ ⟨x3.trans x4, xs ++ [(c, f)], by simp [hl], em, fun p m => ?_⟩
      rcases List.mem_append.mp m with m | m
      · exact w p m
      · rw [List.mem_singleton.mp m]; exact wc
    · rintro _ h3 ⟨x3, xs, hl, rfl, w⟩
      rw [List.length_map, List.length_range] at hl
      have xx := (x1.trans x2).trans x3
      push_cast [WpSs]
      have cs : (r : Int) - 3 = 0 ∨ (r : Int) - 3 = 1 := by omega
      refine ⟨z2, ?_⟩
      rcases cs with e | e
      · rw [e]
        push_cast [lub0, lub1, bltK, viewT_lst]
        exact ⟨z2, q _ _ (.and xs (by omega) w) _ xx⟩
      · rw [e]
        push_cast [lub0, lub1, bltK, viewT_lst]
        exact ⟨z2, q _ _ (.or xs (by omega) w) _ xx⟩
end
end K09

set_option maxRecDepth 100000
set_option maxHeartbeats 4000000
namespace K09
open PySem L2 VL
def P : Prg where
  fns := [(19, Fn.mk 2 8 Hd.b_law_draws), (20, Fn.mk 2 4 Hd.b_law_take), (138, Fn.mk 4 4 Tr.b_State___init__), (139, Fn.mk 2 2 Tr.b_cells_of), (140, Fn.mk 2 4 Tr.b_value_of), (141, Fn.mk 3 3 Tr.b_compared), (142, Fn.mk 2 4 Tr.b_is_true), (143, Fn.mk 4 4 Tr.b_places), (144, Fn.mk 4 6 Tr.b_part_of), (145, Fn.mk 2 2 Tr.b_is_below), (146, Fn.mk 2 13 Tr.b_holds_over_cells), (147, Fn.mk 2 4 Tr.b_truth_of), (148, Fn.mk 1 4 Nm.b_law_names), (149, Fn.mk 3 4 Ev.b_law_compared), (150, Fn.mk 4 6 Ev.b_law_value), (151, Fn.mk 4 6 Ev.b_law_holds), (152, Fn.mk 6 8 Ev.b_law_part), (153, Fn.mk 4 15 Ev.b_law_true), (154, Fn.mk 4 9 Ev.b_law_pairs_true), (155, Fn.mk 4 5 Ev.b_law_truth), (156, Fn.mk 1 2 K09.b_law_some), (157, Fn.mk 2 3 K09.b_law_plain), (158, Fn.mk 2 2 K09.b_law_list), (159, Fn.mk 2 2 K09.b_law_term), (160, Fn.mk 2 2 K09.b_law_cmp), (161, Fn.mk 2 5 K09.b_law_promise), (162, Fn.mk 3 6 K09.b_law_condition), (163, Fn.mk 1 3 K09.b_law_copied), (164, Fn.mk 2 9 K09.b_law_state), (165, Fn.mk 3 9 K09.b_law_answers), (166, Fn.mk 1 9 K09.b_law)]
  glob := []
  gdct := []
  meth := []
  init := [(8, 138)]
  flds := [(8, ("numbers" : Str)), (8, ("lists" : Str)), (8, ("old" : Str))]
  tryf := []
  sub := []
instance : Hd.U P := ⟨rfl, rfl⟩
instance : Tr.U P := ⟨rfl, rfl, rfl, rfl, rfl, rfl, rfl, rfl, rfl, rfl, rfl, rfl, rfl, rfl⟩
instance : Nm.U P := ⟨rfl⟩
instance : Ev.U P := ⟨rfl, rfl, rfl, rfl, rfl, rfl, rfl⟩
instance : K09.U P := ⟨rfl, rfl, rfl, rfl, rfl, rfl, rfl, rfl, rfl, rfl, rfl⟩
end K09

set_option maxRecDepth 100000
set_option maxHeartbeats 400000
namespace K09
open PySem L2 VL Hd TvL Nm
local macro_rules
  | `(tactic| push_cast [$xs,*]) => `(tactic| try simp only [$xs,*, WpSs, WpS, WpE, WpEs, WpBs, WpO, WpN, WpI, WpC, WpT, getS, setS, tgK, setsS, wipeS, k_add, k_addT, k_sub, k_mul, k_fdiv, k_mod, k_neg, k_lt, k_le, k_gt, k_ge, k_eqI, k_neI, k_eqS, k_neS, k_eqB, k_neB, k_is, k_isn, k_isB, k_isnB, k_gIn, ctx_gdct, isNon_non, isNon_int, isNon_str, isNon_lst, isNon_tup, isNon_adr, k_lenS, k_lenL, k_lenR, k_lenT, k_int, k_str, k_abs, tru_bl, augK, ctx_call, ctx_glob, k_in, k_nin, k_inS, k_addS, k_intB, isi_non_int, isi_non_bool, isi_non_str, isi_non_list, isi_non_tuple, isi_bl_int, isi_bl_bool, isi_bl_str, isi_bl_list, isi_bl_tuple, isi_int_int, isi_int_bool, isi_int_str, isi_int_list, isi_int_tuple, isi_str_int, isi_str_bool, isi_str_str, isi_str_list, isi_str_tuple, isi_tup_int, isi_tup_bool, isi_tup_str, isi_tup_list, isi_tup_tuple, isi_lst_int, isi_lst_bool, isi_lst_str, isi_lst_list, isi_lst_tuple, isi_ro_int, isi_ro_bool, isi_ro_str, isi_ro_list, isi_ro_tuple])
/-- a state that was drawn -/
structure Sd (ns : List Str) (st : Stt) : Prop where
  k : st.Ok (nN ns) (lN ns)
  n : Nk st.nu
  l : Nk st.li
  o : Nk st.ol
  ll : st.li.length ≤ 100
  lo : st.ol.length ≤ 100
section
variable {P : Prg} [Hd.U P] [Tr.U P] [Nm.U P] [Ev.U P] [U P] {n a : Nat} {h : AHeap} {Q : AV → AHeap → Prop} {ns : List Str}
theorem copied_ok {l : List (Str × List Int)} (nk : Nk l) (hl : l.length ≤ 100) (q : Q (.dct (dL l)) h) : callN P (n+1) 163 [.dct (dL l)] h Q := by
  refine call_of U.f__law_copied rfl ?_
  show WpSs (ctxOf P (callN P n)) b_law_copied _ [.val (.dct (dL l)), .no, .no] h
  have hz : sizeLine = 16777216 := sizeLine_eq
  have ek : ((dL l).map fun kv => keyA kv.1) = l.map fun p => AV.str p.1 := by unfold dL; rw [List.map_map]; rfl
  push_cast [b_law_copied, ek]
  refine for_inv (fun i ρ h' => h' = h ∧ ∃ s2, ρ = [.val (.dct (dL l)), .own (.dct (dL (l.take i))), s2]) ⟨rfl, _, rfl⟩ (fun _ _ _ _ _ => by trivial) ?_ ?_
  · rintro i x _ h D' hx ⟨rfl, s2, rfl⟩ k1 k2 k3 k4
    obtain ⟨p, hp, rfl⟩ := items_map hx
    have hi := (List.getElem?_eq_some_iff.mp hp).1
    have ep := (List.getElem?_eq_some_iff.mp hp).2
    have lk := nk_look nk (p := p) (List.mem_of_getElem? hp)
    have pk : keyOf (.str p.1) = some (.inr p.1) := rfl
    have tl : (dL (l.take i)).length < 100000 := by unfold dL; rw [List.length_map, List.length_take]; omega
    push_cast [b_law_copied_1, subL lk, viewT_lst, putC, pk, put_L]
    refine ⟨tl, ?_⟩
    have := upd_take nk hi
    rw [ep] at this
    rw [this]
    exact k1 _ _ ⟨rfl, _, rfl⟩
  · rintro _ h ⟨rfl, s2, rfl⟩
    rw [List.length_map, List.take_length]
    push_cast [b_law_copied_2]
    exact q
theorem ok_upd {l : List (Str × Int)} {s t : Str} {i : Int} (h : ∃ i, l.lookup s = some i) : ∃ j, (upd l t i).lookup s = some j := by
  rw [upd_look]
  split
  · exact ⟨_, rfl⟩
  · exact h
theorem okL_upd {l : List (Str × List Int)} {s t : Str} {x : List Int} (hx : x.length ≤ 10) (h : ∃ y, l.lookup s = some y ∧ y.length ≤ 10) : ∃ y, (upd l t x).lookup s = some y ∧ y.length ≤ 10 := by
  rw [upd_look]
  split
  · exact ⟨_, rfl, hx⟩
  · exact h
theorem at_upd {α : Type} {l : List (Str × α)} {s : Str} {x : α} : (upd l s x).lookup s = some x := by rw [upd_look, if_pos rfl]
/-- lists under way -/
structure Lu (ns : List Str) (i : Nat) (l : List (Str × List Int)) : Prop where
  n : Nk l
  ln : l.length ≤ 4 * i
  k : ∀ j, j < i → ∃ y, l.lookup (nm ns (3 + j)) = some y ∧ y.length ≤ 10
theorem Lu.put {i : Nat} {l : List (Str × List Int)} (u : Lu ns i l) {x : List Int} (hx : x.length ≤ 10) : Lu ns (i + 1) (upd l (nm ns (3 + i)) x) ∧ (upd l (nm ns (3 + i)) x).length ≤ 4 * i + 1 := by
  have := upd_len l (nm ns (3 + i)) x
  have := u.ln
  refine ⟨⟨upd_nk u.n _ x, by omega, fun j hj => ?_⟩, by omega⟩
  by_cases c : j = i
  · subst c
    exact ⟨x, at_upd, hx⟩
  · exact okL_upd hx (u.k j (by omega))
theorem Lu.put2 {i : Nat} {l : List (Str × List Int)} (u : Lu ns (i + 1) l) (h1 : l.length ≤ 4 * i + 1) {s : Str} {x : List Int} (hx : x.length ≤ 10) : Lu ns (i + 1) (upd l s x) := by
  have := upd_len l s x
  exact ⟨upd_nk u.n _ x, by omega, fun j hj => okL_upd hx (u.k j hj)⟩
theorem k_nmi {i : Nat} {Q : KA} (hn : ns.length = 16) (hi : i < 3) (q : Q (.str (nm ns (3 + i)))) : subK h (.lst (ns.map .str)) (.int (3 + (i : Int))) Q := by
  have e : (3 + (i : Int)) = ((3 + i : Nat) : Int) := by omega
  rw [e]
  exact k_nm hn (by omega) q
theorem somes_ok {r : Nat} (hd : Hnd a h) {Q : List AV → AHeap → Prop} (q : ∀ l : List Int, l.length = r → ∀ h', Hx a h h' → Q (l.map .int) h') :
    compL (fun x h2 R => if True then callN P (n + 2) 156 [.adr a] h2 fun y h4 => R (some y) h4 else R none h2) (fun _ => True) ((List.range (r : Int).toNat).map fun (k : Nat) => .int (k : Int)) [] h Q := by
  refine comp_inv (fun i acc h' => Hx a h h' ∧ ∃ l : List Int, l.length = i ∧ acc = l.map .int) ⟨Hx.refl hd, [], rfl, rfl⟩ (fun _ _ _ _ _ => by trivial) ?_ ?_
  · rintro i x _ h1 R hx ⟨x1, l, hl, rfl⟩ k1 k2
    rw [if_pos trivial]
    refine some_ok (n := n) x1.hand fun v h2 x2 => ?_
    have em : l.map AV.int ++ [.int v] = (l ++ [v]).map .int := by rw [List.map_append]; rfl
    exact k1 _ _ ⟨x1.trans x2, l ++ [v], by simp [hl], em⟩
  · rintro _ h1 ⟨x1, l, hl, rfl⟩
    rw [List.length_map, List.length_range] at hl
    exact q l (by omega) _ x1
theorem ints_ok {l : List Int} {Q : List AV → AHeap → Prop} (q : Q (l.map .int) h) :
    compL (fun x h2 R => if True then bltK h2 Blt.int [x] fun z => R (some z) h2 else R none h2) (fun _ => True) (l.map .int) [] h Q := by
  refine comp_inv (fun i acc h' => h' = h ∧ acc = (l.take i).map .int) ⟨rfl, rfl⟩ (fun _ _ _ _ _ => by trivial) ?_ ?_
  · rintro i x _ h R hx ⟨rfl, rfl⟩ k1 k2
    obtain ⟨v, hv, rfl⟩ := items_map hx
    rw [if_pos trivial, k_int]
    refine k1 _ _ ⟨rfl, ?_⟩
    rw [List.take_succ, hv, List.map_append]; rfl
  · rintro _ h ⟨rfl, rfl⟩
    rw [List.length_map, List.take_length]
    exact q
theorem state_ok (hn : ns.length = 16) (hd : Hnd a h) (q : ∀ st : Stt, Sd ns st → ∀ h', Hx a h h' → Q (.lst [.dct (dN st.nu), .dct (dL st.li), .dct (dL st.ol)]) h') : callN P (n+3) 164 [.adr a, .lst (ns.map .str)] h Q := by
  refine call_of U.f__law_state rfl ?_
  show WpSs (ctxOf P (callN P (n+2))) b_law_state _ [.val (.adr a), .val (.lst (ns.map .str)), .no, .no, .no, .no, .no, .no, .no] h
  have hz : sizeLine = 16777216 := sizeLine_eq
  push_cast [b_law_state]
  refine k_nm (i := 0) hn (by decide) ?_
  refine k_nm (i := 1) hn (by decide) ?_
  push_cast [viewT_lst]
  refine ⟨(show 3 ≤ sizeLine by decide), ?_⟩
  refine for_inv (fun i ρ h' => Hx a h h' ∧ ∃ (nu : List (Str × Int)) (s3 : VL.Slot), ρ = [.val (.adr a), .val (.lst (ns.map .str)), .own (.dct (dN nu)), s3, .no, .no, .no, .no, .no] ∧ Nk nu ∧ nu.length ≤ i ∧ ∀ s ∈ (nN ns).take i, ∃ j, nu.lookup s = some j) ⟨Hx.refl hd, [], _, rfl, nk_nil, Nat.le_refl _, fun s z => by cases z⟩ (fun _ _ _ _ _ => by trivial) ?_ ?_
  · rintro i x _ h1 D' hx ⟨x1, nu, s3, rfl, nk, hl, hk⟩ k1 k2 k3 k4
    have hi := (List.getElem?_eq_some_iff.mp hx).1
    have hi : i < 3 := hi
    have : x = .str ((nN ns)[i]?.getD "") := by
      have : i = 0 ∨ i = 1 ∨ i = 2 := by omega
      rcases this with rfl | rfl | rfl <;> (cases hx; rfl)
    subst this
    generalize es : (nN ns)[i]?.getD "" = s at *
    have pk : keyOf (.str s) = some (.inr s) := rfl
    have tl : (dN nu).length < 100000 := by unfold dN; rw [List.length_map]; omega
    push_cast [b_law_state_1]
    refine some_ok (n := n) x1.hand fun v h2 x2 => ?_
    push_cast [putC, pk, put_N]
    refine ⟨tl, ?_⟩
    have ul := upd_len nu s v
    refine k1 _ _ ⟨x1.trans x2, _, _, rfl, upd_nk nk s v, by omega, fun t ht => ?_⟩
    have l3 : (nN ns).length = 3 := rfl
    rw [List.take_succ, List.getElem?_eq_getElem (by omega)] at ht
    rw [List.getElem?_eq_getElem (by omega)] at es
    rcases List.mem_append.mp ht with m | m
    · exact ok_upd (hk t m)
    · have : t = s := by rw [← es]; simpa using m
      subst this
      exact ⟨v, at_upd⟩
  · rintro _ h1 ⟨x1, nu, s3, rfl, nk, hl, hk⟩
    have hk : ∀ s ∈ nN ns, ∃ j, nu.lookup s = some j := hk
    push_cast [b_law_state_5]
    refine ⟨⟨by decide, by decide⟩, ?_⟩
    refine for_inv (fun i ρ h' => Hx a h h' ∧ ∃ (li ol : List (Str × List Int)) (s6 s7 s8 : VL.Slot), ρ = [.val (.adr a), .val (.lst (ns.map .str)), .own (.dct (dN nu)), s3, .own (.dct (dL li)), .own (.dct (dL ol)), s6, s7, s8] ∧ Lu ns i li ∧ Lu ns i ol) ⟨x1, [], [], _, _, _, rfl, ⟨nk_nil, by simp, fun j z => by omega⟩, ⟨nk_nil, by simp, fun j z => by omega⟩⟩ (fun _ _ _ _ _ => by trivial) ?_ ?_
    · rintro i x _ h2 D' hx ⟨x2, li, ol, s6, s7, s8, rfl, ul, uo⟩ k1 k2 k3 k4
      obtain ⟨hi, rfl⟩ := items_range hx
      have hi : i < 3 := by simpa using hi
      push_cast [b_law_state_3]
      refine take_ok (n := n + 1) x2.hand (by decide) fun r h3 x3 hr => ?_
      push_cast [WpSs]
      refine ⟨⟨by omega, by omega⟩, ?_⟩
      have pk : keyOf (.str (nm ns (3 + i))) = some (.inr (nm ns (3 + i))) := rfl
      have dl : ∀ l : List (Str × List Int), l.length ≤ 100 → (dL l).length < 100000 := fun l hl => by unfold dL; rw [List.length_map]; omega
      have l1 := ul.ln
      have l2 := uo.ln
      have rest : ∀ (li : List (Str × List Int)) (y : List Int) (s8 : VL.Slot) (h4 : AHeap), Hx a h h4 → Lu ns (i + 1) li → li.lookup (nm ns (3 + i)) = some y → y.length ≤ 10 → WpSs (ctxOf P (callN P (n + 2))) b_law_state_2 D' [.val (.adr a), .val (.lst (ns.map .str)), .own (.dct (dN nu)), s3, .own (.dct (dL li)), .own (.dct (dL ol)), .val (.int (i : Int)), .val (.int (r : Int)), s8] h4 := by
        intro li y s8 h4 x4 ul ly hy
        push_cast [b_law_state_2]
        refine ⟨⟨by omega, by omega⟩, by simp; omega, ?_⟩
        refine somes_ok x4.hand fun l hl h5 x5 => ?_
        refine k_nmi hn hi ?_
        obtain ⟨u1, u2⟩ := uo.put (x := l) (by omega)
        push_cast [putC, pk, put_L]
        refine ⟨dl _ (by omega), ?_⟩
        refine take_ok (n := n + 1) x5.hand (by decide) fun r2 h6 x6 hr2 => ?_
        push_cast [WpSs]
        refine ite_b (fun c => ?_) (fun c => ?_)
        · refine k_nmi hn hi ?_
          push_cast [subL ly, viewT_lst]
          refine k_nmi hn hi ?_
          push_cast [pk, put_L]
          refine ⟨dl _ (by omega), ?_⟩
          exact k1 _ _ ⟨(x4.trans x5).trans x6, _, _, _, _, _, rfl, ul, u1.put2 u2 hy⟩
        · exact k1 _ _ ⟨(x4.trans x5).trans x6, _, _, _, _, _, rfl, ul, u1⟩
      refine ⟨by simp; omega, ?_⟩
      refine somes_ok x3.hand fun l hl h4 x4 => ?_
      refine k_nmi hn hi ?_
      obtain ⟨u1, u2⟩ := ul.put (x := l) (by omega)
      push_cast [putC, pk, put_L]
      refine ⟨dl _ (by omega), ?_⟩
      refine take_ok (n := n + 1) x4.hand (by decide) fun r2 h5 x5 hr2 => ?_
      have xx := ((x2.trans x3).trans x4).trans x5
      push_cast [WpSs]
      refine ite_b (fun c => ?_) (fun c => rest _ l _ _ xx u1 at_upd (by omega))
      refine k_nmi hn hi ?_
      push_cast [subL at_upd, viewT_lst]
      refine ⟨by simp; omega, ?_⟩
      refine ints_ok ?_
      push_cast [view_lst, Option.bind_some, asInts_map]
      intro ns' pm _
      have pl := pm.length_eq
      refine k_nmi hn hi ?_
      push_cast [putC, pk, put_L]
      refine ⟨dl _ (by omega), ?_⟩
      exact rest _ ns' _ _ xx (u1.put2 u2 (by omega)) at_upd (by omega)
    · rintro _ h2 ⟨x2, li, ol, s6, s7, s8, rfl, ul, uo⟩
      push_cast [b_law_state_4]
      refine ⟨(show 3 ≤ sizeLine by decide), q ⟨nu, li, ol⟩ ⟨⟨hk, ?_⟩, nk, ul.n, uo.n, ?_, ?_⟩ _ x2⟩
      · have e3 : ((List.range (Int.toNat 3)).map fun (k : Nat) => AV.int (k : Int)).length = 3 := rfl
        have kl := ul.k
        have ko := uo.k
        rw [e3] at kl ko
        have g : ∀ s ∈ lN ns, ∃ j, j < 3 ∧ s = nm ns (3 + j) := fun s m => by
          unfold lN at m
          simp only [List.mem_cons, List.not_mem_nil, or_false] at m
          rcases m with rfl | rfl | rfl
          · exact ⟨0, by decide, rfl⟩
          · exact ⟨1, by decide, rfl⟩
          · exact ⟨2, by decide, rfl⟩
        intro o s m
        obtain ⟨j, hj, rfl⟩ := g s m
        cases o with
        | true => exact ko j hj
        | false => exact kl j hj
      · have := ul.ln; simp at this; show li.length ≤ 100; omega
      · have := uo.ln; simp at this; show ol.length ≤ 100; omega
theorem oI_cases (t : Option Int) : (t = none ∧ Tr.oI t = .non ∧ Ev.oI t = .non) ∨ ∃ v, t = some v ∧ Tr.oI t = .int v ∧ Ev.oI t = .int v := by
  cases t with
  | none => exact .inl ⟨rfl, rfl, rfl⟩
  | some v => exact .inr ⟨v, rfl, rfl, rfl⟩
theorem answers_ok {s A B : Nat} {st : Stt} {ts : List TvL.Tm} {cs : List (AV × (Stt → Bool))} (hm : n ≥ 10) (e : cells h s = Tr.stO st) (k : st.Ok (nN ns) (lN ns)) (eA : cells h A = .lst (ts.map TvL.Tm.av)) (eB : cells h B = .lst (cs.map (·.1))) (hA : ∀ t ∈ ts, t.Ok (nN ns) (lN ns)) (hB : ∀ c ∈ cs, Cd (nN ns) (lN ns) 3 c.1 c.2) (q : Q (.bl true) h) : callN P (n+1) 165 [.adr s, .lst [.adr A, .adr B], .lst [.dct (dN st.nu), .dct (dL st.li), .dct (dL st.ol)]] h Q := by
  obtain ⟨m, rfl⟩ : ∃ m, n = m + 10 := ⟨n - 10, by omega⟩
  refine call_of U.f__law_answers rfl ?_
  show WpSs (ctxOf P (callN P (m+10))) b_law_answers _ [.val (.adr s), .val (.lst [.adr A, .adr B]), .val (.lst [.dct (dN st.nu), .dct (dL st.li), .dct (dL st.ol)]), .no, .no, .no, .no, .no, .no] h
  have vA := view_adr eA
  have vB := view_adr eB
  push_cast [b_law_answers, vA]
  refine for_inv (fun i ρ h' => h' = h ∧ ∃ s5 s6 s7, ρ = [.val (.adr s), .val (.lst [.adr A, .adr B]), .val (.lst [.dct (dN st.nu), .dct (dL st.li), .dct (dL st.ol)]), .val (.adr A), .val (.adr B), s5, s6, s7, .no]) ⟨rfl, _, _, _, rfl⟩ (fun _ _ _ _ z => by rw [z.1]; exact vA) ?_ ?_
  · rintro i x _ h D' hx ⟨rfl, s5, s6, s7, rfl⟩ k1 k2 k3 k4
    obtain ⟨t, ht, rfl⟩ := items_map hx
    have ok := hA t (List.mem_of_getElem? ht)
    push_cast [b_law_answers_2, lub0, lub1, lub2]
    refine Ev.lvalue_ok (n := m + 8) k ok ?_
    refine Tr.value_of_ok (n := m + 8) e k ok ?_
    rcases oI_cases (t.v st) with ⟨_, e1, e2⟩ | ⟨v, _, e1, e2⟩
    · rw [e1, e2]
      push_cast [b_law_answers_1, if_true, Bool.false_eq_true, if_false, Bool.not_true]
      exact k1 _ _ ⟨rfl, _, _, _, rfl⟩
    · rw [e1, e2]
      push_cast [b_law_answers_1, if_true, Bool.false_eq_true, if_false, Bool.not_true, Bool.not_false, decide_true]
      exact k1 _ _ ⟨rfl, _, _, _, rfl⟩
  · rintro _ h ⟨rfl, s5, s6, s7, rfl⟩
    push_cast [b_law_answers_5, vB]
    refine for_inv (fun i ρ h' => h' = h ∧ ∃ s5 s6 s7 s8, ρ = [.val (.adr s), .val (.lst [.adr A, .adr B]), .val (.lst [.dct (dN st.nu), .dct (dL st.li), .dct (dL st.ol)]), .val (.adr A), .val (.adr B), s5, s6, s7, s8]) ⟨rfl, _, _, _, _, rfl⟩ (fun _ _ _ _ z => by rw [z.1]; exact vB) ?_ ?_
    · rintro i x _ h D' hx ⟨rfl, s5, s6, s7, s8, rfl⟩ k1 k2 k3 k4
      obtain ⟨c, hc, rfl⟩ := items_map hx
      have ok := hB c (List.mem_of_getElem? hc)
      push_cast [b_law_answers_3, lub0, lub1, lub2]
      refine Tr.truth_ok (m := m + 10) ok (by omega) e k ?_
      push_cast [Bool.not_true, Bool.false_eq_true, if_false]
      refine Ev.ltruth_ok (m := m + 10) ok (by omega) k ?_
      push_cast [Bool.not_true, Bool.false_eq_true, if_false, decide_true]
      exact k1 _ _ ⟨rfl, _, _, _, _, rfl⟩
    · rintro _ h ⟨rfl, s5, s6, s7, s8, rfl⟩
      push_cast [b_law_answers_4]
      exact q
end
end K09

set_option maxRecDepth 100000
set_option maxHeartbeats 400000
namespace K09
open PySem L2 VL Hd TvL Nm
local macro_rules
  | `(tactic| push_cast [$xs,*]) => `(tactic| try simp only [$xs,*, WpSs, WpS, WpE, WpEs, WpBs, WpO, WpN, WpI, WpC, WpT, getS, setS, tgK, setsS, wipeS, k_add, k_addT, k_sub, k_mul, k_fdiv, k_mod, k_neg, k_lt, k_le, k_gt, k_ge, k_eqI, k_neI, k_eqS, k_neS, k_eqB, k_neB, k_is, k_isn, k_isB, k_isnB, k_gIn, ctx_gdct, isNon_non, isNon_int, isNon_str, isNon_lst, isNon_tup, isNon_adr, k_lenS, k_lenL, k_lenR, k_lenT, k_int, k_str, k_abs, tru_bl, augK, ctx_call, ctx_glob, k_in, k_nin, k_inS, k_addS, k_intB, isi_non_int, isi_non_bool, isi_non_str, isi_non_list, isi_non_tuple, isi_bl_int, isi_bl_bool, isi_bl_str, isi_bl_list, isi_bl_tuple, isi_int_int, isi_int_bool, isi_int_str, isi_int_list, isi_int_tuple, isi_str_int, isi_str_bool, isi_str_str, isi_str_list, isi_str_tuple, isi_tup_int, isi_tup_bool, isi_tup_str, isi_tup_list, isi_tup_tuple, isi_lst_int, isi_lst_bool, isi_lst_str, isi_lst_list, isi_lst_tuple, isi_ro_int, isi_ro_bool, isi_ro_str, isi_ro_list, isi_ro_tuple])
section
variable {n a : Nat} {h : AHeap} {Q : AV → AHeap → Prop} {ns : List Str}
theorem k_neD {xs ys : List (Key × AV)} {Q : KA} : cmpK h .NotEq (.dct xs) (.dct ys) Q = (dEq xs ys ∧ Q (.bl false)) := rfl
theorem k_eqD {xs ys : List (Key × AV)} {Q : KA} : cmpK h .Eq (.dct xs) (.dct ys) Q = (dEq xs ys ∧ Q (.bl true)) := rfl
theorem putFA_le (f : Str) (d : AV) : ∀ fs : List (Str × AV), (putFA f d fs).length ≤ fs.length + 1
  | [] => by simp [putFA]
  | (g, u) :: r => by
    have := putFA_le f d r
    unfold putFA
    split
    · simp
    · simp only [List.length_cons]; omega
theorem ctx_init {n : Nat} : (ctxOf P (callN P n)).init 8 = some 138 := rfl
theorem init_ok {st : Stt} (q : Q .non (h ++ [Tr.stO st])) : callN P (n+1) 138 [.adr h.length, .dct (dN st.nu), .dct (dL st.li), .dct (dL st.ol)] (h ++ [.obj 8 []]) Q := by
  refine call_of Tr.U.f_State___init__ rfl ?_
  show WpSs (ctxOf P (callN P n)) Tr.b_State___init__ _ [.val (.adr h.length), .val (.dct (dN st.nu)), .val (.dct (dL st.li)), .val (.dct (dL st.ol))] _
  push_cast [Tr.b_State___init__, Hd.cells_last, Hd.set_last]
  refine ⟨Tr.fN, by decide, ?_⟩
  push_cast [Hd.cells_last, Hd.set_last]
  have p1 := putFA_le "numbers" (.dct (dN st.nu)) []
  have p2 := putFA_le "lists" (.dct (dL st.li)) (putFA "numbers" (.dct (dN st.nu)) [])
  simp only [List.length_nil] at p1
  refine ⟨Tr.fL, by omega, ?_⟩
  push_cast [Hd.cells_last, Hd.set_last]
  exact ⟨Tr.fO, by omega, q⟩
theorem law_pure : ∀ ns : List Int, ns.length ≤ 63 → callN P 20 166 [.ro (ns.map AV.int)] [] fun d _ => d = .bl true := by
  intro ns hns
  refine call_of U.f_law rfl ?_
  show WpSs (ctxOf P (callN P 19)) b_law _ [.val (.ro (ns.map AV.int)), .no, .no, .no, .no, .no, .no, .no, .no] []
  have hz : sizeLine = 16777216 := sizeLine_eq
  have z2 : 2 ≤ sizeLine := by decide
  have z3 : 3 ≤ sizeLine := by decide
  push_cast [b_law]
  refine draws_ok (n := 18) (m := 400) hns (by decide) fun ds hds => ?_
  refine ⟨z2, ?_⟩
  have hd : Hnd 0 ([] ++ [.lst [.lst (ds.map AV.int), .int 0]]) := ⟨ds, 0, rfl⟩
  push_cast [List.length_nil]
  generalize ([] ++ [.lst [.lst (ds.map AV.int), .int 0]] : AHeap) = h0 at hd ⊢
  refine names_ok (n := 17) hd fun nms hn h1 x1 => ?_
  push_cast [WpSs]
  refine state_ok (n := 16) hn x1.hand fun st sd h2 x2 => ?_
  push_cast [lub0, lub1, lub2, viewD]
  refine copied_ok (n := 18) sd.l sd.ll ?_
  push_cast [lub0, lub1, lub2]
  refine copied_ok (n := 18) sd.o sd.lo ?_
  refine ⟨z3, ?_⟩
  push_cast [ctx_init]
  refine init_ok (n := 18) ?_
  have e3 := Hd.cells_last h2 (Tr.stO st)
  have x3 := Hx.app x2.hand [Tr.stO st]
  have s0 : h2.length ≠ 0 := by have := x2.hand.lt; omega
  generalize h2.length = S at e3 s0 ⊢
  generalize h2 ++ [Tr.stO st] = h3 at e3 x3 ⊢
  have sl : S < h3.length := Hd.cells_pos e3 (fun z => by unfold Tr.stO at z; cases z)
  have k1 := sd.k
  refine ⟨by decide, by decide, ?_⟩
  -- the terms
  refine comp_inv (fun i acc h' => Hx 0 h3 h' ∧ ∃ ts : List TvL.Tm, ts.length = i ∧ acc = ts.map TvL.Tm.av ∧ ∀ t ∈ ts, t.Ok (nN nms) (lN nms)) ⟨Hx.refl x3.hand, [], rfl, rfl, fun _ z => by cases z⟩ (fun _ _ _ _ _ => by trivial) ?_ ?_
  · rintro i x _ h4 R hx ⟨x4, ts, hl, rfl, ok⟩ k1 k2
    rw [if_pos trivial]
    refine term_ok (n := 16) hn x4.hand fun t ht h5 x5 => ?_
    have em : ts.map TvL.Tm.av ++ [t.av] = (ts ++ [t]).map TvL.Tm.av := by rw [List.map_append]; rfl
    refine k1 _ _ ⟨x4.trans x5, ts ++ [t], by simp [hl], em, fun u m => ?_⟩
    rcases List.mem_append.mp m with m | m
    · exact ok u m
    · rw [List.mem_singleton.mp m]; exact ht
  rintro _ h4 ⟨x4, ts, tl, rfl, hA⟩
  have e4 := (x4.keep S sl s0).trans e3
  have sl4 : S < h4.length := Nat.lt_of_lt_of_le sl x4.len
  have x5 := Hx.app x4.hand [.lst (ts.map TvL.Tm.av)]
  have e5 := (x5.keep S sl4 s0).trans e4
  have eA5 := Hd.cells_last h4 (.lst (ts.map TvL.Tm.av))
  have a0 : h4.length ≠ 0 := by have := x4.hand.lt; omega
  have sA : S ≠ h4.length := by omega
  generalize h4.length = A at eA5 a0 sA ⊢
  generalize h4 ++ [.lst (ts.map TvL.Tm.av)] = h5 at e5 eA5 x5 ⊢
  have sl5 : S < h5.length := Hd.cells_pos e5 (fun z => by unfold Tr.stO at z; cases z)
  have al5 : A < h5.length := Hd.cells_pos eA5 (fun z => by cases z)
  refine ⟨by decide, by decide, ?_⟩
  -- the promises
  refine comp_inv (fun i acc h' => Hx 0 h5 h' ∧ ∃ cs : List (AV × (Stt → Bool)), cs.length = i ∧ acc = cs.map (·.1) ∧ ∀ c ∈ cs, Cd (nN nms) (lN nms) 3 c.1 c.2) ⟨Hx.refl x5.hand, [], rfl, rfl, fun _ z => by cases z⟩ (fun _ _ _ _ _ => by trivial) ?_ ?_
  · rintro i x _ h6 R hx ⟨x6, cs, hl, rfl, ok⟩ k1 k2
    rw [if_pos trivial]
    refine promise_ok (n := 14) hn x6.hand fun p hp h7 x7 => ?_
    have em : cs.map (·.1) ++ [p.av] = (cs ++ [(p.av, fun st => p.v st)]).map (·.1) := by rw [List.map_append]; rfl
    refine k1 _ _ ⟨x6.trans x7, cs ++ [(p.av, fun st => p.v st)], by simp [hl], em, fun u m => ?_⟩
    rcases List.mem_append.mp m with m | m
    · exact ok u m
    · rw [List.mem_singleton.mp m]; exact .pr p hp
  rintro _ h6 ⟨x6, cs, cl, rfl, hB⟩
  rw [List.length_map, List.length_range] at cl
  have e6 := (x6.keep S sl5 s0).trans e5
  have eA6 := (x6.keep A al5 a0).trans eA5
  have sl6 : S < h6.length := Nat.lt_of_lt_of_le sl5 x6.len
  have al6 : A < h6.length := Nat.lt_of_lt_of_le al5 x6.len
  have x7 := Hx.app x6.hand [.lst (cs.map (·.1))]
  have e7 := (x7.keep S sl6 s0).trans e6
  have eA7 := (x7.keep A al6 a0).trans eA6
  have eB7 := Hd.cells_last h6 (.lst (cs.map (·.1)))
  have b0 : h6.length ≠ 0 := by omega
  have sB : S ≠ h6.length := by omega
  have aB : A ≠ h6.length := by omega
  generalize h6.length = B at eB7 b0 sB aB ⊢
  generalize h6 ++ [.lst (cs.map (·.1))] = h7 at e7 eA7 eB7 x7 ⊢
  have sl7 : S < h7.length := Hd.cells_pos e7 (fun z => by unfold Tr.stO at z; cases z)
  have al7 : A < h7.length := Hd.cells_pos eA7 (fun z => by cases z)
  have bl7 : B < h7.length := Hd.cells_pos eB7 (fun z => by cases z)
  refine ⟨z2, ?_⟩
  push_cast [lub0, lub1, lub2, eB7]
  -- the condition
  refine cond_ok (m := 19) 3 hn (by decide) x7.hand fun c f wc h8 x8 => ?_
  have e8 := (x8.keep S sl7 s0).trans e7
  have eA8 := (x8.keep A al7 a0).trans eA7
  have eB8 := (x8.keep B bl7 b0).trans eB7
  have em : cs.map (·.1) ++ [c] = (cs ++ [(c, f)]).map (·.1) := by rw [List.map_append]; rfl
  have hB' : ∀ d ∈ cs ++ [(c, f)], Cd (nN nms) (lN nms) 3 d.1 d.2 := fun u m => by
    rcases List.mem_append.mp m with m | m
    · exact hB u m
    · rw [List.mem_singleton.mp m]; exact wc
  push_cast [eB8, appC, em]
  refine ⟨by simp; omega, ?_⟩
  have bl8 : B < h8.length := Hd.cells_pos eB8 (fun z => by cases z)
  have e9 : cells (h8.set B (.lst ((cs ++ [(c, f)]).map (·.1)))) S = Tr.stO st := (Hd.cells_put (Ne.symm sB)).trans e8
  have eA9 : cells (h8.set B (.lst ((cs ++ [(c, f)]).map (·.1)))) A = .lst (ts.map TvL.Tm.av) := (Hd.cells_put (Ne.symm aB)).trans eA8
  have eB9 : cells (h8.set B (.lst ((cs ++ [(c, f)]).map (·.1)))) B = .lst ((cs ++ [(c, f)]).map (·.1)) := Hd.cells_set bl8
  have hd9 : Hnd 0 (h8.set B (.lst ((cs ++ [(c, f)]).map (·.1)))) := by
    obtain ⟨ds, k, e⟩ := x8.hand
    exact ⟨ds, k, (Hd.cells_put b0).trans e⟩
  generalize h8.set B (.lst ((cs ++ [(c, f)]).map (·.1))) = h9 at e9 eA9 eB9 hd9 ⊢
  generalize cs ++ [(c, f)] = cs at eB9 hB' ⊢
  refine answers_ok (n := 18) (by decide) e9 k1 eA9 eB9 hA hB' ?_
  push_cast [Bool.not_true, Bool.false_eq_true, if_false, b_law_3]
  -- another state
  refine state_ok (n := 16) hn hd9 fun st2 sd2 h10 x10 => ?_
  have sl9 : S < h9.length := Hd.cells_pos e9 (fun z => by unfold Tr.stO at z; cases z)
  have al9 : A < h9.length := Hd.cells_pos eA9 (fun z => by cases z)
  have bl9 : B < h9.length := Hd.cells_pos eB9 (fun z => by cases z)
  have e10 := (x10.keep S sl9 s0).trans e9
  have eA10 := (x10.keep A al9 a0).trans eA9
  have eB10 := (x10.keep B bl9 b0).trans eB9
  push_cast [lub0, lub1, lub2, ctx_init]
  refine init_ok (n := 18) ?_
  have x11 := Hx.app x10.hand [Tr.stO st2]
  have e11 := (x11.keep S (Nat.lt_of_lt_of_le sl9 x10.len) s0).trans e10
  have eA11 := (x11.keep A (Nat.lt_of_lt_of_le al9 x10.len) a0).trans eA10
  have eB11 := (x11.keep B (Nat.lt_of_lt_of_le bl9 x10.len) b0).trans eB10
  have f11 := Hd.cells_last h10 (Tr.stO st2)
  generalize h10.length = S2 at f11 ⊢
  generalize h10 ++ [Tr.stO st2] = h11 at e11 eA11 eB11 f11 ⊢
  push_cast [WpSs]
  refine answers_ok (n := 18) (by decide) f11 sd2.k eA11 eB11 hA hB' ?_
  have dn := dEq_N sd.n
  have dl := dEq_L sd.l
  have dc := dEq_L sd.o
  push_cast [Bool.not_true, Bool.false_eq_true, if_false, b_law_2, lub0, lub1, lub2, k_neD]
  refine ⟨dn, dl, dc, ?_⟩
  have e11' : cells h11 S = .obj 8 [("numbers", .dct (dN st.nu)), ("lists", .dct (dL st.li)), ("old", .dct (dL st.ol))] := e11
  push_cast [b_law_1, e11', Tr.lk1, Tr.lk2, Tr.lk3, lub0, lub1, lub2, k_eqD, if_true]
  refine ⟨Tr.fN, dn, Tr.fL, dl, Tr.fO, dc, ?_⟩
  exact answers_ok (n := 18) (by decide) e11 k1 eA11 eB11 hA hB' rfl
end
end K09

set_option maxRecDepth 100000
set_option maxHeartbeats 4000000
namespace K09
open PySem L2 VL
def T : Tab where
  fname := fun f => ([(19, ("_law_draws" : Str)), (20, ("_law_take" : Str)), (139, ("cells_of" : Str)), (140, ("value_of" : Str)), (141, ("compared" : Str)), (142, ("is_true" : Str)), (143, ("places" : Str)), (144, ("part_of" : Str)), (145, ("is_below" : Str)), (146, ("holds_over_cells" : Str)), (147, ("truth_of" : Str)), (148, ("_law_names" : Str)), (149, ("_law_compared" : Str)), (150, ("_law_value" : Str)), (151, ("_law_holds" : Str)), (152, ("_law_part" : Str)), (153, ("_law_true" : Str)), (154, ("_law_pairs_true" : Str)), (155, ("_law_truth" : Str)), (156, ("_law_some" : Str)), (157, ("_law_plain" : Str)), (158, ("_law_list" : Str)), (159, ("_law_term" : Str)), (160, ("_law_cmp" : Str)), (161, ("_law_promise" : Str)), (162, ("_law_condition" : Str)), (163, ("_law_copied" : Str)), (164, ("_law_state" : Str)), (165, ("_law_answers" : Str)), (166, ("law" : Str))] : List (Nat × Str)).lookup f
  gname := fun g => (([] : List (Nat × Str)).lookup g).getD ""
  cname := fun c => ([(8, ("State" : Str))] : List (Nat × Str)).lookup c
  dname := fun g => ([] : List (Nat × Str)).lookup g
  iname := fun c => ([] : List (Nat × Str)).lookup c
  ename := fun c => ([] : List (Nat × Str)).lookup c
  xname := fun c => ([] : List (Nat × Str)).lookup c
def top (i : Nat) : Stmt := PySem.Challenge.pw_swornrun_k09_truths_and_values.main.body.getD i (.Pass ⟨0, 0, 0, 0⟩)
def t19 : FnT := ⟨"_law_draws", top 12, ["_law_script", "_law_many", "_law_rests", "_law_draws_here", "_law_k", "_law_cell", "_law_at", "_law_mixed"], ["_law_script", "_law_many"]⟩
def t20 : FnT := ⟨"_law_take", top 13, ["_law_hand", "_law_many", "_law_at", "_law_draws_here"], ["_law_hand", "_law_many"]⟩
def t138 : FnT := ⟨"__init__", inClass (top 1) 0, ["self", "numbers", "lists", "old"], ["self", "numbers", "lists", "old"]⟩
def t139 : FnT := ⟨"cells_of", top 2, ["reference", "state"], ["reference", "state"]⟩
def t140 : FnT := ⟨"value_of", top 3, ["term", "state", "cells", "index"], ["term", "state"]⟩
def t141 : FnT := ⟨"compared", top 4, ["left", "sign", "right"], ["left", "sign", "right"]⟩
def t142 : FnT := ⟨"is_true", top 5, ["comparison", "state", "left", "right"], ["comparison", "state"]⟩
def t143 : FnT := ⟨"places", top 6, ["lo", "hi", "cells", "state"], ["lo", "hi", "cells", "state"]⟩
def t144 : FnT := ⟨"part_of", top 7, ["reference", "lo", "hi", "state", "cells", "k"], ["reference", "lo", "hi", "state"]⟩
def t145 : FnT := ⟨"is_below", top 8, ["first", "second"], ["first", "second"]⟩
def t146 : FnT := ⟨"holds_over_cells", top 9, ["promise", "state", "kind", "first", "part", "bound", "cells", "others", "common", "k", "left", "right", "cell"], ["promise", "state"]⟩
def t147 : FnT := ⟨"truth_of", top 10, ["promise", "state", "kind", "part"], ["promise", "state"]⟩
def t148 : FnT := ⟨"_law_names", top 14, ["_law_hand", "_law_found", "_law_letter", "_law_pad"], ["_law_hand"]⟩
def t149 : FnT := ⟨"_law_compared", top 15, ["_law_sign", "_law_left", "_law_right", "_law_truths"], ["_law_sign", "_law_left", "_law_right"]⟩
def t150 : FnT := ⟨"_law_value", top 16, ["_law_term_here", "_law_numbers", "_law_lists", "_law_old", "_law_cells", "_law_k"], ["_law_term_here", "_law_numbers", "_law_lists", "_law_old"]⟩
def t151 : FnT := ⟨"_law_holds", top 17, ["_law_comparison", "_law_numbers", "_law_lists", "_law_old", "_law_left", "_law_right"], ["_law_comparison", "_law_numbers", "_law_lists", "_law_old"]⟩
def t152 : FnT := ⟨"_law_part", top 18, ["_law_reference", "_law_lo", "_law_hi", "_law_numbers", "_law_lists", "_law_old", "_law_cells", "_law_first"], ["_law_reference", "_law_lo", "_law_hi", "_law_numbers", "_law_lists", "_law_old"]⟩
def t153 : FnT := ⟨"_law_true", top 19, ["_law_promise_here", "_law_numbers", "_law_lists", "_law_old", "_law_kind", "_law_cells", "_law_first", "_law_end", "_law_right", "_law_other", "_law_low", "_law_high", "_law_i", "_law_j", "_law_k"], ["_law_promise_here", "_law_numbers", "_law_lists", "_law_old"]⟩
def t154 : FnT := ⟨"_law_pairs_true", top 20, ["_law_promise_here", "_law_numbers", "_law_lists", "_law_old", "_law_cells", "_law_first", "_law_end", "_law_i", "_law_j"], ["_law_promise_here", "_law_numbers", "_law_lists", "_law_old"]⟩
def t155 : FnT := ⟨"_law_truth", top 21, ["_law_condition_here", "_law_numbers", "_law_lists", "_law_old", "_law_part_here"], ["_law_condition_here", "_law_numbers", "_law_lists", "_law_old"]⟩
def t156 : FnT := ⟨"_law_some", top 22, ["_law_hand", "_law_kind"], ["_law_hand"]⟩
def t157 : FnT := ⟨"_law_plain", top 23, ["_law_hand", "_law_n", "_law_kind"], ["_law_hand", "_law_n"]⟩
def t158 : FnT := ⟨"_law_list", top 24, ["_law_hand", "_law_n"], ["_law_hand", "_law_n"]⟩
def t159 : FnT := ⟨"_law_term", top 25, ["_law_hand", "_law_n"], ["_law_hand", "_law_n"]⟩
def t160 : FnT := ⟨"_law_cmp", top 26, ["_law_hand", "_law_n"], ["_law_hand", "_law_n"]⟩
def t161 : FnT := ⟨"_law_promise", top 27, ["_law_hand", "_law_n", "_law_kind", "_law_sign", "_law_told"], ["_law_hand", "_law_n"]⟩
def t162 : FnT := ⟨"_law_condition", top 28, ["_law_hand", "_law_n", "_law_depth", "_law_kind", "_law_parts", "_law_k"], ["_law_hand", "_law_n", "_law_depth"]⟩
def t163 : FnT := ⟨"_law_copied", top 29, ["_law_dict_now", "_law_found", "_law_name"], ["_law_dict_now"]⟩
def t164 : FnT := ⟨"_law_state", top 30, ["_law_hand", "_law_n", "_law_numbers", "_law_name", "_law_lists", "_law_old", "_law_k", "_law_many", "_law_one"], ["_law_hand", "_law_n"]⟩
def t165 : FnT := ⟨"_law_answers", top 31, ["_law_state_here", "_law_asked", "_law_kept", "_law_terms", "_law_promises", "_law_term_here", "_law_due", "_law_found", "_law_promise_here"], ["_law_state_here", "_law_asked", "_law_kept"]⟩
def t166 : FnT := ⟨"law", top 32, ["_law_script", "_law_hand", "_law_n", "_law_handed", "_law_kept", "_law_state_here", "_law_asked", "_law_other", "_law_k"], ["_law_script"]⟩
def ts (f : Nat) : Option FnT := ([(19, t19), (20, t20), (138, t138), (139, t139), (140, t140), (141, t141), (142, t142), (143, t143), (144, t144), (145, t145), (146, t146), (147, t147), (148, t148), (149, t149), (150, t150), (151, t151), (152, t152), (153, t153), (154, t154), (155, t155), (156, t156), (157, t157), (158, t158), (159, t159), (160, t160), (161, t161), (162, t162), (163, t163), (164, t164), (165, t165), (166, t166)] : List (Nat × FnT)).lookup f
theorem ag19 : agF T t19 ⟨2, 8, Hd.b_law_draws⟩ = true := by decide +kernel
theorem ag20 : agF T t20 ⟨2, 4, Hd.b_law_take⟩ = true := by decide +kernel
theorem ag138 : agF T t138 ⟨4, 4, Tr.b_State___init__⟩ = true := by decide +kernel
theorem ag139 : agF T t139 ⟨2, 2, Tr.b_cells_of⟩ = true := by decide +kernel
theorem ag140 : agF T t140 ⟨2, 4, Tr.b_value_of⟩ = true := by decide +kernel
theorem ag141 : agF T t141 ⟨3, 3, Tr.b_compared⟩ = true := by decide +kernel
theorem ag142 : agF T t142 ⟨2, 4, Tr.b_is_true⟩ = true := by decide +kernel
theorem ag143 : agF T t143 ⟨4, 4, Tr.b_places⟩ = true := by decide +kernel
theorem ag144 : agF T t144 ⟨4, 6, Tr.b_part_of⟩ = true := by decide +kernel
theorem ag145 : agF T t145 ⟨2, 2, Tr.b_is_below⟩ = true := by decide +kernel
theorem ag146 : agF T t146 ⟨2, 13, Tr.b_holds_over_cells⟩ = true := by decide +kernel
theorem ag147 : agF T t147 ⟨2, 4, Tr.b_truth_of⟩ = true := by decide +kernel
theorem ag148 : agF T t148 ⟨1, 4, Nm.b_law_names⟩ = true := by decide +kernel
theorem ag149 : agF T t149 ⟨3, 4, Ev.b_law_compared⟩ = true := by decide +kernel
theorem ag150 : agF T t150 ⟨4, 6, Ev.b_law_value⟩ = true := by decide +kernel
theorem ag151 : agF T t151 ⟨4, 6, Ev.b_law_holds⟩ = true := by decide +kernel
theorem ag152 : agF T t152 ⟨6, 8, Ev.b_law_part⟩ = true := by decide +kernel
theorem ag153 : agF T t153 ⟨4, 15, Ev.b_law_true⟩ = true := by decide +kernel
theorem ag154 : agF T t154 ⟨4, 9, Ev.b_law_pairs_true⟩ = true := by decide +kernel
theorem ag155 : agF T t155 ⟨4, 5, Ev.b_law_truth⟩ = true := by decide +kernel
theorem ag156 : agF T t156 ⟨1, 2, K09.b_law_some⟩ = true := by decide +kernel
theorem ag157 : agF T t157 ⟨2, 3, K09.b_law_plain⟩ = true := by decide +kernel
theorem ag158 : agF T t158 ⟨2, 2, K09.b_law_list⟩ = true := by decide +kernel
theorem ag159 : agF T t159 ⟨2, 2, K09.b_law_term⟩ = true := by decide +kernel
theorem ag160 : agF T t160 ⟨2, 2, K09.b_law_cmp⟩ = true := by decide +kernel
theorem ag161 : agF T t161 ⟨2, 5, K09.b_law_promise⟩ = true := by decide +kernel
theorem ag162 : agF T t162 ⟨3, 6, K09.b_law_condition⟩ = true := by decide +kernel
theorem ag163 : agF T t163 ⟨1, 3, K09.b_law_copied⟩ = true := by decide +kernel
theorem ag164 : agF T t164 ⟨2, 9, K09.b_law_state⟩ = true := by decide +kernel
theorem ag165 : agF T t165 ⟨3, 9, K09.b_law_answers⟩ = true := by decide +kernel
theorem ag166 : agF T t166 ⟨1, 9, K09.b_law⟩ = true := by decide +kernel
end K09

namespace K09
open PySem L2 VL
theorem all_mk {w : World} {K : PySem.W.Frag} {h : Heap} {mg : Str → Option Value} {fa : Addr} (X : K.In h) (G : h.Ns mainGlobals mg) (hfa : mg "law" = some (.ref fa))
    {f19 f20 f138 f139 f140 f141 f142 f143 f144 f145 f146 f147 f148 f149 f150 f151 f152 f153 f154 f155 f156 f157 f158 f159 f160 f161 f162 f163 f164 f165 f166 C8 : Addr} {od19 an19 od20 an20 od138 an138 od139 an139 od140 an140 od141 an141 od142 an142 od143 an143 od144 an144 od145 an145 od146 an146 od147 an147 od148 an148 od149 an149 od150 an150 od151 an151 od152 an152 od153 an153 od154 an154 od155 an155 od156 an156 od157 an157 od158 an158 od159 an159 od160 an160 od161 an161 od162 an162 od163 an163 od164 an164 od165 an165 od166 an166 : Option Addr} {sl19 sl20 sl138 sl139 sl140 sl141 sl142 sl143 sl144 sl145 sl146 sl147 sl148 sl149 sl150 sl151 sl152 sl153 sl154 sl155 sl156 sl157 sl158 sl159 sl160 sl161 sl162 sl163 sl164 sl165 sl166 : Array (Option Value)} {oc19 kV19 dc19 pm19 cd19 ct19 oc20 kV20 dc20 pm20 cd20 ct20 oc138 kV138 dc138 pm138 cd138 ct138 oc139 kV139 dc139 pm139 cd139 ct139 oc140 kV140 dc140 pm140 cd140 ct140 oc141 kV141 dc141 pm141 cd141 ct141 oc142 kV142 dc142 pm142 cd142 ct142 oc143 kV143 dc143 pm143 cd143 ct143 oc144 kV144 dc144 pm144 cd144 ct144 oc145 kV145 dc145 pm145 cd145 ct145 oc146 kV146 dc146 pm146 cd146 ct146 oc147 kV147 dc147 pm147 cd147 ct147 oc148 kV148 dc148 pm148 cd148 ct148 oc149 kV149 dc149 pm149 cd149 ct149 oc150 kV150 dc150 pm150 cd150 ct150 oc151 kV151 dc151 pm151 cd151 ct151 oc152 kV152 dc152 pm152 cd152 ct152 oc153 kV153 dc153 pm153 cd153 ct153 oc154 kV154 dc154 pm154 cd154 ct154 oc155 kV155 dc155 pm155 cd155 ct155 oc156 kV156 dc156 pm156 cd156 ct156 oc157 kV157 dc157 pm157 cd157 ct157 oc158 kV158 dc158 pm158 cd158 ct158 oc159 kV159 dc159 pm159 cd159 ct159 oc160 kV160 dc160 pm160 cd160 ct160 oc161 kV161 dc161 pm161 cd161 ct161 oc162 kV162 dc162 pm162 cd162 ct162 oc163 kV163 dc163 pm163 cd163 ct163 oc164 kV164 dc164 pm164 cd164 ct164 oc165 kV165 dc165 pm165 cd165 ct165 oc166 kV166 dc166 pm166 cd166 ct166 : Value} 
    (a19 : PySem.W.nsIn K mainGlobals "_law_draws" = some (some (.ref f19)))
    (l19 : K.lookup f19 = some ⟨oc19, od19, .func (PySem.W.fnOf "_law_draws" "_law_draws" (defArgs t19.st) (defBody t19.st) (defScope t19.st) .none kV19 dc19 pm19 an19 cd19 ct19), sl19⟩)
    (c19 : PySem.W.codeIn K cd19 "_law_draws" = true)
    (k19 : PySem.W.keepIn K (.ref f19) = true)
    (a20 : PySem.W.nsIn K mainGlobals "_law_take" = some (some (.ref f20)))
    (l20 : K.lookup f20 = some ⟨oc20, od20, .func (PySem.W.fnOf "_law_take" "_law_take" (defArgs t20.st) (defBody t20.st) (defScope t20.st) .none kV20 dc20 pm20 an20 cd20 ct20), sl20⟩)
    (c20 : PySem.W.codeIn K cd20 "_law_take" = true)
    (k20 : PySem.W.keepIn K (.ref f20) = true)
    (a138 : PySem.W.findIn K (.ref C8) "__init__" = some (some (.ref f138)))
    (i138 : PySem.W.isFn K (.ref f138) = true)
    (l138 : K.lookup f138 = some ⟨oc138, od138, .func (PySem.W.fnOf "__init__" "State.__init__" (defArgs t138.st) (defBody t138.st) (defScope t138.st) .none kV138 dc138 pm138 an138 cd138 ct138), sl138⟩)
    (c138 : PySem.W.codeIn K cd138 "State.__init__" = true)
    (k138 : PySem.W.keepIn K (.ref f138) = true)
    (a139 : PySem.W.nsIn K mainGlobals "cells_of" = some (some (.ref f139)))
    (l139 : K.lookup f139 = some ⟨oc139, od139, .func (PySem.W.fnOf "cells_of" "cells_of" (defArgs t139.st) (defBody t139.st) (defScope t139.st) .none kV139 dc139 pm139 an139 cd139 ct139), sl139⟩)
    (c139 : PySem.W.codeIn K cd139 "cells_of" = true)
    (k139 : PySem.W.keepIn K (.ref f139) = true)
    (a140 : PySem.W.nsIn K mainGlobals "value_of" = some (some (.ref f140)))
    (l140 : K.lookup f140 = some ⟨oc140, od140, .func (PySem.W.fnOf "value_of" "value_of" (defArgs t140.st) (defBody t140.st) (defScope t140.st) .none kV140 dc140 pm140 an140 cd140 ct140), sl140⟩)
    (c140 : PySem.W.codeIn K cd140 "value_of" = true)
    (k140 : PySem.W.keepIn K (.ref f140) = true)
    (a141 : PySem.W.nsIn K mainGlobals "compared" = some (some (.ref f141)))
    (l141 : K.lookup f141 = some ⟨oc141, od141, .func (PySem.W.fnOf "compared" "compared" (defArgs t141.st) (defBody t141.st) (defScope t141.st) .none kV141 dc141 pm141 an141 cd141 ct141), sl141⟩)
    (c141 : PySem.W.codeIn K cd141 "compared" = true)
    (k141 : PySem.W.keepIn K (.ref f141) = true)
    (a142 : PySem.W.nsIn K mainGlobals "is_true" = some (some (.ref f142)))
    (l142 : K.lookup f142 = some ⟨oc142, od142, .func (PySem.W.fnOf "is_true" "is_true" (defArgs t142.st) (defBody t142.st) (defScope t142.st) .none kV142 dc142 pm142 an142 cd142 ct142), sl142⟩)
    (c142 : PySem.W.codeIn K cd142 "is_true" = true)
    (k142 : PySem.W.keepIn K (.ref f142) = true)
    (a143 : PySem.W.nsIn K mainGlobals "places" = some (some (.ref f143)))
    (l143 : K.lookup f143 = some ⟨oc143, od143, .func (PySem.W.fnOf "places" "places" (defArgs t143.st) (defBody t143.st) (defScope t143.st) .none kV143 dc143 pm143 an143 cd143 ct143), sl143⟩)
    (c143 : PySem.W.codeIn K cd143 "places" = true)
    (k143 : PySem.W.keepIn K (.ref f143) = true)
    (a144 : PySem.W.nsIn K mainGlobals "part_of" = some (some (.ref f144)))
    (l144 : K.lookup f144 = some ⟨oc144, od144, .func (PySem.W.fnOf "part_of" "part_of" (defArgs t144.st) (defBody t144.st) (defScope t144.st) .none kV144 dc144 pm144 an144 cd144 ct144), sl144⟩)
    (c144 : PySem.W.codeIn K cd144 "part_of" = true)
    (k144 : PySem.W.keepIn K (.ref f144) = true)
    (a145 : PySem.W.nsIn K mainGlobals "is_below" = some (some (.ref f145)))
    (l145 : K.lookup f145 = some ⟨oc145, od145, .func (PySem.W.fnOf "is_below" "is_below" (defArgs t145.st) (defBody t145.st) (defScope t145.st) .none kV145 dc145 pm145 an145 cd145 ct145), sl145⟩)
    (c145 : PySem.W.codeIn K cd145 "is_below" = true)
    (k145 : PySem.W.keepIn K (.ref f145) = true)
    (a146 : PySem.W.nsIn K mainGlobals "holds_over_cells" = some (some (.ref f146)))
    (l146 : K.lookup f146 = some ⟨oc146, od146, .func (PySem.W.fnOf "holds_over_cells" "holds_over_cells" (defArgs t146.st) (defBody t146.st) (defScope t146.st) .none kV146 dc146 pm146 an146 cd146 ct146), sl146⟩)
    (c146 : PySem.W.codeIn K cd146 "holds_over_cells" = true)
    (k146 : PySem.W.keepIn K (.ref f146) = true)
    (a147 : PySem.W.nsIn K mainGlobals "truth_of" = some (some (.ref f147)))
    (l147 : K.lookup f147 = some ⟨oc147, od147, .func (PySem.W.fnOf "truth_of" "truth_of" (defArgs t147.st) (defBody t147.st) (defScope t147.st) .none kV147 dc147 pm147 an147 cd147 ct147), sl147⟩)
    (c147 : PySem.W.codeIn K cd147 "truth_of" = true)
    (k147 : PySem.W.keepIn K (.ref f147) = true)
    (a148 : PySem.W.nsIn K mainGlobals "_law_names" = some (some (.ref f148)))
    (l148 : K.lookup f148 = some ⟨oc148, od148, .func (PySem.W.fnOf "_law_names" "_law_names" (defArgs t148.st) (defBody t148.st) (defScope t148.st) .none kV148 dc148 pm148 an148 cd148 ct148), sl148⟩)
    (c148 : PySem.W.codeIn K cd148 "_law_names" = true)
    (k148 : PySem.W.keepIn K (.ref f148) = true)
    (a149 : PySem.W.nsIn K mainGlobals "_law_compared" = some (some (.ref f149)))
    (l149 : K.lookup f149 = some ⟨oc149, od149, .func (PySem.W.fnOf "_law_compared" "_law_compared" (defArgs t149.st) (defBody t149.st) (defScope t149.st) .none kV149 dc149 pm149 an149 cd149 ct149), sl149⟩)
    (c149 : PySem.W.codeIn K cd149 "_law_compared" = true)
    (k149 : PySem.W.keepIn K (.ref f149) = true)
    (a150 : PySem.W.nsIn K mainGlobals "_law_value" = some (some (.ref f150)))
    (l150 : K.lookup f150 = some ⟨oc150, od150, .func (PySem.W.fnOf "_law_value" "_law_value" (defArgs t150.st) (defBody t150.st) (defScope t150.st) .none kV150 dc150 pm150 an150 cd150 ct150), sl150⟩)
    (c150 : PySem.W.codeIn K cd150 "_law_value" = true)
    (k150 : PySem.W.keepIn K (.ref f150) = true)
    (a151 : PySem.W.nsIn K mainGlobals "_law_holds" = some (some (.ref f151)))
    (l151 : K.lookup f151 = some ⟨oc151, od151, .func (PySem.W.fnOf "_law_holds" "_law_holds" (defArgs t151.st) (defBody t151.st) (defScope t151.st) .none kV151 dc151 pm151 an151 cd151 ct151), sl151⟩)
    (c151 : PySem.W.codeIn K cd151 "_law_holds" = true)
    (k151 : PySem.W.keepIn K (.ref f151) = true)
    (a152 : PySem.W.nsIn K mainGlobals "_law_part" = some (some (.ref f152)))
    (l152 : K.lookup f152 = some ⟨oc152, od152, .func (PySem.W.fnOf "_law_part" "_law_part" (defArgs t152.st) (defBody t152.st) (defScope t152.st) .none kV152 dc152 pm152 an152 cd152 ct152), sl152⟩)
    (c152 : PySem.W.codeIn K cd152 "_law_part" = true)
    (k152 : PySem.W.keepIn K (.ref f152) = true)
    (a153 : PySem.W.nsIn K mainGlobals "_law_true" = some (some (.ref f153)))
    (l153 : K.lookup f153 = some ⟨oc153, od153, .func (PySem.W.fnOf "_law_true" "_law_true" (defArgs t153.st) (defBody t153.st) (defScope t153.st) .none kV153 dc153 pm153 an153 cd153 ct153), sl153⟩)
    (c153 : PySem.W.codeIn K cd153 "_law_true" = true)
    (k153 : PySem.W.keepIn K (.ref f153) = true)
    (a154 : PySem.W.nsIn K mainGlobals "_law_pairs_true" = some (some (.ref f154)))
    (l154 : K.lookup f154 = some ⟨oc154, od154, .func (PySem.W.fnOf "_law_pairs_true" "_law_pairs_true" (defArgs t154.st) (defBody t154.st) (defScope t154.st) .none kV154 dc154 pm154 an154 cd154 ct154), sl154⟩)
    (c154 : PySem.W.codeIn K cd154 "_law_pairs_true" = true)
    (k154 : PySem.W.keepIn K (.ref f154) = true)
    (a155 : PySem.W.nsIn K mainGlobals "_law_truth" = some (some (.ref f155)))
    (l155 : K.lookup f155 = some ⟨oc155, od155, .func (PySem.W.fnOf "_law_truth" "_law_truth" (defArgs t155.st) (defBody t155.st) (defScope t155.st) .none kV155 dc155 pm155 an155 cd155 ct155), sl155⟩)
    (c155 : PySem.W.codeIn K cd155 "_law_truth" = true)
    (k155 : PySem.W.keepIn K (.ref f155) = true)
    (a156 : PySem.W.nsIn K mainGlobals "_law_some" = some (some (.ref f156)))
    (l156 : K.lookup f156 = some ⟨oc156, od156, .func (PySem.W.fnOf "_law_some" "_law_some" (defArgs t156.st) (defBody t156.st) (defScope t156.st) .none kV156 dc156 pm156 an156 cd156 ct156), sl156⟩)
    (c156 : PySem.W.codeIn K cd156 "_law_some" = true)
    (k156 : PySem.W.keepIn K (.ref f156) = true)
    (a157 : PySem.W.nsIn K mainGlobals "_law_plain" = some (some (.ref f157)))
    (l157 : K.lookup f157 = some ⟨oc157, od157, .func (PySem.W.fnOf "_law_plain" "_law_plain" (defArgs t157.st) (defBody t157.st) (defScope t157.st) .none kV157 dc157 pm157 an157 cd157 ct157), sl157⟩)
    (c157 : PySem.W.codeIn K cd157 "_law_plain" = true)
    (k157 : PySem.W.keepIn K (.ref f157) = true)
    (a158 : PySem.W.nsIn K mainGlobals "_law_list" = some (some (.ref f158)))
    (l158 : K.lookup f158 = some ⟨oc158, od158, .func (PySem.W.fnOf "_law_list" "_law_list" (defArgs t158.st) (defBody t158.st) (defScope t158.st) .none kV158 dc158 pm158 an158 cd158 ct158), sl158⟩)
    (c158 : PySem.W.codeIn K cd158 "_law_list" = true)
    (k158 : PySem.W.keepIn K (.ref f158) = true)
    (a159 : PySem.W.nsIn K mainGlobals "_law_term" = some (some (.ref f159)))
    (l159 : K.lookup f159 = some ⟨oc159, od159, .func (PySem.W.fnOf "_law_term" "_law_term" (defArgs t159.st) (defBody t159.st) (defScope t159.st) .none kV159 dc159 pm159 an159 cd159 ct159), sl159⟩)
    (c159 : PySem.W.codeIn K cd159 "_law_term" = true)
    (k159 : PySem.W.keepIn K (.ref f159) = true)
    (a160 : PySem.W.nsIn K mainGlobals "_law_cmp" = some (some (.ref f160)))
    (l160 : K.lookup f160 = some ⟨oc160, od160, .func (PySem.W.fnOf "_law_cmp" "_law_cmp" (defArgs t160.st) (defBody t160.st) (defScope t160.st) .none kV160 dc160 pm160 an160 cd160 ct160), sl160⟩)
    (c160 : PySem.W.codeIn K cd160 "_law_cmp" = true)
    (k160 : PySem.W.keepIn K (.ref f160) = true)
    (a161 : PySem.W.nsIn K mainGlobals "_law_promise" = some (some (.ref f161)))
    (l161 : K.lookup f161 = some ⟨oc161, od161, .func (PySem.W.fnOf "_law_promise" "_law_promise" (defArgs t161.st) (defBody t161.st) (defScope t161.st) .none kV161 dc161 pm161 an161 cd161 ct161), sl161⟩)
    (c161 : PySem.W.codeIn K cd161 "_law_promise" = true)
    (k161 : PySem.W.keepIn K (.ref f161) = true)
    (a162 : PySem.W.nsIn K mainGlobals "_law_condition" = some (some (.ref f162)))
    (l162 : K.lookup f162 = some ⟨oc162, od162, .func (PySem.W.fnOf "_law_condition" "_law_condition" (defArgs t162.st) (defBody t162.st) (defScope t162.st) .none kV162 dc162 pm162 an162 cd162 ct162), sl162⟩)
    (c162 : PySem.W.codeIn K cd162 "_law_condition" = true)
    (k162 : PySem.W.keepIn K (.ref f162) = true)
    (a163 : PySem.W.nsIn K mainGlobals "_law_copied" = some (some (.ref f163)))
    (l163 : K.lookup f163 = some ⟨oc163, od163, .func (PySem.W.fnOf "_law_copied" "_law_copied" (defArgs t163.st) (defBody t163.st) (defScope t163.st) .none kV163 dc163 pm163 an163 cd163 ct163), sl163⟩)
    (c163 : PySem.W.codeIn K cd163 "_law_copied" = true)
    (k163 : PySem.W.keepIn K (.ref f163) = true)
    (a164 : PySem.W.nsIn K mainGlobals "_law_state" = some (some (.ref f164)))
    (l164 : K.lookup f164 = some ⟨oc164, od164, .func (PySem.W.fnOf "_law_state" "_law_state" (defArgs t164.st) (defBody t164.st) (defScope t164.st) .none kV164 dc164 pm164 an164 cd164 ct164), sl164⟩)
    (c164 : PySem.W.codeIn K cd164 "_law_state" = true)
    (k164 : PySem.W.keepIn K (.ref f164) = true)
    (a165 : PySem.W.nsIn K mainGlobals "_law_answers" = some (some (.ref f165)))
    (l165 : K.lookup f165 = some ⟨oc165, od165, .func (PySem.W.fnOf "_law_answers" "_law_answers" (defArgs t165.st) (defBody t165.st) (defScope t165.st) .none kV165 dc165 pm165 an165 cd165 ct165), sl165⟩)
    (c165 : PySem.W.codeIn K cd165 "_law_answers" = true)
    (k165 : PySem.W.keepIn K (.ref f165) = true)
    (a166 : PySem.W.nsIn K mainGlobals "law" = some (some (.ref f166)))
    (l166 : K.lookup f166 = some ⟨oc166, od166, .func (PySem.W.fnOf "law" "law" (defArgs t166.st) (defBody t166.st) (defScope t166.st) .none kV166 dc166 pm166 an166 cd166 ct166), sl166⟩)
    (c166 : PySem.W.codeIn K cd166 "law" = true)
    (k166 : PySem.W.keepIn K (.ref f166) = true)
    (aC8 : PySem.W.nsIn K mainGlobals "State" = some (some (.ref C8)))
    (pg8 : PySem.W.plainGet K C8 Str.empty = true)
    (hd8 : PySem.W.hasDictIn K C8 = true)
    (po8 : PySem.W.plainOver K C8 = true)
    (sa8 : PySem.W.findIn K (.ref C8) "__setattr__" = some (some (.builtin "object.__setattr__")))
    (mk8 : PySem.W.makesIn K C8 = true)
    (kc8 : PySem.W.keepIn K (.ref C8) = true)
    (fl0 : PySem.W.findIn K (.ref C8) "numbers" = some none)
    (fl1 : PySem.W.findIn K (.ref C8) "lists" = some none)
    (fl2 : PySem.W.findIn K (.ref C8) "old" = some none)
    (z0 : PySem.W.nsIn K mainGlobals "len" = some none)
    (z1 : PySem.W.nsIn K mainGlobals "abs" = some none)
    (z2 : PySem.W.nsIn K mainGlobals "int" = some none)
    (z3 : PySem.W.nsIn K mainGlobals "str" = some none)
    (z4 : PySem.W.nsIn K mainGlobals "max" = some none)
    (z5 : PySem.W.nsIn K mainGlobals "min" = some none)
    (z6 : PySem.W.nsIn K mainGlobals "sum" = some none)
    (z7 : PySem.W.nsIn K mainGlobals "all" = some none)
    (z8 : PySem.W.nsIn K mainGlobals "any" = some none)
    (z9 : PySem.W.nsIn K mainGlobals "tuple" = some none)
    (z10 : PySem.W.nsIn K mainGlobals "list" = some none)
    (z11 : PySem.W.nsIn K mainGlobals "range" = some none)
    (z12 : PySem.W.nsIn K mainGlobals "isinstance" = some none)
    (z13 : PySem.W.nsIn K mainGlobals "bool" = some none)
    (z14 : PySem.W.nsIn K mainGlobals "dict" = some none)
    (z15 : PySem.W.nsIn K mainGlobals "repr" = some none)
    (z16 : PySem.W.nsIn K mainGlobals "sorted" = some none)
    (z17 : PySem.W.nsIn K mainGlobals "zip" = some none)
    (z18 : PySem.W.nsIn K mainGlobals "enumerate" = some none)
    (z19 : PySem.W.nsIn K mainGlobals "reversed" = some none) :
    ∃ Cl : Nat → Addr, PFacts w P T Cl ts K mg ∧ ∃ fd : FuncData, (∀ (s : Shared) (v : Value), BindsTo s fd ⟨[v], []⟩ [("_law_script", v)]) ∧ Fun K "law" "law" t166.st fa fd := by
  have e := hfa.symm.trans (PySem.W.mg_of X G a166)
  cases e
  refine ⟨fun c => (([(8, C8)] : List (Nat × Addr)).lookup c).getD 0, ⟨fun x hx => ?_, fun g d hg => ?_, fun f F hf => ?_, fun f x hx => ?_, fun c x hx => ?_, fun c m f hx => ?_, fun c f hx => ?_, fun g x hx => ?_, fun c x hx => ?_, fun c x hx => ?_, fun f t hx => ?_, fun c d b hx => ?_, fun c x hx => ?_⟩, PySem.W.fnOf "law" "law" (defArgs t166.st) (defBody t166.st) (defScope t166.st) .none kV166 dc166 pm166 an166 cd166 ct166, fun s v => .of_eq rfl, fun_mk (st := t166.st) l166 c166 k166⟩
  · simp only [bltNames, List.mem_cons, List.not_mem_nil, or_false] at hx
    rcases hx with rfl | rfl | rfl | rfl | rfl | rfl | rfl | rfl | rfl | rfl | rfl | rfl | rfl | rfl | rfl | rfl | rfl | rfl | rfl | rfl
    · exact PySem.W.mg_none_of X G z0
    · exact PySem.W.mg_none_of X G z1
    · exact PySem.W.mg_none_of X G z2
    · exact PySem.W.mg_none_of X G z3
    · exact PySem.W.mg_none_of X G z4
    · exact PySem.W.mg_none_of X G z5
    · exact PySem.W.mg_none_of X G z6
    · exact PySem.W.mg_none_of X G z7
    · exact PySem.W.mg_none_of X G z8
    · exact PySem.W.mg_none_of X G z9
    · exact PySem.W.mg_none_of X G z10
    · exact PySem.W.mg_none_of X G z11
    · exact PySem.W.mg_none_of X G z12
    · exact PySem.W.mg_none_of X G z13
    · exact PySem.W.mg_none_of X G z14
    · exact PySem.W.mg_none_of X G z15
    · exact PySem.W.mg_none_of X G z16
    · exact PySem.W.mg_none_of X G z17
    · exact PySem.W.mg_none_of X G z18
    · exact PySem.W.mg_none_of X G z19
  · refine look_all (G := fun g d => ∃ u v, mg (T.gname g) = some u ∧ RelV v u ∧ ∀ cs F, Rep K cs F v d) ?_ hg
    exact trivial
  · refine look_all (G := fun f F => ∃ t a fd qual, ts f = some t ∧ Fun K t.name qual t.st a fd ∧ agF T t F = true ∧ Binds K fd t.ps [] ∧ ∀ x, T.fname f = some x → mg x = some (.ref a) ∧ PySem.W.keepIn K (.ref a) = true) ?_ hf
    have g19 : (fun f F => ∃ t a fd qual, ts f = some t ∧ Fun K t.name qual t.st a fd ∧ agF T t F = true ∧ Binds K fd t.ps [] ∧ ∀ x, T.fname f = some x → mg x = some (.ref a) ∧ PySem.W.keepIn K (.ref a) = true) 19 ⟨2, 8, Hd.b_law_draws⟩ := by
      have F := fun_mk (st := t19.st) l19 c19 k19
      exact ⟨t19, _, _, _, rfl, F, ag19, F.binds (ps := ["_law_script", "_law_many"]) fun _ _ _ _ _ _ us hl => match us, hl with | [_, _], _ => rfl, fun x hx => by cases hx; exact ⟨PySem.W.mg_of X G a19, k19⟩⟩
    have g20 : (fun f F => ∃ t a fd qual, ts f = some t ∧ Fun K t.name qual t.st a fd ∧ agF T t F = true ∧ Binds K fd t.ps [] ∧ ∀ x, T.fname f = some x → mg x = some (.ref a) ∧ PySem.W.keepIn K (.ref a) = true) 20 ⟨2, 4, Hd.b_law_take⟩ := by
      have F := fun_mk (st := t20.st) l20 c20 k20
      exact ⟨t20, _, _, _, rfl, F, ag20, F.binds (ps := ["_law_hand", "_law_many"]) fun _ _ _ _ _ _ us hl => match us, hl with | [_, _], _ => rfl, fun x hx => by cases hx; exact ⟨PySem.W.mg_of X G a20, k20⟩⟩
    have g138 : (fun f F => ∃ t a fd qual, ts f = some t ∧ Fun K t.name qual t.st a fd ∧ agF T t F = true ∧ Binds K fd t.ps [] ∧ ∀ x, T.fname f = some x → mg x = some (.ref a) ∧ PySem.W.keepIn K (.ref a) = true) 138 ⟨4, 4, Tr.b_State___init__⟩ := by
      have F := fun_mk (st := t138.st) l138 c138 k138
      exact ⟨t138, _, _, _, rfl, F, ag138, F.binds (ps := ["self", "numbers", "lists", "old"]) fun _ _ _ _ _ _ us hl => match us, hl with | [_, _, _, _], _ => rfl, fun x hx => by cases hx⟩
    have g139 : (fun f F => ∃ t a fd qual, ts f = some t ∧ Fun K t.name qual t.st a fd ∧ agF T t F = true ∧ Binds K fd t.ps [] ∧ ∀ x, T.fname f = some x → mg x = some (.ref a) ∧ PySem.W.keepIn K (.ref a) = true) 139 ⟨2, 2, Tr.b_cells_of⟩ := by
      have F := fun_mk (st := t139.st) l139 c139 k139
      exact ⟨t139, _, _, _, rfl, F, ag139, F.binds (ps := ["reference", "state"]) fun _ _ _ _ _ _ us hl => match us, hl with | [_, _], _ => rfl, fun x hx => by cases hx; exact ⟨PySem.W.mg_of X G a139, k139⟩⟩
    have g140 : (fun f F => ∃ t a fd qual, ts f = some t ∧ Fun K t.name qual t.st a fd ∧ agF T t F = true ∧ Binds K fd t.ps [] ∧ ∀ x, T.fname f = some x → mg x = some (.ref a) ∧ PySem.W.keepIn K (.ref a) = true) 140 ⟨2, 4, Tr.b_value_of⟩ := by
      have F := fun_mk (st := t140.st) l140 c140 k140
      exact ⟨t140, _, _, _, rfl, F, ag140, F.binds (ps := ["term", "state"]) fun _ _ _ _ _ _ us hl => match us, hl with | [_, _], _ => rfl, fun x hx => by cases hx; exact ⟨PySem.W.mg_of X G a140, k140⟩⟩
    have g141 : (fun f F => ∃ t a fd qual, ts f = some t ∧ Fun K t.name qual t.st a fd ∧ agF T t F = true ∧ Binds K fd t.ps [] ∧ ∀ x, T.fname f = some x → mg x = some (.ref a) ∧ PySem.W.keepIn K (.ref a) = true) 141 ⟨3, 3, Tr.b_compared⟩ := by
      have F := fun_mk (st := t141.st) l141 c141 k141
      exact ⟨t141, _, _, _, rfl, F, ag141, F.binds (ps := ["left", "sign", "right"]) fun _ _ _ _ _ _ us hl => match us, hl with | [_, _, _], _ => rfl, fun x hx => by cases hx; exact ⟨PySem.W.mg_of X G a141, k141⟩⟩
    have g142 : (fun f F => ∃ t a fd qual, ts f = some t ∧ Fun K t.name qual t.st a fd ∧ agF T t F = true ∧ Binds K fd t.ps [] ∧ ∀ x, T.fname f = some x → mg x = some (.ref a) ∧ PySem.W.keepIn K (.ref a) = true) 142 ⟨2, 4, Tr.b_is_true⟩ := by
      have F := fun_mk (st := t142.st) l142 c142 k142
      exact ⟨t142, _, _, _, rfl, F, ag142, F.binds (ps := ["comparison", "state"]) fun _ _ _ _ _ _ us hl => match us, hl with | [_, _], _ => rfl, fun x hx => by cases hx; exact ⟨PySem.W.mg_of X G a142, k142⟩⟩
    have g143 : (fun f F => ∃ t a fd qual, ts f = some t ∧ Fun K t.name qual t.st a fd ∧ agF T t F = true ∧ Binds K fd t.ps [] ∧ ∀ x, T.fname f = some x → mg x = some (.ref a) ∧ PySem.W.keepIn K (.ref a) = true) 143 ⟨4, 4, Tr.b_places⟩ := by
      have F := fun_mk (st := t143.st) l143 c143 k143
      exact ⟨t143, _, _, _, rfl, F, ag143, F.binds (ps := ["lo", "hi", "cells", "state"]) fun _ _ _ _ _ _ us hl => match us, hl with | [_, _, _, _], _ => rfl, fun x hx => by cases hx; exact ⟨PySem.W.mg_of X G a143, k143⟩⟩
    have g144 : (fun f F => ∃ t a fd qual, ts f = some t ∧ Fun K t.name qual t.st a fd ∧ agF T t F = true ∧ Binds K fd t.ps [] ∧ ∀ x, T.fname f = some x → mg x = some (.ref a) ∧ PySem.W.keepIn K (.ref a) = true) 144 ⟨4, 6, Tr.b_part_of⟩ := by
      have F := fun_mk (st := t144.st) l144 c144 k144
      exact ⟨t144, _, _, _, rfl, F, ag144, F.binds (ps := ["reference", "lo", "hi", "state"]) fun _ _ _ _ _ _ us hl => match us, hl with | [_, _, _, _], _ => rfl, fun x hx => by cases hx; exact ⟨PySem.W.mg_of X G a144, k144⟩⟩
    have g145 : (fun f F => ∃ t a fd qual, ts f = some t ∧ Fun K t.name qual t.st a fd ∧ agF T t F = true ∧ Binds K fd t.ps [] ∧ ∀ x, T.fname f = some x → mg x = some (.ref a) ∧ PySem.W.keepIn K (.ref a) = true) 145 ⟨2, 2, Tr.b_is_below⟩ := by
      have F := fun_mk (st := t145.st) l145 c145 k145
      exact ⟨t145, _, _, _, rfl, F, ag145, F.binds (ps := ["first", "second"]) fun _ _ _ _ _ _ us hl => match us, hl with | [_, _], _ => rfl, fun x hx => by cases hx; exact ⟨PySem.W.mg_of X G a145, k145⟩⟩
    have g146 : (fun f F => ∃ t a fd qual, ts f = some t ∧ Fun K t.name qual t.st a fd ∧ agF T t F = true ∧ Binds K fd t.ps [] ∧ ∀ x, T.fname f = some x → mg x = some (.ref a) ∧ PySem.W.keepIn K (.ref a) = true) 146 ⟨2, 13, Tr.b_holds_over_cells⟩ := by
      have F := fun_mk (st := t146.st) l146 c146 k146
      exact ⟨t146, _, _, _, rfl, F, ag146, F.binds (ps := ["promise", "state"]) fun _ _ _ _ _ _ us hl => match us, hl with | [_, _], _ => rfl, fun x hx => by cases hx; exact ⟨PySem.W.mg_of X G a146, k146⟩⟩
    have g147 : (fun f F => ∃ t a fd qual, ts f = some t ∧ Fun K t.name qual t.st a fd ∧ agF T t F = true ∧ Binds K fd t.ps [] ∧ ∀ x, T.fname f = some x → mg x = some (.ref a) ∧ PySem.W.keepIn K (.ref a) = true) 147 ⟨2, 4, Tr.b_truth_of⟩ := by
      have F := fun_mk (st := t147.st) l147 c147 k147
      exact ⟨t147, _, _, _, rfl, F, ag147, F.binds (ps := ["promise", "state"]) fun _ _ _ _ _ _ us hl => match us, hl with | [_, _], _ => rfl, fun x hx => by cases hx; exact ⟨PySem.W.mg_of X G a147, k147⟩⟩
    have g148 : (fun f F => ∃ t a fd qual, ts f = some t ∧ Fun K t.name qual t.st a fd ∧ agF T t F = true ∧ Binds K fd t.ps [] ∧ ∀ x, T.fname f = some x → mg x = some (.ref a) ∧ PySem.W.keepIn K (.ref a) = true) 148 ⟨1, 4, Nm.b_law_names⟩ := by
      have F := fun_mk (st := t148.st) l148 c148 k148
      exact ⟨t148, _, _, _, rfl, F, ag148, F.binds (ps := ["_law_hand"]) fun _ _ _ _ _ _ us hl => match us, hl with | [_], _ => rfl, fun x hx => by cases hx; exact ⟨PySem.W.mg_of X G a148, k148⟩⟩
    have g149 : (fun f F => ∃ t a fd qual, ts f = some t ∧ Fun K t.name qual t.st a fd ∧ agF T t F = true ∧ Binds K fd t.ps [] ∧ ∀ x, T.fname f = some x → mg x = some (.ref a) ∧ PySem.W.keepIn K (.ref a) = true) 149 ⟨3, 4, Ev.b_law_compared⟩ := by
      have F := fun_mk (st := t149.st) l149 c149 k149
      exact ⟨t149, _, _, _, rfl, F, ag149, F.binds (ps := ["_law_sign", "_law_left", "_law_right"]) fun _ _ _ _ _ _ us hl => match us, hl with | [_, _, _], _ => rfl, fun x hx => by cases hx; exact ⟨PySem.W.mg_of X G a149, k149⟩⟩
    have g150 : (fun f F => ∃ t a fd qual, ts f = some t ∧ Fun K t.name qual t.st a fd ∧ agF T t F = true ∧ Binds K fd t.ps [] ∧ ∀ x, T.fname f = some x → mg x = some (.ref a) ∧ PySem.W.keepIn K (.ref a) = true) 150 ⟨4, 6, Ev.b_law_value⟩ := by
      have F := fun_mk (st := t150.st) l150 c150 k150
      exact ⟨t150, _, _, _, rfl, F, ag150, F.binds (ps := ["_law_term_here", "_law_numbers", "_law_lists", "_law_old"]) fun _ _ _ _ _ _ us hl => match us, hl with | [_, _, _, _], _ => rfl, fun x hx => by cases hx; exact ⟨PySem.W.mg_of X G a150, k150⟩⟩
    have g151 : (fun f F => ∃ t a fd qual, ts f = some t ∧ Fun K t.name qual t.st a fd ∧ agF T t F = true ∧ Binds K fd t.ps [] ∧ ∀ x, T.fname f = some x → mg x = some (.ref a) ∧ PySem.W.keepIn K (.ref a) = true) 151 ⟨4, 6, Ev.b_law_holds⟩ := by
      have F := fun_mk (st := t151.st) l151 c151 k151
      exact ⟨t151, _, _, _, rfl, F, ag151, F.binds (ps := ["_law_comparison", "_law_numbers", "_law_lists", "_law_old"]) fun _ _ _ _ _ _ us hl => match us, hl with | [_, _, _, _], _ => rfl, fun x hx => by cases hx; exact ⟨PySem.W.mg_of X G a151, k151⟩⟩
    have g152 : (fun f F => ∃ t a fd qual, ts f = some t ∧ Fun K t.name qual t.st a fd ∧ agF T t F = true ∧ Binds K fd t.ps [] ∧ ∀ x, T.fname f = some x → mg x = some (.ref a) ∧ PySem.W.keepIn K (.ref a) = true) 152 ⟨6, 8, Ev.b_law_part⟩ := by
      have F := fun_mk (st := t152.st) l152 c152 k152
      exact ⟨t152, _, _, _, rfl, F, ag152, F.binds (ps := ["_law_reference", "_law_lo", "_law_hi", "_law_numbers", "_law_lists", "_law_old"]) fun _ _ _ _ _ _ us hl => match us, hl with | [_, _, _, _, _, _], _ => rfl, fun x hx => by cases hx; exact ⟨PySem.W.mg_of X G a152, k152⟩⟩
    have g153 : (fun f F => ∃ t a fd qual, ts f = some t ∧ Fun K t.name qual t.st a fd ∧ agF T t F = true ∧ Binds K fd t.ps [] ∧ ∀ x, T.fname f = some x → mg x = some (.ref a) ∧ PySem.W.keepIn K (.ref a) = true) 153 ⟨4, 15, Ev.b_law_true⟩ := by
      have F := fun_mk (st := t153.st) l153 c153 k153
      exact ⟨t153, _, _, _, rfl, F, ag153, F.binds (ps := ["_law_promise_here", "_law_numbers", "_law_lists", "_law_old"]) fun _ _ _ _ _ _ us hl => match us, hl with | [_, _, _, _], _ => rfl, fun x hx => by cases hx; exact ⟨PySem.W.mg_of X G a153, k153⟩⟩
    have g154 : (fun f F => ∃ t a fd qual, ts f = some t ∧ Fun K t.name qual t.st a fd ∧ agF T t F = true ∧ Binds K fd t.ps [] ∧ ∀ x, T.fname f = some x → mg x = some (.ref a) ∧ PySem.W.keepIn K (.ref a) = true) 154 ⟨4, 9, Ev.b_law_pairs_true⟩ := by
      have F := fun_mk (st := t154.st) l154 c154 k154
      exact ⟨t154, _, _, _, rfl, F, ag154, F.binds (ps := ["_law_promise_here", "_law_numbers", "_law_lists", "_law_old"]) fun _ _ _ _ _ _ us hl => match us, hl with | [_, _, _, _], _ => rfl, fun x hx => by cases hx; exact ⟨PySem.W.mg_of X G a154, k154⟩⟩
    have g155 : (fun f F => ∃ t a fd qual, ts f = some t ∧ Fun K t.name qual t.st a fd ∧ agF T t F = true ∧ Binds K fd t.ps [] ∧ ∀ x, T.fname f = some x → mg x = some (.ref a) ∧ PySem.W.keepIn K (.ref a) = true) 155 ⟨4, 5, Ev.b_law_truth⟩ := by
      have F := fun_mk (st := t155.st) l155 c155 k155
      exact ⟨t155, _, _, _, rfl, F, ag155, F.binds (ps := ["_law_condition_here", "_law_numbers", "_law_lists", "_law_old"]) fun _ _ _ _ _ _ us hl => match us, hl with | [_, _, _, _], _ => rfl, fun x hx => by cases hx; exact ⟨PySem.W.mg_of X G a155, k155⟩⟩
    have g156 : (fun f F => ∃ t a fd qual, ts f = some t ∧ Fun K t.name qual t.st a fd ∧ agF T t F = true ∧ Binds K fd t.ps [] ∧ ∀ x, T.fname f = some x → mg x = some (.ref a) ∧ PySem.W.keepIn K (.ref a) = true) 156 ⟨1, 2, K09.b_law_some⟩ := by
      have F := fun_mk (st := t156.st) l156 c156 k156
      exact ⟨t156, _, _, _, rfl, F, ag156, F.binds (ps := ["_law_hand"]) fun _ _ _ _ _ _ us hl => match us, hl with | [_], _ => rfl, fun x hx => by cases hx; exact ⟨PySem.W.mg_of X G a156, k156⟩⟩
    have g157 : (fun f F => ∃ t a fd qual, ts f = some t ∧ Fun K t.name qual t.st a fd ∧ agF T t F = true ∧ Binds K fd t.ps [] ∧ ∀ x, T.fname f = some x → mg x = some (.ref a) ∧ PySem.W.keepIn K (.ref a) = true) 157 ⟨2, 3, K09.b_law_plain⟩ := by
      have F := fun_mk (st := t157.st) l157 c157 k157
      exact ⟨t157, _, _, _, rfl, F, ag157, F.binds (ps := ["_law_hand", "_law_n"]) fun _ _ _ _ _ _ us hl => match us, hl with | [_, _], _ => rfl, fun x hx => by cases hx; exact ⟨PySem.W.mg_of X G a157, k157⟩⟩
    have g158 : (fun f F => ∃ t a fd qual, ts f = some t ∧ Fun K t.name qual t.st a fd ∧ agF T t F = true ∧ Binds K fd t.ps [] ∧ ∀ x, T.fname f = some x → mg x = some (.ref a) ∧ PySem.W.keepIn K (.ref a) = true) 158 ⟨2, 2, K09.b_law_list⟩ := by
      have F := fun_mk (st := t158.st) l158 c158 k158
      exact ⟨t158, _, _, _, rfl, F, ag158, F.binds (ps := ["_law_hand", "_law_n"]) fun _ _ _ _ _ _ us hl => match us, hl with | [_, _], _ => rfl, fun x hx => by cases hx; exact ⟨PySem.W.mg_of X G a158, k158⟩⟩
    have g159 : (fun f F => ∃ t a fd qual, ts f = some t ∧ Fun K t.name qual t.st a fd ∧ agF T t F = true ∧ Binds K fd t.ps [] ∧ ∀ x, T.fname f = some x → mg x = some (.ref a) ∧ PySem.W.keepIn K (.ref a) = true) 159 ⟨2, 2, K09.b_law_term⟩ := by
      have F := fun_mk (st := t159.st) l159 c159 k159
      exact ⟨t159, _, _, _, rfl, F, ag159, F.binds (ps := ["_law_hand", "_law_n"]) fun _ _ _ _ _ _ us hl => match us, hl with | [_, _], _ => rfl, fun x hx => by cases hx; exact ⟨PySem.W.mg_of X G a159, k159⟩⟩
    have g160 : (fun f F => ∃ t a fd qual, ts f = some t ∧ Fun K t.name qual t.st a fd ∧ agF T t F = true ∧ Binds K fd t.ps [] ∧ ∀ x, T.fname f = some x → mg x = some (.ref a) ∧ PySem.W.keepIn K (.ref a) = true) 160 ⟨2, 2, K09.b_law_cmp⟩ := by
      have F := fun_mk (st := t160.st) l160 c160 k160
      exact ⟨t160, _, _, _, rfl, F, ag160, F.binds (ps := ["_law_hand", "_law_n"]) fun _ _ _ _ _ _ us hl => match us, hl with | [_, _], _ => rfl, fun x hx => by cases hx; exact ⟨PySem.W.mg_of X G a160, k160⟩⟩
    have g161 : (fun f F => ∃ t a fd qual, ts f = some t ∧ Fun K t.name qual t.st a fd ∧ agF T t F = true ∧ Binds K fd t.ps [] ∧ ∀ x, T.fname f = some x → mg x = some (.ref a) ∧ PySem.W.keepIn K (.ref a) = true) 161 ⟨2, 5, K09.b_law_promise⟩ := by
      have F := fun_mk (st := t161.st) l161 c161 k161
      exact ⟨t161, _, _, _, rfl, F, ag161, F.binds (ps := ["_law_hand", "_law_n"]) fun _ _ _ _ _ _ us hl => match us, hl with | [_, _], _ => rfl, fun x hx => by cases hx; exact ⟨PySem.W.mg_of X G a161, k161⟩⟩
    have g162 : (fun f F => ∃ t a fd qual, ts f = some t ∧ Fun K t.name qual t.st a fd ∧ agF T t F = true ∧ Binds K fd t.ps [] ∧ ∀ x, T.fname f = some x → mg x = some (.ref a) ∧ PySem.W.keepIn K (.ref a) = true) 162 ⟨3, 6, K09.b_law_condition⟩ := by
      have F := fun_mk (st := t162.st) l162 c162 k162
      exact ⟨t162, _, _, _, rfl, F, ag162, F.binds (ps := ["_law_hand", "_law_n", "_law_depth"]) fun _ _ _ _ _ _ us hl => match us, hl with | [_, _, _], _ => rfl, fun x hx => by cases hx; exact ⟨PySem.W.mg_of X G a162, k162⟩⟩
    have g163 : (fun f F => ∃ t a fd qual, ts f = some t ∧ Fun K t.name qual t.st a fd ∧ agF T t F = true ∧ Binds K fd t.ps [] ∧ ∀ x, T.fname f = some x → mg x = some (.ref a) ∧ PySem.W.keepIn K (.ref a) = true) 163 ⟨1, 3, K09.b_law_copied⟩ := by
      have F := fun_mk (st := t163.st) l163 c163 k163
      exact ⟨t163, _, _, _, rfl, F, ag163, F.binds (ps := ["_law_dict_now"]) fun _ _ _ _ _ _ us hl => match us, hl with | [_], _ => rfl, fun x hx => by cases hx; exact ⟨PySem.W.mg_of X G a163, k163⟩⟩
    have g164 : (fun f F => ∃ t a fd qual, ts f = some t ∧ Fun K t.name qual t.st a fd ∧ agF T t F = true ∧ Binds K fd t.ps [] ∧ ∀ x, T.fname f = some x → mg x = some (.ref a) ∧ PySem.W.keepIn K (.ref a) = true) 164 ⟨2, 9, K09.b_law_state⟩ := by
      have F := fun_mk (st := t164.st) l164 c164 k164
      exact ⟨t164, _, _, _, rfl, F, ag164, F.binds (ps := ["_law_hand", "_law_n"]) fun _ _ _ _ _ _ us hl => match us, hl with | [_, _], _ => rfl, fun x hx => by cases hx; exact ⟨PySem.W.mg_of X G a164, k164⟩⟩
    have g165 : (fun f F => ∃ t a fd qual, ts f = some t ∧ Fun K t.name qual t.st a fd ∧ agF T t F = true ∧ Binds K fd t.ps [] ∧ ∀ x, T.fname f = some x → mg x = some (.ref a) ∧ PySem.W.keepIn K (.ref a) = true) 165 ⟨3, 9, K09.b_law_answers⟩ := by
      have F := fun_mk (st := t165.st) l165 c165 k165
      exact ⟨t165, _, _, _, rfl, F, ag165, F.binds (ps := ["_law_state_here", "_law_asked", "_law_kept"]) fun _ _ _ _ _ _ us hl => match us, hl with | [_, _, _], _ => rfl, fun x hx => by cases hx; exact ⟨PySem.W.mg_of X G a165, k165⟩⟩
    have g166 : (fun f F => ∃ t a fd qual, ts f = some t ∧ Fun K t.name qual t.st a fd ∧ agF T t F = true ∧ Binds K fd t.ps [] ∧ ∀ x, T.fname f = some x → mg x = some (.ref a) ∧ PySem.W.keepIn K (.ref a) = true) 166 ⟨1, 9, K09.b_law⟩ := by
      have F := fun_mk (st := t166.st) l166 c166 k166
      exact ⟨t166, _, _, _, rfl, F, ag166, F.binds (ps := ["_law_script"]) fun _ _ _ _ _ _ us hl => match us, hl with | [_], _ => rfl, fun x hx => by cases hx; exact ⟨PySem.W.mg_of X G a166, k166⟩⟩
    exact (And.intro g19 (And.intro g20 (And.intro g138 (And.intro g139 (And.intro g140 (And.intro g141 (And.intro g142 (And.intro g143 (And.intro g144 (And.intro g145 (And.intro g146 (And.intro g147 (And.intro g148 (And.intro g149 (And.intro g150 (And.intro g151 (And.intro g152 (And.intro g153 (And.intro g154 (And.intro g155 (And.intro g156 (And.intro g157 (And.intro g158 (And.intro g159 (And.intro g160 (And.intro g161 (And.intro g162 (And.intro g163 (And.intro g164 (And.intro g165 (And.intro g166 trivial)))))))))))))))))))))))))))))))
  · refine look_all (G := fun f x => (∃ F, P.fns.lookup f = some F) ∨ ∃ t, P.tryf.lookup f = some t) ?_ hx
    exact (And.intro (.inl ⟨_, rfl⟩) (And.intro (.inl ⟨_, rfl⟩) (And.intro (.inl ⟨_, rfl⟩) (And.intro (.inl ⟨_, rfl⟩) (And.intro (.inl ⟨_, rfl⟩) (And.intro (.inl ⟨_, rfl⟩) (And.intro (.inl ⟨_, rfl⟩) (And.intro (.inl ⟨_, rfl⟩) (And.intro (.inl ⟨_, rfl⟩) (And.intro (.inl ⟨_, rfl⟩) (And.intro (.inl ⟨_, rfl⟩) (And.intro (.inl ⟨_, rfl⟩) (And.intro (.inl ⟨_, rfl⟩) (And.intro (.inl ⟨_, rfl⟩) (And.intro (.inl ⟨_, rfl⟩) (And.intro (.inl ⟨_, rfl⟩) (And.intro (.inl ⟨_, rfl⟩) (And.intro (.inl ⟨_, rfl⟩) (And.intro (.inl ⟨_, rfl⟩) (And.intro (.inl ⟨_, rfl⟩) (And.intro (.inl ⟨_, rfl⟩) (And.intro (.inl ⟨_, rfl⟩) (And.intro (.inl ⟨_, rfl⟩) (And.intro (.inl ⟨_, rfl⟩) (And.intro (.inl ⟨_, rfl⟩) (And.intro (.inl ⟨_, rfl⟩) (And.intro (.inl ⟨_, rfl⟩) (And.intro (.inl ⟨_, rfl⟩) (And.intro (.inl ⟨_, rfl⟩) (And.intro (.inl ⟨_, rfl⟩) trivial))))))))))))))))))))))))))))))
  · refine look_all (G := fun c x => ∃ f F t a fd qual, P.init.lookup c = some f ∧ P.fns.lookup f = some F ∧ ts f = some t ∧ Fun K t.name qual t.st a fd ∧ agF T t F = true ∧ Binds K fd t.ps [] ∧ mg x = some (.ref ((([(8, C8)] : List (Nat × Addr)).lookup c).getD 0)) ∧ Mk K ((([(8, C8)] : List (Nat × Addr)).lookup c).getD 0) a) ?_ hx
    have g8 : (fun c x => ∃ f F t a fd qual, P.init.lookup c = some f ∧ P.fns.lookup f = some F ∧ ts f = some t ∧ Fun K t.name qual t.st a fd ∧ agF T t F = true ∧ Binds K fd t.ps [] ∧ mg x = some (.ref ((([(8, C8)] : List (Nat × Addr)).lookup c).getD 0)) ∧ Mk K ((([(8, C8)] : List (Nat × Addr)).lookup c).getD 0) a) 8 "State" := ⟨138, _, t138, _, _, _, rfl, rfl, rfl, fun_mk (st := t138.st) l138 c138 k138, ag138, (fun_mk (st := t138.st) l138 c138 k138).binds (ps := ["self", "numbers", "lists", "old"]) fun _ _ _ _ _ _ us hl => match us, hl with | [_, _, _, _], _ => rfl, PySem.W.mg_of X G aC8, ⟨mk8, a138, i138, kc8⟩⟩
    exact (And.intro g8 trivial)
  · simp [P] at hx
  · have hx := List.contains_iff_mem.mp hx
    simp only [P, List.mem_cons, List.not_mem_nil, or_false, Prod.mk.injEq] at hx
    rcases hx with ⟨rfl, rfl⟩ | ⟨rfl, rfl⟩ | ⟨rfl, rfl⟩
    · exact ⟨⟨pg8, hd8, po8, sa8⟩, fl0⟩
    · exact ⟨⟨pg8, hd8, po8, sa8⟩, fl1⟩
    · exact ⟨⟨pg8, hd8, po8, sa8⟩, fl2⟩
  · refine look_all (G := fun g x => ∃ kvs d, P.gdct.lookup g = some kvs ∧ mg x = some (.ref d) ∧ GDict K w d kvs) ?_ hx
    exact trivial
  · refine look_all (G := fun c x => mg x = some (.ref ((([(8, C8)] : List (Nat × Addr)).lookup c).getD 0)) ∧ _root_.C8.InsC K ((([(8, C8)] : List (Nat × Addr)).lookup c).getD 0)) ?_ hx
    exact trivial
  · cases hx
  · cases hx
  · cases hx
  · cases hx
theorem walk {l : PySem.W.OpenLaw} {q : Program} {loose : List Str} {XP : (Str → Option Value) → Heap → Prop} {YP : World → Heap → Prop} {d : DefRec} {K : Params → PySem.W.Frag} (hn : l.most = some 63) (hdf : d.params.defaults = [])
    (hY : ∀ (w : World) (h : Heap), YP w h → (K w.params).In h)
    (F : ∀ (w : World) (mg : Str → Option Value) (fa : Addr) (h : Heap), (K w.params).In h → h.Ns mainGlobals mg → mg d.name = some (.ref fa) → ∃ Cl : Nat → Addr, PFacts w P T Cl ts (K w.params) mg ∧ ∃ fd : FuncData, (∀ (s : Shared) (v : Value), BindsTo s fd ⟨[v], []⟩ [("_law_script", v)]) ∧ Fun (K w.params) "law" "law" t166.st fa fd) :
    PySem.W.WalkO q loose XP YP l.row.toRowW d [] (fun f vs => PySem.call f vs) :=
  walk_G (n := 63) (k := 4 * 20) (x := "_law_script") hn (by decide) hdf ⟨rfl, by decide, by decide⟩ hY fun w mg fa h KX G hm => by
    obtain ⟨Cl, PF, fd, hb, hf⟩ := F w mg fa h KX G hm
    exact ⟨fd, _, hb, fun base _ _ => fn_all PF 20 166 ⟨1, 9, K09.b_law⟩ rfl t166 fa fd _ rfl hf ag166, law_sp law_pure⟩
end K09
open PySem PySem.W PyProof.Rows in
set_option maxRecDepth 100000 in
set_option maxHeartbeats 0 in
theorem PySem.Challenge.cw_swornrun_k09_truths_and_values_holds : PySem.Challenge.rw_swornrun_k09_truths_and_values.Holds := by
  w_on; o_law; k_head; (case hw => w_witness2)
  k_fill
  refine K09.walk (l := PySem.Challenge.rw_swornrun_k09_truths_and_values) rfl rfl (fun w h Y => PySem.W.kIn_of Y) ?F
  case F =>
    intro w mg fa h KX G hmg
    refine' K09.all_mk KX G hmg ?a19 ?l19 ?c19 ?k19 ?a20 ?l20 ?c20 ?k20 ?a138 ?i138 ?l138 ?c138 ?k138 ?a139 ?l139 ?c139 ?k139 ?a140 ?l140 ?c140 ?k140 ?a141 ?l141 ?c141 ?k141 ?a142 ?l142 ?c142 ?k142 ?a143 ?l143 ?c143 ?k143 ?a144 ?l144 ?c144 ?k144 ?a145 ?l145 ?c145 ?k145 ?a146 ?l146 ?c146 ?k146 ?a147 ?l147 ?c147 ?k147 ?a148 ?l148 ?c148 ?k148 ?a149 ?l149 ?c149 ?k149 ?a150 ?l150 ?c150 ?k150 ?a151 ?l151 ?c151 ?k151 ?a152 ?l152 ?c152 ?k152 ?a153 ?l153 ?c153 ?k153 ?a154 ?l154 ?c154 ?k154 ?a155 ?l155 ?c155 ?k155 ?a156 ?l156 ?c156 ?k156 ?a157 ?l157 ?c157 ?k157 ?a158 ?l158 ?c158 ?k158 ?a159 ?l159 ?c159 ?k159 ?a160 ?l160 ?c160 ?k160 ?a161 ?l161 ?c161 ?k161 ?a162 ?l162 ?c162 ?k162 ?a163 ?l163 ?c163 ?k163 ?a164 ?l164 ?c164 ?k164 ?a165 ?l165 ?c165 ?k165 ?a166 ?l166 ?c166 ?k166 ?aC8 ?pg8 ?hd8 ?po8 ?sa8 ?mk8 ?kc8 ?fl0 ?fl1 ?fl2 ?z0 ?z1 ?z2 ?z3 ?z4 ?z5 ?z6 ?z7 ?z8 ?z9 ?z10 ?z11 ?z12 ?z13 ?z14 ?z15 ?z16 ?z17 ?z18 ?z19
    (case aC8 => k_is)
    (case a19 => k_is)
    (case l19 => k_is)
    (case c19 => k_is)
    (case k19 => k_is)
    (case a20 => k_is)
    (case l20 => k_is)
    (case c20 => k_is)
    (case k20 => k_is)
    (case a138 => k_is)
    (case i138 => k_is)
    (case l138 => k_is)
    (case c138 => k_is)
    (case k138 => k_is)
    (case a139 => k_is)
    (case l139 => k_is)
    (case c139 => k_is)
    (case k139 => k_is)
    (case a140 => k_is)
    (case l140 => k_is)
    (case c140 => k_is)
    (case k140 => k_is)
    (case a141 => k_is)
    (case l141 => k_is)
    (case c141 => k_is)
    (case k141 => k_is)
    (case a142 => k_is)
    (case l142 => k_is)
    (case c142 => k_is)
    (case k142 => k_is)
    (case a143 => k_is)
    (case l143 => k_is)
    (case c143 => k_is)
    (case k143 => k_is)
    (case a144 => k_is)
    (case l144 => k_is)
    (case c144 => k_is)
    (case k144 => k_is)
    (case a145 => k_is)
    (case l145 => k_is)
    (case c145 => k_is)
    (case k145 => k_is)
    (case a146 => k_is)
    (case l146 => k_is)
    (case c146 => k_is)
    (case k146 => k_is)
    (case a147 => k_is)
    (case l147 => k_is)
    (case c147 => k_is)
    (case k147 => k_is)
    (case a148 => k_is)
    (case l148 => k_is)
    (case c148 => k_is)
    (case k148 => k_is)
    (case a149 => k_is)
    (case l149 => k_is)
    (case c149 => k_is)
    (case k149 => k_is)
    (case a150 => k_is)
    (case l150 => k_is)
    (case c150 => k_is)
    (case k150 => k_is)
    (case a151 => k_is)
    (case l151 => k_is)
    (case c151 => k_is)
    (case k151 => k_is)
    (case a152 => k_is)
    (case l152 => k_is)
    (case c152 => k_is)
    (case k152 => k_is)
    (case a153 => k_is)
    (case l153 => k_is)
    (case c153 => k_is)
    (case k153 => k_is)
    (case a154 => k_is)
    (case l154 => k_is)
    (case c154 => k_is)
    (case k154 => k_is)
    (case a155 => k_is)
    (case l155 => k_is)
    (case c155 => k_is)
    (case k155 => k_is)
    (case a156 => k_is)
    (case l156 => k_is)
    (case c156 => k_is)
    (case k156 => k_is)
    (case a157 => k_is)
    (case l157 => k_is)
    (case c157 => k_is)
    (case k157 => k_is)
    (case a158 => k_is)
    (case l158 => k_is)
    (case c158 => k_is)
    (case k158 => k_is)
    (case a159 => k_is)
    (case l159 => k_is)
    (case c159 => k_is)
    (case k159 => k_is)
    (case a160 => k_is)
    (case l160 => k_is)
    (case c160 => k_is)
    (case k160 => k_is)
    (case a161 => k_is)
    (case l161 => k_is)
    (case c161 => k_is)
    (case k161 => k_is)
    (case a162 => k_is)
    (case l162 => k_is)
    (case c162 => k_is)
    (case k162 => k_is)
    (case a163 => k_is)
    (case l163 => k_is)
    (case c163 => k_is)
    (case k163 => k_is)
    (case a164 => k_is)
    (case l164 => k_is)
    (case c164 => k_is)
    (case k164 => k_is)
    (case a165 => k_is)
    (case l165 => k_is)
    (case c165 => k_is)
    (case k165 => k_is)
    (case a166 => k_is)
    (case l166 => k_is)
    (case c166 => k_is)
    (case k166 => k_is)
    (case pg8 => k_is)
    (case hd8 => k_is)
    (case po8 => k_is)
    (case sa8 => k_is)
    (case mk8 => k_is)
    (case kc8 => k_is)
    (case fl0 => k_is)
    (case fl1 => k_is)
    (case fl2 => k_is)
    (case z0 => k_is)
    (case z1 => k_is)
    (case z2 => k_is)
    (case z3 => k_is)
    (case z4 => k_is)
    (case z5 => k_is)
    (case z6 => k_is)
    (case z7 => k_is)
    (case z8 => k_is)
    (case z9 => k_is)
    (case z10 => k_is)
    (case z11 => k_is)
    (case z12 => k_is)
    (case z13 => k_is)
    (case z14 => k_is)
    (case z15 => k_is)
    (case z16 => k_is)
    (case z17 => k_is)
    (case z18 => k_is)
    (case z19 => k_is)

