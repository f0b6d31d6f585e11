import PyProof.Rows.All
import Wide.All
import OpenK.AllK
import Wide.FinOn
import HandS.ForMost
import HandS.Evl
import HandS.Wide
import HandS.IsInst
import HandS.Conv
import HandS.Codes
import HandS.Style
import HandS.TupAny
import HandS.Walk
import HandS.Text
import HandS.HeadHook3
import HandS.ExcInit
import HandS.ExcField
import HandS.ExcOwn
import KE.KExcIs
import PySem.Challenge.RW_swornrun_k24_wrong_rows_of_papers
set_option Elab.async false
set_option linter.all false
set_option maxRecDepth 100000
set_option maxHeartbeats 4000000
set_option maxRecDepth 100000
set_option maxHeartbeats 2000000
/-! VL: values without a heap, an own syntax of the defs, predicate transformers by recursion. -/
namespace VL
open PySem L2

/-- a value: immutable things as they are; what is changed stands in a cell -/
inductive AV where
  | non | bl (b : Bool) | int (i : Int) | str (s : Str)
  | tup (xs : List AV) | lst (xs : List AV) | ro (xs : List AV) | dct (kvs : List (Key × AV))
  | adr (n : Nat)
/-- what is changed -/
inductive Cell where
  | lst (xs : List AV) | dct (kvs : List (Key × AV)) | obj (c : Nat) (fs : List (Str × AV)) | dead
abbrev AHeap := List Cell
inductive Slot where
  | no | val (d : AV) | own (c : Cell)
abbrev Env := List Slot

inductive Tg where
  | nm (i : Nat) | tup (is : List Nat)
inductive Blt where
  | len | abs | int | str | max2 | min2 | maxL | minL | sum | all | any | tuple | repr
deriving DecidableEq
inductive Sm where
  | join
deriving DecidableEq
mutual
inductive E where
  | var (i : Nat) | vw (i : Nat)
  | cint (i : Int) | cstr (s : Str) | cbl (b : Bool) | cnon
  | glob (g : Nat)
  | bin (op : Operator) (a b : E)
  | neg (a : E)
  | cmp (op : CmpOp) (a b : E)
  | chain (o1 o2 : CmpOp) (a b c : E)
  | and (a b : E) | or (a b : E) | not (a : E)
  | ite (c a b : E)
  | tup (es : Es)
  | fz (n : Nw) | new (n : Nw)
  | sub (a i : E)
  | slice (a : E) (lo hi : Oe)
  | call (f : Nat) (es : Es)
  | blt (b : Blt) (es : Es)
  | isi (a : E) (t : String)
  | smt (m : Sm) (o : E) (a : E)
  | attr (a : E) (f : Str)
  | mcall (o : E) (m : Str) (es : Es)
  | make (c : Nat) (es : Es)
  | tru (a : E)
  | isC (a : E) (c : Nat)
  | gIn (neg : Bool) (a : E) (g : Nat)
  | gGet (g : Nat) (a : E)
  | idx (l a : E)
  | revT (a : E)
inductive Es where
  | nil | cons (e : E) (es : Es)
inductive Nw where
  | lst (es : Es)
  | comp (elt : E) (tg : Tg) (it : It) (cond : Oe) (own : List Nat)
  | slice (a : E) (lo hi : Oe)
  | listOf (a : E)
  | cat (a b : E)
  | rep (a b : E)
  | rev (a : E)
  | dct1 (k v : E)
  | split (o a : E)
inductive It where
  | rng1 (a : E) | rng2 (a b : E) | seq (a : E) | own (i : Nat) | chars (a : E)
inductive Oe where
  | no | so (e : E)
end
mutual
inductive S where
  | asg (tg : Tg) (e : E)
  | asgO (i : Nat) (n : Nw)
  | frz (i : Nat)
  | par (i j : Nat) (a b : E)
  | aug (i : Nat) (op : Operator) (e : E)
  | app (i : Nat) (e : E)
  | appE (o e : E)
  | put (i : Nat) (k e : E)
  | putE (o k e : E)
  | fld (o : E) (f : Str) (e : E)
  | expr (e : E)
  | ret (e : E) | retN
  | ite (c : E) (a b : Ss)
  | wh (c : E) (b : Ss)
  | for (tg : Tg) (it : It) (b : Ss)
  | pass | brk | cont | bad
  | rse (c : Nat) (e : E)
inductive Ss where
  | nil | cons (s : S) (r : Ss)
end

/-! ### operations -/
abbrev KA := AV → Prop
def cells (h : AHeap) (n : Nat) : Cell := (h[n]?).getD .dead
/-- the items of a list -/
def view (h : AHeap) : AV → Option (List AV)
  | .lst xs => some xs
  | .ro xs => some xs
  | .adr n => match cells h n with
    | .lst xs => some xs
    | _ => none
  | _ => none
/-- a list that may be glued -/
def viewW (h : AHeap) : AV → Option (List AV)
  | .lst xs => some xs
  | .adr n => match cells h n with
    | .lst xs => some xs
    | _ => none
  | _ => none
def viewT (h : AHeap) : AV → Option (List AV)
  | .tup xs => some xs
  | x => view h x
def viewD (h : AHeap) : AV → Option (List (Key × AV))
  | .dct xs => some xs
  | .adr n => match cells h n with
    | .dct xs => some xs
    | _ => none
  | _ => none
def keyOf : AV → Option Key
  | .int i => some (.inl i)
  | .str s => some (.inr s)
  | _ => none
def getD (kvs : List (Key × AV)) (k : Key) : Option AV := (kvs.find? fun kv => decide (kv.1 = k)).map (·.2)
def putD (kvs : List (Key × AV)) (k : Key) (v : AV) : List (Key × AV) :=
  if (kvs.any fun kv => decide (kv.1 = k)) = true then kvs.map (fun kv => if kv.1 = k then (kv.1, v) else kv) else kvs ++ [(k, v)]
def asInts : List AV → Option (List Int)
  | [] => some []
  | .int i :: r => (asInts r).map (i :: ·)
  | _ => none
def asBools : List AV → Option (List Bool)
  | [] => some []
  | .bl i :: r => (asBools r).map (i :: ·)
  | _ => none
def asStrs : List AV → Option (List Str)
  | [] => some []
  | .str i :: r => (asStrs r).map (i :: ·)
  | _ => none
def cut {α : Type} (xs : List α) (lo hi : Option Int) : List α := (xs.drop (HT.sIx xs.length 0 lo)).take (HT.sIx xs.length xs.length hi - HT.sIx xs.length 0 lo)

mutual
def pd : AV → Option PyData
  | .non => some .none
  | .bl b => some (.bool b)
  | .int i => some (.int i)
  | .str s => some (.str s)
  | .tup xs => (pds xs).map .tuple
  | .lst xs => (pds xs).map .list
  | .ro xs => (pds xs).map .list
  | .dct _ => none
  | .adr _ => none
def pds : List AV → Option (List PyData)
  | [] => some []
  | x :: r => (pd x).bind fun d => (pds r).map (d :: ·)
end
mutual
def pdH (h : AHeap) : AV → Option PyData
  | .non => some .none
  | .bl b => some (.bool b)
  | .int i => some (.int i)
  | .str s => some (.str s)
  | .tup xs => (pdHs h xs).map .tuple
  | .lst xs => (pdHs h xs).map .list
  | .ro xs => (pdHs h xs).map .list
  | .dct _ => none
  | .adr n => match cells h n with
    | .lst xs => (pds xs).map .list
    | _ => none
def pdHs (h : AHeap) : List AV → Option (List PyData)
  | [] => some []
  | x :: r => (pdH h x).bind fun d => (pdHs h r).map (d :: ·)
end

def isNon : AV → Bool
  | .non => true
  | _ => false
def eqGen (h : AHeap) (neg : Bool) (x y : AV) (Q : KA) : Prop :=
  match pdH h x, pdH h y with
  | some d, some e => SeqAt.shaped d = true ∧ SeqAt.shaped e = true ∧ Q (.bl (if neg then !PyData.eqv d e else PyData.eqv d e))
  | _, _ => False
def eqK (h : AHeap) (x y : AV) (Q : KA) : Prop :=
  match x, y with
  | .int i, .int j => Q (.bl (decide (i = j)))
  | .str i, .str j => Q (.bl (decide (i = j)))
  | .bl i, .bl j => Q (.bl (decide (i = j)))
  | .non, .non => Q (.bl true)
  | .int _, .str _ => Q (.bl false)
  | .str _, .int _ => Q (.bl false)
  | x, y => eqGen h false x y Q
def neK (h : AHeap) (x y : AV) (Q : KA) : Prop :=
  match x, y with
  | .int i, .int j => Q (.bl (!decide (i = j)))
  | .str i, .str j => Q (.bl (!decide (i = j)))
  | .bl i, .bl j => Q (.bl (!decide (i = j)))
  | .non, .non => Q (.bl false)
  | .int _, .str _ => Q (.bl true)
  | .str _, .int _ => Q (.bl true)
  | x, y => eqGen h true x y Q
def flatA : AV → Bool
  | .non => true
  | .bl _ => true
  | .int _ => true
  | .str _ => true
  | _ => false
def eqF : AV → AV → Bool
  | .non, .non => true
  | .bl a, .bl b => a == b
  | .bl a, .int b => (if a then 1 else 0) == b
  | .int a, .bl b => a == (if b then 1 else 0)
  | .int a, .int b => a == b
  | .str a, .str b => a == b
  | _, _ => false
def inK (h : AHeap) (neg : Bool) (x y : AV) (Q : KA) : Prop :=
  match y with
  | .str z => match x with
    | .str w => match w.cps.toList with
      | [c] => Q (.bl (if neg then !decide (c ∈ z.cps.toList) else decide (c ∈ z.cps.toList)))
      | _ => False
    | _ => False
  | y => match viewT h y with
    | some xs => flatA x = true ∧ xs.all flatA = true ∧ Q (.bl (if neg then !(xs.any fun y => eqF y x) else xs.any fun y => eqF y x))
    | none => match viewD h y, keyOf x with
      | some kvs, some k => Q (.bl (if neg then !(getD kvs k).isSome else (getD kvs k).isSome))
      | _, _ => False
def cmpK (h : AHeap) (op : CmpOp) (x y : AV) (Q : KA) : Prop :=
  match op with
  | .Eq => eqK h x y Q
  | .NotEq => neK h x y Q
  | .Lt => match x, y with
    | .int i, .int j => Q (.bl (decide (i < j)))
    | _, _ => False
  | .LtE => match x, y with
    | .int i, .int j => Q (.bl (decide (i ≤ j)))
    | _, _ => False
  | .Gt => match x, y with
    | .int i, .int j => Q (.bl (decide (j < i)))
    | _, _ => False
  | .GtE => match x, y with
    | .int i, .int j => Q (.bl (decide (j ≤ i)))
    | _, _ => False
  | .Is => match y with
    | .non => Q (.bl (isNon x))
    | .bl k => match x with
      | .bl j => Q (.bl (decide (j = k)))
      | _ => False
    | _ => False
  | .IsNot => match y with
    | .non => Q (.bl (!isNon x))
    | .bl k => match x with
      | .bl j => Q (.bl (!decide (j = k)))
      | _ => False
    | _ => False
  | .In => inK h false x y Q
  | .NotIn => inK h true x y Q
def CDivA (j : Int) : Prop := 0 < j ∧ j.natAbs.log2 < 9000
def CMulA (i j : Int) : Prop := CMul i j ∨ CMulW i j
def addK (h : AHeap) (x y : AV) (Q : KA) : Prop :=
  match x, y with
  | .int i, .int j => Q (.int (i + j))
  | .str i, .str j => i.length + j.length ≤ sizeLine ∧ Q (.str (i ++ j))
  | .tup xs, .tup ys => xs.length + ys.length ≤ sizeLine ∧ Q (.tup (xs ++ ys))
  | _, _ => False
def strRep (x : Str) (n : Int) : Str := if n < 1 then Str.empty else if (n == 1 || x.length == 0) = true then x else ⟨(List.replicate n.toNat x.cps).foldl (· ++ ·) #[]⟩
def binK (h : AHeap) (op : Operator) (x y : AV) (Q : KA) : Prop :=
  match op with
  | .Add => addK h x y Q
  | .Sub => match x, y with
    | .int i, .int j => Q (.int (i - j))
    | _, _ => False
  | .Mult => match x, y with
    | .int i, .int j => CMulA i j ∧ Q (.int (i * j))
    | .str z, .int j => (-(2 ^ 60) < j ∧ j < 2 ^ 60 ∧ z.length * j.toNat ≤ 1000000) ∧ Q (.str (strRep z j))
    | _, _ => False
  | .FloorDiv => match x, y with
    | .int i, .int j => CDivA j ∧ Q (.int (i / j))
    | _, _ => False
  | .Mod => match x, y with
    | .int i, .int j => 0 < j ∧ Q (.int (i % j))
    | _, _ => False
  | .Pow => match x, y with
    | .int i, .int j => CPow i j ∧ Q (.int (i ^ j.toNat))
    | _, _ => False
  | _ => False
def negK (x : AV) (Q : KA) : Prop :=
  match x with
  | .int i => Q (.int (-i))
  | _ => False
def subK (h : AHeap) (x y : AV) (Q : KA) : Prop :=
  match x with
  | .str z => match y with
    | .int i => z.length ≤ sizeLine ∧ match atI z.cps.toList i with
      | some c => Q (.str ⟨#[c]⟩)
      | none => False
    | _ => False
  | x => match viewT h x with
    | some xs => match y with
      | .int i => match atI xs i with
        | some d => Q d
        | none => False
      | _ => False
    | none => match viewD h x, keyOf y with
      | some kvs, some k => match getD kvs k with
        | some d => Q d
        | none => False
      | _, _ => False
def sliceK (h : AHeap) (x : AV) (lo hi : Option Int) (Q : KA) : Prop :=
  match x with
  | .str z => z.length ≤ sizeLine ∧ Q (.str (cutS z lo hi))
  | .tup xs => Q (.tup (cut xs lo hi))
  | _ => False
def truK (h : AHeap) (x : AV) (Q : Bool → Prop) : Prop :=
  match x with
  | .bl b => Q b
  | .non => Q false
  | .int i => Q (i != 0)
  | .str y => y.length ≤ sizeLine ∧ Q ((y.length : Int) != 0)
  | x => match viewT h x with
    | some xs => Q (!xs.isEmpty)
    | none => False
def bltK (h : AHeap) (b : Blt) (vs : List AV) (Q : KA) : Prop :=
  match b, vs with
  | .len, [.str z] => z.length ≤ sizeLine ∧ Q (.int z.length)
  | .len, [x] => match viewT h x with
    | some xs => Q (.int xs.length)
    | none => match viewD h x with
      | some kvs => Q (.int kvs.length)
      | none => False
  | .abs, [.int i] => Q (.int (if i < 0 then -i else i))
  | .int, [.int i] => Q (.int i)
  | .int, [.bl k] => Q (.int (if k then 1 else 0))
  | .int, [.str z] => match PySem.intText? z with
    | some n => z.length ≤ 640 ∧ Q (.int n)
    | none => False
  | .str, [.int i] => i.natAbs.log2 < 1920 ∧ Q (.str (toString i))
  | .max2, [.int i, .int j] => Q (.int (if j > i then j else i))
  | .min2, [.int i, .int j] => Q (.int (if j < i then j else i))
  | .maxL, [x] => match (view h x).bind asInts with
    | some ns => 0 < ns.length ∧ ∀ m, m ∈ ns → (∀ y, y ∈ ns → y ≤ m) → Q (.int m)
    | none => False
  | .minL, [x] => match (view h x).bind asInts with
    | some ns => 0 < ns.length ∧ ∀ m, m ∈ ns → (∀ y, y ∈ ns → m ≤ y) → Q (.int m)
    | none => False
  | .sum, [x] => match (view h x).bind asInts with
    | some ns => Q (.int ns.sum)
    | none => False
  | .all, [x] => match (view h x).bind asBools with
    | some bs => Q (.bl (bs.all id))
    | none => False
  | .any, [x] => match (view h x).bind asBools with
    | some bs => Q (.bl (bs.any id))
    | none => False
  | .repr, [x] => match pdH h x with
    | some d => (d.showable = true ∧ d.hasDict = false ∧ d.depth ≤ 50 ∧ d.shown.length ≤ sizeLine) ∧ Q (.str d.shown)
    | none => False
  | .tuple, [.tup xs] => Q (.tup xs)
  | .tuple, [x] => match view h x with
    | some xs => Q (.tup xs)
    | none => False
  | _, _ => False
/-- isinstance against a built-in type -/
def isiK (x : AV) (t : String) (h : AHeap) (Q : KA) : Prop :=
  match x with
  | .non => (t = "int" ∨ t = "bool" ∨ t = "str" ∨ t = "list" ∨ t = "tuple") ∧ Q (.bl false)
  | .bl _ => (t = "int" ∧ Q (.bl true)) ∨ (t = "bool" ∧ Q (.bl true)) ∨ ((t = "str" ∨ t = "list" ∨ t = "tuple") ∧ Q (.bl false))
  | .int _ => (t = "int" ∧ Q (.bl true)) ∨ ((t = "bool" ∨ t = "str" ∨ t = "list" ∨ t = "tuple") ∧ Q (.bl false))
  | .str _ => (t = "str" ∧ Q (.bl true)) ∨ ((t = "bool" ∨ t = "int" ∨ t = "list" ∨ t = "tuple") ∧ Q (.bl false))
  | .tup _ => (t = "tuple" ∧ Q (.bl true)) ∨ ((t = "bool" ∨ t = "int" ∨ t = "list" ∨ t = "str") ∧ Q (.bl false))
  | .dct _ => False
  | x => match view h x with
    | some _ => (t = "list" ∧ Q (.bl true)) ∨ ((t = "bool" ∨ t = "int" ∨ t = "tuple" ∨ t = "str") ∧ Q (.bl false))
    | none => False
def smtK (h : AHeap) (m : Sm) (z : Str) (a : AV) (Q : KA) : Prop :=
  match m with
  | .join => match (viewT h a).bind asStrs with
    | some ys => (ys.map (·.length)).sum + ys.length * z.length ≤ 16777216 ∧ Q (.str (Txt.join z ys))
    | none => False

/-- the place of an item in a list -/
def idxK (h : AHeap) (x y : AV) (Q : KA) : Prop :=
  match view h x with
  | some xs => flatA y = true ∧ xs.all flatA = true ∧ match xs.findIdx? (fun z => eqF z y) with
    | some j => Q (.int (j : Int))
    | none => False
  | none => False
/-- a key of a dict of the module -/
def gInK (kvs : Option (List (Str × Int))) (neg : Bool) (x : AV) (Q : Bool → Prop) : Prop :=
  match kvs with
  | some kvs => match x with
    | .str z => Q (if neg then !(kvs.lookup z).isSome else (kvs.lookup z).isSome)
    | _ => False
  | none => False
def gGetK (kvs : Option (List (Str × Int))) (x : AV) (Q : KA) : Prop :=
  match kvs with
  | some kvs => match x with
    | .str z => match kvs.lookup z with
      | some i => Q (.int i)
      | none => False
    | _ => False
  | none => False
def isCK (h : AHeap) (c : Nat) (x : AV) (Q : KA) : Prop :=
  match x with
  | .adr n => match cells h n with
    | .obj c' _ => c' = c ∧ Q (.bl true)
    | _ => False
  | _ => False

/-! ### the transformers -/
structure Ctx where
  glob : Nat → Option AV
  call : Nat → List AV → AHeap → (AV → AHeap → Prop) → Prop
  meth : Nat → Str → Option Nat
  init : Nat → Option Nat
  fld : Nat → Str → Bool
  gdct : Nat → Option (List (Str × Int))

def getS : Env → Nat → Slot
  | [], _ => .no
  | x :: _, 0 => x
  | _ :: r, n + 1 => getS r n
def setS : Env → Nat → Slot → Env
  | [], _, _ => []
  | _ :: r, 0, v => v :: r
  | x :: r, n + 1, v => x :: setS r n v
def wipeS (ρ : Env) : List Nat → Env
  | [] => ρ
  | v :: vs => setS (wipeS ρ vs) v .no
def setsS : Env → List Nat → List AV → Option Env
  | ρ, [], [] => some ρ
  | ρ, i :: is, x :: xs => setsS (setS ρ i (.val x)) is xs
  | _, _, _ => none
def tgK (tg : Tg) (x : AV) (ρ : Env) (Q : Env → Prop) : Prop :=
  match tg with
  | .nm i => Q (setS ρ i (.val x))
  | .tup is => match x with
    | .tup xs => match setsS ρ is xs with
      | some ρ' => Q ρ'
      | none => False
    | _ => False

/-- a comprehension's loop: B gives an item, or none -/
def compL (B : AV → AHeap → (Option AV → AHeap → Prop) → Prop) (chk : AHeap → Prop) : List AV → List AV → AHeap → (List AV → AHeap → Prop) → Prop
  | [], acc, h, Q => chk h ∧ Q acc h
  | x :: xs, acc, h, Q => chk h ∧ B x h fun r h' => compL B chk xs (match r with | some y => acc ++ [y] | none => acc) h' Q

mutual
def WpE (C : Ctx) : Bool → E → Env → AHeap → (AV → AHeap → Prop) → Prop
  | _, .var i, ρ, h, Q => match getS ρ i with
    | .val d => Q d h
    | _ => False
  | true, .vw i, ρ, h, Q => match getS ρ i with
    | .own (.lst xs) => Q (.lst xs) h
    | .own (.dct xs) => Q (.dct xs) h
    | _ => False
  | false, .vw _, _, _, _ => False
  | _, .tru _, _, _, _ => False
  | _, .cint i, _, h, Q => Q (.int i) h
  | _, .cstr s, _, h, Q => Q (.str s) h
  | _, .cbl b, _, h, Q => Q (.bl b) h
  | _, .cnon, _, h, Q => Q .non h
  | _, .glob g, _, h, Q => match C.glob g with
    | some d => Q d h
    | none => False
  | _, .bin op a b, ρ, h, Q => WpE C false a ρ h fun x h1 => WpE C false b ρ h1 fun y h2 => binK h2 op x y fun z => Q z h2
  | _, .neg a, ρ, h, Q => WpE C false a ρ h fun x h1 => negK x fun z => Q z h1
  | _, .cmp op a b, ρ, h, Q => WpE C true a ρ h fun x h1 => WpE C true b ρ h1 fun y h2 => cmpK h2 op x y fun z => Q z h2
  | _, .chain o1 o2 a b c, ρ, h, Q => WpE C false a ρ h fun x h1 => WpE C false b ρ h1 fun y h2 => cmpK h2 o1 x y fun z => match z with
    | .bl true => WpE C false c ρ h2 fun w h3 => cmpK h3 o2 y w fun z => Q z h3
    | .bl false => Q (.bl false) h2
    | _ => False
  | _, .and a b, ρ, h, Q => WpE C false a ρ h fun x h1 => match x with
    | .bl true => WpE C false b ρ h1 Q
    | .bl false => Q (.bl false) h1
    | _ => False
  | _, .or a b, ρ, h, Q => WpE C false a ρ h fun x h1 => match x with
    | .bl false => WpE C false b ρ h1 Q
    | .bl true => Q (.bl true) h1
    | _ => False
  | _, .not a, ρ, h, Q => WpE C false a ρ h fun x h1 => match x with
    | .bl b => Q (.bl (!b)) h1
    | _ => False
  | _, .ite c a b, ρ, h, Q => WpT C c ρ h fun k h1 => if k = true then WpE C false a ρ h1 Q else WpE C false b ρ h1 Q
  | _, .tup es, ρ, h, Q => WpEs C es ρ h fun xs h1 => xs.length ≤ sizeLine ∧ Q (.tup xs) h1
  | _, .fz n, ρ, h, Q => WpN C n ρ h fun c h1 => match c with
    | .lst xs => Q (.lst xs) h1
    | .dct xs => Q (.dct xs) h1
    | _ => False
  | _, .new n, ρ, h, Q => WpN C n ρ h fun c h1 => Q (.adr h1.length) (h1 ++ [c])
  | _, .sub a i, ρ, h, Q => WpE C true a ρ h fun x h1 => WpE C false i ρ h1 fun y h2 => subK h2 x y fun z => Q z h2
  | _, .slice a lo hi, ρ, h, Q => WpE C false a ρ h fun x h1 => WpO C lo ρ h1 fun l h2 => WpO C hi ρ h2 fun u h3 => sliceK h3 x l u fun z => Q z h3
  | _, .call f es, ρ, h, Q => WpEs C es ρ h fun xs h1 => C.call f xs h1 Q
  | _, .blt b es, ρ, h, Q => WpBs C es ρ h fun xs h1 => bltK h1 b xs fun z => Q z h1
  | _, .isi a t, ρ, h, Q => WpE C true a ρ h fun x h1 => isiK x t h1 fun z => Q z h1
  | _, .smt m o a, ρ, h, Q => WpE C false o ρ h fun x h1 => match x with
    | .str z => WpE C true a ρ h1 fun y h2 => smtK h2 m z y fun z => Q z h2
    | _ => False
  | _, .attr a f, ρ, h, Q => WpE C false a ρ h fun x h1 => match x with
    | .adr n => match cells h1 n with
      | .obj c fs => C.fld c f = true ∧ match fs.lookup f with
        | some d => Q d h1
        | none => False
      | _ => False
    | _ => False
  | _, .mcall o m es, ρ, h, Q => WpE C false o ρ h fun x h1 => match x with
    | .adr n => match cells h1 n with
      | .obj c fs => match fs.lookup m with
        | some _ => False
        | none => match C.meth c m with
          | some f => WpEs C es ρ h1 fun xs h2 => C.call f (x :: xs) h2 Q
          | none => False
      | _ => False
    | _ => False
  | _, .make c es, ρ, h, Q => WpEs C es ρ h fun xs h1 => match C.init c with
    | some f => C.call f (.adr h1.length :: xs) (h1 ++ [.obj c []]) fun r h2 => match r with
      | .non => Q (.adr h1.length) h2
      | _ => False
    | none => False
  | _, .isC a c, ρ, h, Q => WpE C false a ρ h fun x h1 => isCK h1 c x fun z => Q z h1
  | _, .gIn neg a g, ρ, h, Q => WpE C false a ρ h fun x h1 => gInK (C.gdct g) neg x fun k => Q (.bl k) h1
  | _, .gGet g a, ρ, h, Q => WpE C false a ρ h fun x h1 => gGetK (C.gdct g) x fun z => Q z h1
  | _, .idx l a, ρ, h, Q => WpE C true l ρ h fun x h1 => (view h1 x).isSome = true ∧ WpE C false a ρ h1 fun y h2 => idxK h2 x y fun z => Q z h2
  | _, .revT a, ρ, h, Q => WpE C false a ρ h fun x h1 => match x with
    | .tup xs => Q (.tup xs.reverse) h1
    | _ => False
def WpEs (C : Ctx) : Es → Env → AHeap → (List AV → AHeap → Prop) → Prop
  | .nil, _, h, Q => Q [] h
  | .cons e es, ρ, h, Q => WpE C false e ρ h fun x h1 => WpEs C es ρ h1 fun xs h2 => Q (x :: xs) h2
def WpBs (C : Ctx) : Es → Env → AHeap → (List AV → AHeap → Prop) → Prop
  | .nil, _, h, Q => Q [] h
  | .cons e es, ρ, h, Q => WpE C true e ρ h fun x h1 => WpBs C es ρ h1 fun xs h2 => Q (x :: xs) h2
def WpO (C : Ctx) : Oe → Env → AHeap → (Option Int → AHeap → Prop) → Prop
  | .no, _, h, Q => Q none h
  | .so e, ρ, h, Q => WpE C false e ρ h fun x h1 => match x with
    | .int i => Q (some i) h1
    | _ => False
def WpN (C : Ctx) : Nw → Env → AHeap → (Cell → AHeap → Prop) → Prop
  | .lst es, ρ, h, Q => WpEs C es ρ h fun xs h1 => xs.length ≤ sizeLine ∧ Q (.lst xs) h1
  | .comp elt tg it cond own, ρ, h, Q => WpI C it ρ h fun xs chk h1 => xs.length ≤ sizeLine ∧ compL (fun x h2 R => tgK tg x (wipeS ρ own) fun ρ2 => WpC C cond ρ2 h2 fun k h3 => if k = true then WpE C false elt ρ2 h3 fun y h4 => R (some y) h4 else R none h3) chk xs [] h1 fun acc h2 => Q (.lst acc) h2
  | .slice a lo hi, ρ, h, Q => WpE C true a ρ h fun x h1 => WpO C lo ρ h1 fun l h2 => WpO C hi ρ h2 fun u h3 => match view h3 x with
    | some xs => Q (.lst (cut xs l u)) h3
    | none => False
  | .listOf a, ρ, h, Q => WpE C true a ρ h fun x h1 => match viewT h1 x with
    | some xs => Q (.lst xs) h1
    | none => False
  | .cat a b, ρ, h, Q => WpE C true a ρ h fun x h1 => WpE C true b ρ h1 fun y h2 => match viewW h2 x, viewW h2 y with
    | some xs, some ys => xs.length + ys.length ≤ sizeLine ∧ Q (.lst (xs ++ ys)) h2
    | _, _ => False
  | .rep a b, ρ, h, Q => WpE C true a ρ h fun x h1 => WpE C false b ρ h1 fun y h2 => match viewW h2 x, y with
    | some xs, .int k => (-(2 ^ 63) ≤ k ∧ k < 2 ^ 63) ∧ xs.length * k.toNat ≤ sizeLine ∧ Q (.lst (List.replicate k.toNat xs).flatten) h2
    | _, _ => False
  | .rev a, ρ, h, Q => WpE C true a ρ h fun x h1 => match view h1 x with
    | some xs => Q (.lst xs.reverse) h1
    | none => False
  | .dct1 k v, ρ, h, Q => WpE C false k ρ h fun x h1 => WpE C false v ρ h1 fun y h2 => match keyOf x with
    | some k => Q (.dct [(k, y)]) h2
    | none => False
  | .split o a, ρ, h, Q => WpE C false o ρ h fun x h1 => match x with
    | .str z => WpE C false a ρ h1 fun y h2 => match y with
      | .str s => (s.length == 0) = false ∧ z.length + 2 ≤ sizeLine ∧ Q (.lst ((Txt.split z s).map .str)) h2
      | _ => False
    | _ => False
/-- what is walked: the items; what must stay so while they are -/
def WpI (C : Ctx) : It → Env → AHeap → (List AV → (AHeap → Prop) → AHeap → Prop) → Prop
  | .rng1 a, ρ, h, Q => WpE C false a ρ h fun x h1 => match x with
    | .int n => (-(2 ^ 62) ≤ n ∧ n < 2 ^ 62) ∧ Q ((List.range n.toNat).map fun (k : Nat) => .int (k : Int)) (fun _ => True) h1
    | _ => False
  | .rng2 a b, ρ, h, Q => WpE C false a ρ h fun x h1 => WpE C false b ρ h1 fun y h2 => match x, y with
    | .int i, .int n => (-(2 ^ 62) ≤ i ∧ i < 2 ^ 62 ∧ -(2 ^ 62) ≤ n ∧ n < 2 ^ 62) ∧ Q ((List.range (n - i).toNat).map fun (k : Nat) => .int (i + (k : Int))) (fun _ => True) h2
    | _, _ => False
  | .own i, ρ, h, Q => match getS ρ i with
    | .own (.lst xs) => Q xs (fun _ => True) h
    | _ => False
  | .seq a, ρ, h, Q => WpE C false a ρ h fun x h1 => match viewT h1 x with
    | some xs => Q xs (fun h' => viewT h' x = some xs) h1
    | none => False
  | .chars a, ρ, h, Q => WpE C false a ρ h fun x h1 => match x with
    | .str z => Q (z.cps.toList.map fun c => .str ⟨#[c]⟩) (fun _ => True) h1
    | _ => False
def WpC (C : Ctx) : Oe → Env → AHeap → (Bool → AHeap → Prop) → Prop
  | .no, _, h, Q => Q true h
  | .so e, ρ, h, Q => WpT C e ρ h Q
/-- a test -/
def WpT (C : Ctx) : E → Env → AHeap → (Bool → AHeap → Prop) → Prop
  | .and a b, ρ, h, Q => WpT C a ρ h fun k h1 => if k = true then WpT C b ρ h1 Q else Q false h1
  | .or a b, ρ, h, Q => WpT C a ρ h fun k h1 => if k = true then Q true h1 else WpT C b ρ h1 Q
  | .not a, ρ, h, Q => WpT C a ρ h fun k h1 => Q (!k) h1
  | .cmp op a b, ρ, h, Q => WpE C true a ρ h fun x h1 => WpE C true b ρ h1 fun y h2 => cmpK h2 op x y fun z => match z with
    | .bl k => Q k h2
    | _ => False
  | .chain o1 o2 a b c, ρ, h, Q => WpE C false a ρ h fun x h1 => WpE C false b ρ h1 fun y h2 => cmpK h2 o1 x y fun z => match z with
    | .bl true => WpE C false c ρ h2 fun w h3 => cmpK h3 o2 y w fun z => match z with
      | .bl k => Q k h3
      | _ => False
    | .bl false => Q false h2
    | _ => False
  | .cbl b, _, h, Q => Q b h
  | .gIn neg a g, ρ, h, Q => WpE C false a ρ h fun x h1 => gInK (C.gdct g) neg x fun k => Q k h1
  | .tru e, ρ, h, Q => WpE C false e ρ h fun x h1 => truK h1 x fun k => Q k h1
  | _, _, _, _ => False
end

/-! ### statements -/
structure Kt where
  nx : Env → AHeap → Prop
  rt : AV → AHeap → Prop
  bk : Env → AHeap → Prop := fun _ _ => False
  ct : Env → AHeap → Prop := fun _ _ => False
  ex : Nat → Int → AHeap → Prop := fun _ _ _ => False
def forL (B : AV → Kt → Env → AHeap → Prop) (chk : AHeap → Prop) (D : Kt) : List AV → Env → AHeap → Prop
  | [], ρ, h => chk h ∧ D.nx ρ h
  | x :: xs, ρ, h => chk h ∧ B x { D with nx := forL B chk D xs, ct := forL B chk D xs, bk := D.nx } ρ h
def whL (T : Env → AHeap → (Bool → AHeap → Prop) → Prop) (B : Kt → Env → AHeap → Prop) (D : Kt) (ρ : Env) (h : AHeap) : Prop :=
  ∃ W : Nat → Env → AHeap → Prop, (∃ m, W m ρ h) ∧ ∀ m ρ h, W m ρ h → T ρ h fun b h1 =>
    if b = true then B { D with nx := fun ρ' h' => ∃ m', m' < m ∧ W m' ρ' h', ct := fun ρ' h' => ∃ m', m' < m ∧ W m' ρ' h', bk := D.nx } ρ h1 else D.nx ρ h1
def putFA (f : Str) (v : AV) : List (Str × AV) → List (Str × AV)
  | [] => [(f, v)]
  | (g, u) :: r => if g = f then (g, v) :: r else (g, u) :: putFA f v r
/-- a cell's item stored: o[k] = d -/
def putC (c : Cell) (k d : AV) (Q : Cell → Prop) : Prop :=
  match c with
  | .lst xs => match k with
    | .int i => match ixN xs.length i with
      | some j => Q (.lst (xs.set j d))
      | none => False
    | _ => False
  | .dct kvs => match keyOf k with
    | some k => kvs.length < 100000 ∧ Q (.dct (putD kvs k d))
    | none => False
  | _ => False
def appC (c : Cell) (d : AV) (Q : Cell → Prop) : Prop :=
  match c with
  | .lst xs => xs.length < sizeLine ∧ Q (.lst (xs ++ [d]))
  | _ => False
def augK (op : Operator) (x y : AV) (Q : KA) : Prop :=
  match op, x, y with
  | .Add, .int i, .int j => Q (.int (i + j))
  | .Sub, .int i, .int j => Q (.int (i - j))
  | _, _, _ => False
mutual
def WpS (C : Ctx) : S → Kt → Env → AHeap → Prop
  | .asg tg e, D, ρ, h => WpE C false e ρ h fun x h1 => tgK tg x ρ fun ρ' => D.nx ρ' h1
  | .asgO i n, D, ρ, h => WpN C n ρ h fun c h1 => D.nx (setS ρ i (.own c)) h1
  | .frz i, D, ρ, h => match getS ρ i with
    | .own (.lst xs) => D.nx (setS ρ i (.val (.lst xs))) h
    | .own (.dct xs) => D.nx (setS ρ i (.val (.dct xs))) h
    | _ => False
  | .par i j a b, D, ρ, h => WpE C false a ρ h fun x h1 => WpE C false b ρ h1 fun y h2 => D.nx (setS (setS ρ i (.val x)) j (.val y)) h2
  | .aug i op e, D, ρ, h => match getS ρ i with
    | .val x => WpE C false e ρ h fun y h1 => augK op x y fun z => D.nx (setS ρ i (.val z)) h1
    | _ => False
  | .app i e, D, ρ, h => match getS ρ i with
    | .own (.lst xs) => WpE C false e ρ h fun d h1 => xs.length < sizeLine ∧ D.nx (setS ρ i (.own (.lst (xs ++ [d])))) h1
    | _ => False
  | .appE o e, D, ρ, h => WpE C false o ρ h fun x h1 => match x with
    | .adr n => match cells h1 n with
      | .lst _ => WpE C false e ρ h1 fun d h2 => appC (cells h2 n) d fun c' => D.nx ρ (h2.set n c')
      | _ => False
    | _ => False
  | .put i k e, D, ρ, h => match getS ρ i with
    | .own c => WpE C false e ρ h fun d h1 => WpE C false k ρ h1 fun y h2 => putC c y d fun c' => D.nx (setS ρ i (.own c')) h2
    | _ => False
  | .putE o k e, D, ρ, h => WpE C false e ρ h fun d h1 => WpE C false o ρ h1 fun x h2 => WpE C false k ρ h2 fun y h3 => match x with
    | .adr n => putC (cells h3 n) y d fun c' => D.nx ρ (h3.set n c')
    | _ => False
  | .fld o f e, D, ρ, h => WpE C false e ρ h fun d h1 => WpE C false o ρ h1 fun x h2 => match x with
    | .adr n => match cells h2 n with
      | .obj c fs => C.fld c f = true ∧ fs.length < 1000 ∧ D.nx ρ (h2.set n (.obj c (putFA f d fs)))
      | _ => False
    | _ => False
  | .expr e, D, ρ, h => WpE C false e ρ h fun _ h1 => D.nx ρ h1
  | .ret e, D, ρ, h => WpE C false e ρ h fun d h1 => D.rt d h1
  | .retN, D, _, h => D.rt .non h
  | .ite c a b, D, ρ, h => WpT C c ρ h fun k h1 => if k = true then WpSs C a D ρ h1 else WpSs C b D ρ h1
  | .wh c b, D, ρ, h => whL (WpT C c) (WpSs C b) D ρ h
  | .for tg it b, D, ρ, h => WpI C it ρ h fun xs chk h1 => forL (fun x D ρ h => tgK tg x ρ fun ρ' => WpSs C b D ρ' h) chk D xs ρ h1
  | .pass, D, ρ, h => D.nx ρ h
  | .brk, D, ρ, h => D.bk ρ h
  | .cont, D, ρ, h => D.ct ρ h
  | .bad, _, _, _ => False
  | .rse c e, D, ρ, h => WpE C false e ρ h fun x h1 => match x with
    | .int n => D.ex c n h1
    | _ => False
def WpSs (C : Ctx) : Ss → Kt → Env → AHeap → Prop
  | .nil, D, ρ, h => D.nx ρ h
  | .cons s r, D, ρ, h => WpS C s { D with nx := WpSs C r D } ρ h
end

/-! ### a program -/
structure Fn where
  np : Nat
  ns : Nat
  body : Ss
/-! a def that tries a call: what the clause tells of the exception -/
inductive HB where
  | isC (c : Nat) | isT (cs : List Nat) | isVE | row
  | and (a b : HB) | or (a b : HB) | not (a : HB)
inductive HE where
  | non | bl (b : Bool) | row | hb (b : HB) | pair (s : Str)
inductive AT where
  | v (i : Nat) | s (z : Str)
structure TryF where
  g : Nat
  np : Nat
  ns : Nat
  args : List AT
  c : Nat
  i : Nat
  ok : Option (Option Str)
  gs : List (HB × HE)
  fin : Option HE
  aft : Option AV
structure Prg where
  fns : List (Nat × Fn)
  glob : List (Nat × AV) := []
  meth : List ((Nat × Str) × Nat) := []
  init : List (Nat × Nat) := []
  flds : List (Nat × Str) := []
  gdct : List (Nat × List (Str × Int)) := []
  tryf : List (Nat × TryF) := []
  sub : List ((Nat × Nat) × Bool) := []
def startS (F : Fn) (args : List AV) : Env := args.map .val ++ List.replicate (F.ns - args.length) .no
def ctxOf (P : Prg) (call : Nat → List AV → AHeap → (AV → AHeap → Prop) → Prop) : Ctx where
  glob g := P.glob.lookup g
  call := call
  meth c m := P.meth.lookup (c, m)
  init c := P.init.lookup c
  fld c f := P.flds.contains (c, f)
  gdct g := P.gdct.lookup g
/-- what the clause's tests say of an exception of the class c -/
def hbV (P : Prg) (c : Nat) : HB → Option Bool
  | .isC d => P.sub.lookup (c, d)
  | .isT ds => anyT P c ds
  | .isVE => some true
  | .row => some false
  | .and a b => match hbV P c a with
    | some true => hbV P c b
    | some false => some false
    | none => none
  | .or a b => match hbV P c a with
    | some true => some true
    | some false => hbV P c b
    | none => none
  | .not a => (hbV P c a).map (!·)
where anyT (P : Prg) (c : Nat) : List Nat → Option Bool
  | [] => some false
  | d :: r => match P.sub.lookup (c, d) with
    | some true => some true
    | some false => anyT P c r
    | none => none
def heV (P : Prg) (c : Nat) (n : Int) : HE → Option AV
  | .non => some .non
  | .bl b => some (.bl b)
  | .row => some (.int n)
  | .hb b => (hbV P c b).map .bl
  | .pair s => some (.tup [.str s, .int n])
def gsV (P : Prg) (c : Nat) (n : Int) (t : TryF) : List (HB × HE) → Option AV
  | [] => match t.fin with
    | some e => heV P c n e
    | none => t.aft
  | (b, e) :: r => match hbV P c b with
    | some true => heV P c n e
    | some false => gsV P c n t r
    | none => none
/-- what the clause returns -/
def tryV (P : Prg) (c : Nat) (n : Int) (t : TryF) : Option AV := match P.sub.lookup (c, t.c) with
  | some true => gsV P c n t t.gs
  | _ => none
def okV (t : TryF) (v : AV) : Option AV := match t.ok with
  | none => t.aft
  | some none => some v
  | some (some s) => some (.tup [.str s, v])
def argV (ds : List AV) : List AT → Option (List AV)
  | [] => some []
  | .v i :: r => match ds[i]?, argV ds r with
    | some d, some xs => some (d :: xs)
    | _, _ => none
  | .s z :: r => (argV ds r).map (.str z :: ·)
def bodyW (P : Prg) (rec : Nat → List AV → AHeap → (AV → AHeap → Prop) → Prop) (g : Nat) (args : List AV) (h : AHeap) (Q : AV → AHeap → Prop) (E : Nat → Int → AHeap → Prop) : Prop :=
  match P.fns.lookup g with
  | none => False
  | some F => args.length = F.np ∧ WpSs (ctxOf P rec) F.body { nx := fun _ h => Q .non h, rt := Q, ex := E } (startS F args) h
def tryW (P : Prg) (rec : Nat → List AV → AHeap → (AV → AHeap → Prop) → Prop) (t : TryF) (args : List AV) (h : AHeap) (Q : AV → AHeap → Prop) : Prop :=
  args.length = t.np ∧ match argV args t.args with
    | some xs => bodyW P rec t.g xs h (fun v h2 => match okV t v with
      | some d => Q d h2
      | none => False) (fun c n h2 => match tryV P c n t with
      | some d => Q d h2
      | none => False)
    | none => False
def callN (P : Prg) : Nat → Nat → List AV → AHeap → (AV → AHeap → Prop) → Prop
  | 0, _, _, _, _ => False
  | n + 1, f, args, h, Q => match P.fns.lookup f with
    | none => match P.tryf.lookup f with
      | some t => tryW P (callN P n) t args h Q
      | none => False
    | some F => args.length = F.np ∧ WpSs (ctxOf P (callN P n)) F.body { nx := fun _ h => Q .non h, rt := Q } (startS F args) h
end VL

set_option maxRecDepth 100000
set_option maxHeartbeats 2000000
/-! VL: how values stand in the heap. -/
namespace VL
open PySem L2 Evl

mutual
inductive Rep (K : PySem.W.Frag) (cs : List Addr) (F : Hp) : V → AV → Prop
  | non : Rep K cs F .non .non
  | bl (b : Bool) : Rep K cs F (.bl b) (.bl b)
  | int (i : Int) : Rep K cs F (.int i) (.int i)
  | str (s : Str) : Rep K cs F (.str s) (.str s)
  | tup {a : Addr} {vs : List V} {xs : List AV} : SqT K F a vs → Reps K cs F vs xs → Rep K cs F (.ref a) (.tup xs)
  | lst {a : Addr} {vs : List V} {xs : List AV} : F a = some (.lst vs) → Reps K cs F vs xs → Rep K cs F (.ref a) (.lst xs)
  | ro {a : Addr} {vs : List V} {xs : List AV} : SqL K F a vs → Reps K cs F vs xs → Rep K cs F (.ref a) (.ro xs)
  | dct {a : Addr} {us : List (Key × V)} {xs : List (Key × AV)} : F a = some (.dK us) → RepK K cs F us xs → Rep K cs F (.ref a) (.dct xs)
  | adr {n : Nat} {a : Addr} : cs[n]? = some a → Rep K cs F (.ref a) (.adr n)
inductive Reps (K : PySem.W.Frag) (cs : List Addr) (F : Hp) : List V → List AV → Prop
  | nil : Reps K cs F [] []
  | cons {v : V} {vs : List V} {d : AV} {ds : List AV} : Rep K cs F v d → Reps K cs F vs ds → Reps K cs F (v :: vs) (d :: ds)
inductive RepK (K : PySem.W.Frag) (cs : List Addr) (F : Hp) : List (Key × V) → List (Key × AV) → Prop
  | nil : RepK K cs F [] []
  | cons {k : Key} {v : V} {vs : List (Key × V)} {d : AV} {ds : List (Key × AV)} : Rep K cs F v d → RepK K cs F vs ds → RepK K cs F ((k, v) :: vs) ((k, d) :: ds)
end
inductive RepF (K : PySem.W.Frag) (cs : List Addr) (F : Hp) : List (Str × V) → List (Str × AV) → Prop
  | nil : RepF K cs F [] []
  | cons {k : Str} {v : V} {vs : List (Str × V)} {d : AV} {ds : List (Str × AV)} : Rep K cs F v d → RepF K cs F vs ds → RepF K cs F ((k, v) :: vs) ((k, d) :: ds)

section
variable {K : PySem.W.Frag} {cs cs' : List Addr} {F F' : Hp}
theorem get_pre {r : List Addr} (hc : cs' = cs ++ r) {n : Nat} {a : Addr} (h : cs[n]? = some a) : cs'[n]? = some a := by
  subst hc
  rw [List.getElem?_append_left (List.getElem?_eq_some_iff.mp h).1]
  exact h
mutual
theorem Rep.mono (e : Ex F F') (hc : ∃ r, cs' = cs ++ r) : ∀ {v : V} {d : AV}, Rep K cs F v d → Rep K cs' F' v d
  | _, _, .non => .non
  | _, _, .bl b => .bl b
  | _, _, .int i => .int i
  | _, _, .str s => .str s
  | _, _, .tup h r => .tup (ex_t e h) (Reps.mono e hc r)
  | _, _, .lst h r => .lst (e _ _ h) (Reps.mono e hc r)
  | _, _, .ro h r => .ro (ex_l e h) (Reps.mono e hc r)
  | _, _, .dct h r => .dct (e _ _ h) (RepK.mono e hc r)
  | _, _, .adr h => .adr (let ⟨_, q⟩ := hc; get_pre q h)
theorem Reps.mono (e : Ex F F') (hc : ∃ r, cs' = cs ++ r) : ∀ {v : List V} {d : List AV}, Reps K cs F v d → Reps K cs' F' v d
  | _, _, .nil => .nil
  | _, _, .cons h r => .cons (Rep.mono e hc h) (Reps.mono e hc r)
theorem RepK.mono (e : Ex F F') (hc : ∃ r, cs' = cs ++ r) : ∀ {v : List (Key × V)} {d : List (Key × AV)}, RepK K cs F v d → RepK K cs' F' v d
  | _, _, .nil => .nil
  | _, _, .cons h r => .cons (Rep.mono e hc h) (RepK.mono e hc r)
end
theorem RepF.mono (e : Ex F F') (hc : ∃ r, cs' = cs ++ r) {v : List (Str × V)} {d : List (Str × AV)} (h : RepF K cs F v d) : RepF K cs' F' v d := by
  induction h with
  | nil => exact .nil
  | cons h _ ih => exact .cons (h.mono e hc) ih
theorem Reps.length {vs : List V} {xs : List AV} (h : Reps K cs F vs xs) : vs.length = xs.length := by
  revert xs
  induction vs with
  | nil => intro xs h; cases h; rfl
  | cons v vs ih => intro xs h; cases h with | cons h r => simp [ih r]
theorem Reps.get {vs : List V} {xs : List AV} (h : Reps K cs F vs xs) {i : Nat} {d : AV} (e : xs[i]? = some d) : ∃ v, vs[i]? = some v ∧ Rep K cs F v d := by
  revert xs i
  induction vs with
  | nil => intro xs h i e; cases h; simp at e
  | cons v vs ih =>
    intro xs h i e
    cases h with
    | cons h r =>
      cases i with
      | zero => simp at e; subst e; exact ⟨v, rfl, h⟩
      | succ i => simpa using ih r (by simpa using e)
theorem Reps.get' {vs : List V} {xs : List AV} (h : Reps K cs F vs xs) {i : Nat} {v : V} (e : vs[i]? = some v) : ∃ d, xs[i]? = some d ∧ Rep K cs F v d := by
  revert xs i
  induction vs with
  | nil => intro xs h i e; cases h; simp at e
  | cons w vs ih =>
    intro xs h i e
    cases h with
    | cons h r =>
      cases i with
      | zero => simp at e; subst e; exact ⟨_, rfl, h⟩
      | succ i => simpa using ih r (by simpa using e)
theorem Reps.append {vs ws : List V} {xs ys : List AV} (h : Reps K cs F vs xs) (g : Reps K cs F ws ys) : Reps K cs F (vs ++ ws) (xs ++ ys) := by
  revert xs
  induction vs with
  | nil => intro xs h; cases h; exact g
  | cons v vs ih => intro xs h; cases h with | cons h r => exact .cons h (ih r)
theorem Reps.drop {vs : List V} {xs : List AV} (h : Reps K cs F vs xs) (n : Nat) : Reps K cs F (vs.drop n) (xs.drop n) := by
  induction n generalizing vs xs with
  | zero => exact h
  | succ n ih => cases h with
    | nil => exact .nil
    | cons h r => exact ih r
theorem Reps.take {vs : List V} {xs : List AV} (h : Reps K cs F vs xs) (n : Nat) : Reps K cs F (vs.take n) (xs.take n) := by
  induction n generalizing vs xs with
  | zero => exact .nil
  | succ n ih => cases h with
    | nil => exact .nil
    | cons h r => exact .cons h (ih r)
theorem Reps.rev {vs : List V} {xs : List AV} (h : Reps K cs F vs xs) : Reps K cs F vs.reverse xs.reverse := by
  induction vs generalizing xs with
  | nil => cases h; exact .nil
  | cons v vs ih => cases h with
    | cons h r =>
      rw [List.reverse_cons, List.reverse_cons]
      exact (ih r).append (.cons h .nil)
theorem Reps.cut {vs : List V} {xs : List AV} (h : Reps K cs F vs xs) (lo hi : Option Int) : Reps K cs F (cutV vs lo hi) (cut xs lo hi) := by
  unfold cutV VL.cut
  rw [h.length]
  exact (h.drop _).take _
theorem Reps.set {vs : List V} {xs : List AV} (h : Reps K cs F vs xs) {v : V} {d : AV} (r : Rep K cs F v d) (i : Nat) : Reps K cs F (vs.set i v) (xs.set i d) := by
  induction i generalizing vs xs with
  | zero => cases h with
    | nil => exact .nil
    | cons h t => exact .cons r t
  | succ n ih => cases h with
    | nil => exact .nil
    | cons h t => exact .cons h (ih t)
theorem Reps.at {vs : List V} {xs : List AV} (h : Reps K cs F vs xs) {i : Int} {d : AV} (e : atI xs i = some d) : ∃ v, atI vs i = some v ∧ Rep K cs F v d := by
  unfold atI at e ⊢
  rw [h.length]
  cases q : ixN xs.length i with
  | none => rw [q] at e; cases e
  | some j => rw [q] at e; exact h.get e
theorem RepK.length {vs : List (Key × V)} {xs : List (Key × AV)} (h : RepK K cs F vs xs) : vs.length = xs.length := by
  revert xs
  induction vs with
  | nil => intro xs h; cases h; rfl
  | cons v vs ih => intro xs h; cases h with | cons h r => simp [ih r]
theorem RepK.get {vs : List (Key × V)} {xs : List (Key × AV)} (h : RepK K cs F vs xs) {k : Key} : (∃ v d, valV vs k = some v ∧ getD xs k = some d ∧ Rep K cs F v d) ∨ (valV vs k = none ∧ getD xs k = none) := by
  revert xs
  induction vs with
  | nil => intro xs h; cases h; exact .inr ⟨rfl, rfl⟩
  | cons v vs ih =>
    intro xs h
    cases h with
    | cons h r =>
      rename_i k' v' d' ds'
      unfold valV getD
      by_cases q : k' = k
      · subst q
        exact .inl ⟨v', d', by simp [List.find?_cons], by simp [List.find?_cons], h⟩
      · have := ih r
        unfold valV getD at this
        simpa [List.find?_cons, q] using this
theorem RepK.any {vs : List (Key × V)} {xs : List (Key × AV)} (h : RepK K cs F vs xs) {k : Key} : (vs.any fun kv => decide (kv.1 = k)) = (xs.any fun kv => decide (kv.1 = k)) := by
  revert xs
  induction vs with
  | nil => intro xs h; cases h; rfl
  | cons v vs ih =>
    intro xs h
    cases h with
    | cons h r => simp [ih r]
theorem RepK.append {vs ws : List (Key × V)} {xs ys : List (Key × AV)} (h : RepK K cs F vs xs) (g : RepK K cs F ws ys) : RepK K cs F (vs ++ ws) (xs ++ ys) := by
  revert xs
  induction vs with
  | nil => intro xs h; cases h; exact g
  | cons v vs ih => intro xs h; cases h with | cons h r => exact .cons h (ih r)
theorem RepK.mapPut {vs : List (Key × V)} {xs : List (Key × AV)} (h : RepK K cs F vs xs) {k : Key} {v : V} {d : AV} (r : Rep K cs F v d) :
    RepK K cs F (vs.map fun kv => if kv.1 = k then (kv.1, v) else kv) (xs.map fun kv => if kv.1 = k then (kv.1, d) else kv) := by
  revert xs
  induction vs with
  | nil => intro xs h; cases h; exact .nil
  | cons w vs ih =>
    intro xs h
    cases h with
    | cons h t =>
      rename_i k' v' d' ds'
      simp only [List.map_cons]
      by_cases q : k' = k
      · rw [if_pos q, if_pos q]; exact .cons r (ih t)
      · rw [if_neg q, if_neg q]; exact .cons h (ih t)
theorem RepK.put {vs : List (Key × V)} {xs : List (Key × AV)} (h : RepK K cs F vs xs) {k : Key} {v : V} {d : AV} (r : Rep K cs F v d) : RepK K cs F (putK vs k v) (putD xs k d) := by
  unfold putK putD
  rw [h.any]
  split
  · exact h.mapPut r
  · exact h.append (.cons r .nil)
theorem RepF.get {vs : List (Str × V)} {xs : List (Str × AV)} (h : RepF K cs F vs xs) {k : Str} {d : AV} (e : xs.lookup k = some d) : ∃ v, vs.lookup k = some v ∧ Rep K cs F v d := by
  induction h with
  | nil => simp at e
  | cons h r ih =>
    rw [List.lookup_cons] at e ⊢
    split at e
    · cases e
      exact ⟨_, rfl, h⟩
    · exact ih e
theorem RepF.none {vs : List (Str × V)} {xs : List (Str × AV)} (h : RepF K cs F vs xs) {k : Str} (e : xs.lookup k = none) : vs.lookup k = none := by
  induction h with
  | nil => rfl
  | cons h r ih =>
    rw [List.lookup_cons] at e ⊢
    split at e
    · cases e
    · exact ih e
theorem RepF.length {vs : List (Str × V)} {xs : List (Str × AV)} (h : RepF K cs F vs xs) : vs.length = xs.length := by
  induction h with
  | nil => rfl
  | cons h r ih => simp [ih]
theorem RepF.put {vs : List (Str × V)} {xs : List (Str × AV)} (h : RepF K cs F vs xs) {f : Str} {v : V} {d : AV} (r : Rep K cs F v d) : RepF K cs F (putF f v vs) (putFA f d xs) := by
  induction h with
  | nil => exact .cons r .nil
  | cons h t ih =>
    rename_i k v' vs' d' ds'
    show RepF K cs F (if k = f then (k, v) :: vs' else (k, v') :: putF f v vs') (if k = f then (k, d) :: ds' else (k, d') :: putFA f d ds')
    by_cases q : k = f
    · rw [if_pos q, if_pos q]; exact .cons r t
    · rw [if_neg q, if_neg q]; exact .cons h ih
theorem Reps.ints {vs : List V} {xs : List AV} (h : Reps K cs F vs xs) {ns : List Int} (e : asInts xs = some ns) : vs = ns.map V.int := by
  revert xs ns
  induction vs with
  | nil => intro xs h ns e; cases h; simp [asInts] at e; subst e; rfl
  | cons v vs ih =>
    intro xs h ns e
    cases h with
    | cons h r =>
      cases h <;> simp [asInts] at e
      obtain ⟨l, e1, e2⟩ := e
      subst e2
      rw [ih r e1]; rfl
theorem Reps.bools {vs : List V} {xs : List AV} (h : Reps K cs F vs xs) {ns : List Bool} (e : asBools xs = some ns) : vs = ns.map V.bl := by
  revert xs ns
  induction vs with
  | nil => intro xs h ns e; cases h; simp [asBools] at e; subst e; rfl
  | cons v vs ih =>
    intro xs h ns e
    cases h with
    | cons h r =>
      cases h <;> simp [asBools] at e
      obtain ⟨l, e1, e2⟩ := e
      subst e2
      rw [ih r e1]; rfl
theorem Reps.strs {vs : List V} {xs : List AV} (h : Reps K cs F vs xs) {ns : List Str} (e : asStrs xs = some ns) : vs = ns.map V.str := by
  revert xs ns
  induction vs with
  | nil => intro xs h ns e; cases h; simp [asStrs] at e; subst e; rfl
  | cons v vs ih =>
    intro xs h ns e
    cases h with
    | cons h r =>
      cases h <;> simp [asStrs] at e
      obtain ⟨l, e1, e2⟩ := e
      subst e2
      rw [ih r e1]; rfl
mutual
theorem Rep.dp {H : Hp} (e : Ex F H) : ∀ {v : V} {d : AV}, Rep K cs F v d → ∀ {p : PyData}, pd d = some p → Dp K H v p
  | _, _, .non, _, q => by simp [pd] at q; subst q; exact .non
  | _, _, .bl b, _, q => by simp [pd] at q; subst q; exact .bl b
  | _, _, .int i, _, q => by simp [pd] at q; subst q; exact .int i
  | _, _, .str s, _, q => by simp [pd] at q; subst q; exact .str s
  | _, _, .tup h r, _, q => by
    simp [pd] at q
    obtain ⟨l, e1, e2⟩ := q
    subst e2
    exact .tup (ex_t e h) (Reps.dp e r e1)
  | _, _, .lst h r, _, q => by
    simp [pd] at q
    obtain ⟨l, e1, e2⟩ := q
    subst e2
    exact .lst (sq_of (e _ _ h)) (Reps.dp e r e1)
  | _, _, .ro h r, _, q => by
    simp [pd] at q
    obtain ⟨l, e1, e2⟩ := q
    subst e2
    exact .lst (ex_l e h) (Reps.dp e r e1)
  | _, _, .dct h r, _, q => by simp [pd] at q
  | _, _, .adr h, _, q => by simp [pd] at q
theorem Reps.dp {H : Hp} (e : Ex F H) : ∀ {v : List V} {d : List AV}, Reps K cs F v d → ∀ {p : List PyData}, pds d = some p → DpAll K H v p
  | _, _, .nil, _, q => by simp [pds] at q; subst q; exact .nil
  | _, _, .cons h r, _, q => by
    simp [pds, Option.bind_eq_some_iff] at q
    obtain ⟨d1, e1, l, e2, e3⟩ := q
    subst e3
    exact .cons (Rep.dp e h e1) (Reps.dp e r e2)
end
end

/-! ### states -/
def COk (K : PySem.W.Frag) (Cl : Nat → Addr) (cs : List Addr) (F H : Hp) (a : Addr) : Cell → Prop
  | .lst xs => ∃ vs, H a = some (.lst vs) ∧ Reps K cs F vs xs
  | .dct xs => ∃ us, H a = some (.dK us) ∧ RepK K cs F us xs
  | .obj c fs => ∃ dx fvs, H a = some (.ins (Cl c) dx fvs) ∧ RepF K cs F fvs fs
  | .dead => H a ≠ none
structure StOk (K : PySem.W.Frag) (Cl : Nat → Addr) (cs : List Addr) (F H : Hp) (h : AHeap) : Prop where
  sub : Ex F H
  len : cs.length = h.length
  nd : cs.Nodup
  cell : ∀ n a, cs[n]? = some a → COk K Cl cs F H a (cells h n)
  free : ∀ a, a ∈ cs → F a = none
structure Stp (cs : List Addr) (F H : Hp) (cs' : List Addr) (F' H' : Hp) : Prop where
  f : Ex F F'
  c : ∃ r, cs' = cs ++ r
  k : ∀ b o, H b = some o → b ∉ cs → H' b = some o
  d : ∀ b, H b ≠ none → H' b ≠ none
  n : ∀ b, F b = none → F' b ≠ none → H b = none
  m : ∀ b, b ∈ cs' → b ∉ cs → H b = none
structure EnvOk (K : PySem.W.Frag) (Cl : Nat → Addr) (cs : List Addr) (F H : Hp) (σ : L2.St) (ρ : Env) : Prop where
  len : ρ.length = σ.length
  val : ∀ i d, getS ρ i = .val d → ∃ v, σ[i]? = some (some v) ∧ Rep K cs F v d
  own : ∀ i c, getS ρ i = .own c → ∃ a, σ[i]? = some (some (.ref a)) ∧ a ∉ cs ∧ F a = none ∧ COk K Cl cs F H a c
  dis : ∀ i j c c' a, i ≠ j → getS ρ i = .own c → getS ρ j = .own c' → σ[i]? = some (some (.ref a)) → σ[j]? ≠ some (some (.ref a))

section
variable {K : PySem.W.Frag} {Cl : Nat → Addr} {cs cs' cs'' : List Addr} {F F' F'' H H' H'' : Hp} {σ : L2.St} {ρ : Env} {h h' : AHeap} {a : Addr} {c : Cell}
theorem COk.some (x : COk K Cl cs F H a c) : H a ≠ none := by
  cases c with
  | lst xs => obtain ⟨vs, e, _⟩ := x; rw [e]; simp
  | dct xs => obtain ⟨vs, e, _⟩ := x; rw [e]; simp
  | obj c fs => obtain ⟨dx, vs, e, _⟩ := x; rw [e]; simp
  | dead => exact x
/-- the object at a as it was -/
theorem COk.mono (x : COk K Cl cs F H a c) (e : Ex F F') (hc : ∃ r, cs' = cs ++ r) (k : ∀ o, H a = Option.some o → H' a = Option.some o) : COk K Cl cs' F' H' a c := by
  cases c with
  | lst xs => obtain ⟨vs, q, r⟩ := x; exact ⟨vs, k _ q, r.mono e hc⟩
  | dct xs => obtain ⟨vs, q, r⟩ := x; exact ⟨vs, k _ q, r.mono e hc⟩
  | obj c fs => obtain ⟨dx, vs, q, r⟩ := x; exact ⟨dx, vs, k _ q, r.mono e hc⟩
  | dead =>
    show H' a ≠ none
    have x' : H a ≠ none := x
    cases q : H a with
    | none => exact absurd q x'
    | some o => rw [k o q]; simp
theorem Stp.refl : Stp cs F H cs F H := ⟨fun _ _ h => h, ⟨[], by simp⟩, fun _ _ h _ => h, fun _ h => h, fun b h1 h2 => absurd h1 h2, fun b h1 h2 => absurd h1 h2⟩
theorem Stp.trans (x : Stp cs F H cs' F' H') (y : Stp cs' F' H' cs'' F'' H'') : Stp cs F H cs'' F'' H'' where
  f := x.f.trans y.f
  c := by
    obtain ⟨r, e⟩ := x.c
    obtain ⟨s, e2⟩ := y.c
    exact ⟨r ++ s, by rw [e2, e, List.append_assoc]⟩
  k := fun b o e n => y.k b o (x.k b o e n) fun z => by
    have := x.m b z n
    rw [e] at this; cases this
  d := fun b e => y.d b (x.d b e)
  n := fun b e1 e2 => by
    by_cases q : F' b = none
    · have z := y.n b q e2
      cases w : H b with
      | none => rfl
      | some o => exact absurd z (x.d b (by rw [w]; simp))
    · exact x.n b e1 q
  m := fun b e1 e2 => by
    by_cases q : b ∈ cs'
    · exact x.m b q e2
    · have z := y.m b e1 q
      cases w : H b with
      | none => rfl
      | some o => exact absurd z (x.d b (by rw [w]; simp))
theorem Stp.fresh (x : Stp cs F H cs' F' H') {b : Addr} (h : H' b = none) : H b = none := by
  cases w : H b with
  | none => rfl
  | some o => exact absurd h (x.d b (by rw [w]; simp))
theorem EnvOk.step (E : EnvOk K Cl cs F H σ ρ) (x : Stp cs F H cs' F' H') : EnvOk K Cl cs' F' H' σ ρ where
  len := E.len
  val := fun i d e => by
    obtain ⟨v, q, r⟩ := E.val i d e
    exact ⟨v, q, r.mono x.f x.c⟩
  own := fun i c e => by
    obtain ⟨a, q, n1, n2, r⟩ := E.own i c e
    have hs := r.some
    refine ⟨a, q, fun z => hs (x.m a z n1), ?_, r.mono x.f x.c fun o ho => x.k a o ho n1⟩
    cases w : F' a with
    | none => rfl
    | some o => exact absurd (x.n a n2 (by rw [w]; simp)) hs
  dis := E.dis

/-! ### cells, slots -/
theorem cells_app {n : Nat} (hn : n < h.length) : cells (h ++ h') n = cells h n := by
  unfold cells
  rw [List.getElem?_append_left hn]
theorem cells_new : cells (h ++ [c]) h.length = c := by
  unfold cells
  simp
theorem cells_set_same {n : Nat} (hn : n < h.length) : cells (h.set n c) n = c := by
  unfold cells
  simp [hn]
theorem cells_set_ne {n m : Nat} (hn : n ≠ m) : cells (h.set n c) m = cells h m := by
  unfold cells
  rw [List.getElem?_set_ne hn]
theorem getS_set_same {i : Nat} {v : Slot} (hi : i < ρ.length) : getS (setS ρ i v) i = v := by
  induction ρ generalizing i with
  | nil => cases hi
  | cons x r ih => cases i with
    | zero => rfl
    | succ i => exact ih (by simpa using hi)
theorem getS_set_ne {i j : Nat} {v : Slot} (hi : i ≠ j) : getS (setS ρ i v) j = getS ρ j := by
  induction ρ generalizing i j with
  | nil => rfl
  | cons x r ih => cases i with
    | zero => cases j with
      | zero => exact absurd rfl hi
      | succ j => rfl
    | succ i => cases j with
      | zero => rfl
      | succ j => exact ih (fun e => hi (by rw [e]))
theorem setS_length {i : Nat} {v : Slot} : (setS ρ i v).length = ρ.length := by
  induction ρ generalizing i with
  | nil => rfl
  | cons x r ih => cases i with
    | zero => rfl
    | succ i => simp [setS, ih]
theorem getS_lt {i : Nat} (h : getS ρ i ≠ .no) : i < ρ.length := by
  induction ρ generalizing i with
  | nil => exact absurd rfl h
  | cons x r ih => cases i with
    | zero => simp
    | succ i => simpa using ih h
theorem setS_out {i : Nat} {v : Slot} (hi : ρ.length ≤ i) : setS ρ i v = ρ := by
  induction ρ generalizing i with
  | nil => rfl
  | cons x r ih => cases i with
    | zero => simp at hi
    | succ i => simp only [setS]; rw [ih (by simpa using hi)]
/-- a slot is given a value -/
theorem EnvOk.setV (E : EnvOk K Cl cs F H σ ρ) {i : Nat} {v : V} {d : AV} (r : Rep K cs F v d) : EnvOk K Cl cs F H (σ.set i (some v)) (setS ρ i (.val d)) := by
  by_cases hi : i < ρ.length
  · have hs : i < σ.length := by rw [← E.len]; exact hi
    refine ⟨by rw [setS_length, List.length_set, E.len], fun j e h => ?_, fun j c h => ?_, fun j k c c' a ne h1 h2 h3 => ?_⟩
    · by_cases hj : i = j
      · subst hj
        rw [getS_set_same hi] at h
        cases h
        exact ⟨v, by rw [List.getElem?_set_self hs], r⟩
      · rw [getS_set_ne hj] at h
        rw [List.getElem?_set_ne hj]
        exact E.val j e h
    · by_cases hj : i = j
      · subst hj
        rw [getS_set_same hi] at h
        cases h
      · rw [getS_set_ne hj] at h
        rw [List.getElem?_set_ne hj]
        exact E.own j c h
    · have n1 : i ≠ j := fun z => by subst z; rw [getS_set_same hi] at h1; cases h1
      have n2 : i ≠ k := fun z => by subst z; rw [getS_set_same hi] at h2; cases h2
      rw [getS_set_ne n1] at h1
      rw [getS_set_ne n2] at h2
      rw [List.getElem?_set_ne n1] at h3
      rw [List.getElem?_set_ne n2]
      exact E.dis j k c c' a ne h1 h2 h3
  · have hi' : ρ.length ≤ i := by omega
    have hs : σ.length ≤ i := by rw [← E.len]; exact hi'
    rw [setS_out hi', List.set_eq_of_length_le hs]
    exact E
/-- a slot is forgotten -/
theorem EnvOk.setN (E : EnvOk K Cl cs F H σ ρ) {i : Nat} {v : Option V} : EnvOk K Cl cs F H (σ.set i v) (setS ρ i .no) := by
  by_cases hi : i < ρ.length
  · refine ⟨by rw [setS_length, List.length_set, E.len], fun j e h => ?_, fun j c h => ?_, fun j k c c' a ne h1 h2 h3 => ?_⟩
    · by_cases hj : i = j
      · subst hj
        rw [getS_set_same hi] at h
        cases h
      · rw [getS_set_ne hj] at h
        rw [List.getElem?_set_ne hj]
        exact E.val j e h
    · by_cases hj : i = j
      · subst hj
        rw [getS_set_same hi] at h
        cases h
      · rw [getS_set_ne hj] at h
        rw [List.getElem?_set_ne hj]
        exact E.own j c h
    · have n1 : i ≠ j := fun z => by subst z; rw [getS_set_same hi] at h1; cases h1
      have n2 : i ≠ k := fun z => by subst z; rw [getS_set_same hi] at h2; cases h2
      rw [getS_set_ne n1] at h1
      rw [getS_set_ne n2] at h2
      rw [List.getElem?_set_ne n1] at h3
      rw [List.getElem?_set_ne n2]
      exact E.dis j k c c' a ne h1 h2 h3
  · have hi' : ρ.length ≤ i := by omega
    have hs : σ.length ≤ i := by rw [← E.len]; exact hi'
    rw [setS_out hi', List.set_eq_of_length_le hs]
    exact E
theorem EnvOk.wipe (E : EnvOk K Cl cs F H σ ρ) (vs : List Nat) : EnvOk K Cl cs F H (wipe σ vs) (wipeS ρ vs) := by
  induction vs with
  | nil => exact E
  | cons v vs ih => exact ih.setN
/-- a slot's own cell: new, or changed -/
theorem EnvOk.setO (E : EnvOk K Cl cs F H σ ρ) {i : Nat} {a : Addr} {c : Cell} {o : HO} (n1 : a ∉ cs) (n2 : F a = none) (r : COk K Cl cs F (upd H a o) a c)
    (old : ∀ j c', j ≠ i → getS ρ j = .own c' → σ[j]? ≠ some (some (.ref a))) : EnvOk K Cl cs F (upd H a o) (σ.set i (some (.ref a))) (setS ρ i (.own c)) := by
  have key : ∀ {j c'} , j ≠ i → getS ρ j = .own c' → ∃ b, σ[j]? = some (some (.ref b)) ∧ b ∉ cs ∧ F b = none ∧ COk K Cl cs F (upd H a o) b c' := fun {j c'} hj h => by
    obtain ⟨b, e1, e2, e3, e4⟩ := E.own j c' h
    refine ⟨b, e1, e2, e3, e4.mono (fun _ _ q => q) ⟨[], by simp⟩ fun u hu => ?_⟩
    rw [upd_ne]
    · exact hu
    · intro z
      subst z
      exact old j c' hj h e1
  by_cases hi : i < ρ.length
  · have hs : i < σ.length := by rw [← E.len]; exact hi
    refine ⟨by rw [setS_length, List.length_set, E.len], fun j e h => ?_, fun j c h => ?_, fun j k c1 c2 b ne h1 h2 h3 => ?_⟩
    · by_cases hj : i = j
      · subst hj
        rw [getS_set_same hi] at h
        cases h
      · rw [getS_set_ne hj] at h
        rw [List.getElem?_set_ne hj]
        exact E.val j e h
    · by_cases hj : i = j
      · subst hj
        rw [getS_set_same hi] at h
        cases h
        exact ⟨a, by rw [List.getElem?_set_self hs], n1, n2, r⟩
      · rw [getS_set_ne hj] at h
        rw [List.getElem?_set_ne hj]
        exact key (Ne.symm hj) h
    · by_cases hj : i = j
      · subst hj
        rw [List.getElem?_set_self hs] at h3
        cases h3
        rw [getS_set_ne ne] at h2
        rw [List.getElem?_set_ne ne]
        exact old k c2 (Ne.symm ne) h2
      · by_cases hk : i = k
        · subst hk
          rw [List.getElem?_set_self hs]
          rw [getS_set_ne hj] at h1
          rw [List.getElem?_set_ne hj] at h3
          intro z
          cases z
          exact old j c1 (Ne.symm hj) h1 h3
        · rw [getS_set_ne hj] at h1
          rw [getS_set_ne hk] at h2
          rw [List.getElem?_set_ne hj] at h3
          rw [List.getElem?_set_ne hk]
          exact E.dis j k c1 c2 b ne h1 h2 h3
  · have hi' : ρ.length ≤ i := by omega
    have hs : σ.length ≤ i := by rw [← E.len]; exact hi'
    rw [setS_out hi', List.set_eq_of_length_le hs]
    refine ⟨E.len, E.val, fun j c h => ?_, E.dis⟩
    have hj : j ≠ i := fun z => by
      subst z
      exact absurd (getS_lt (ρ := ρ) (i := j) (by rw [h]; simp)) hi
    exact key hj h
end
end VL

set_option maxRecDepth 100000
set_option maxHeartbeats 2000000
/-! VL: the operations. -/
namespace VL
open PySem L2 Evl PyProof.Rows PySem.Spec

theorem nd_inj {α : Type} {l : List α} (nd : l.Nodup) {i j : Nat} {x : α} (h : l[i]? = some x) (h2 : l[j]? = some x) : i = j :=
  (List.getElem?_inj (List.getElem?_eq_some_iff.mp h).1 nd).mp (h.trans h2.symm)
section
variable {K : PySem.W.Frag} {Cl : Nat → Addr} {cs cs' : List Addr} {F F' H H' : Hp} {σ : L2.St} {ρ : Env} {h h' : AHeap} {a p : Addr} {c : Cell} {o : HO}
/-- a new frozen object -/
theorem StOk.newF (S : StOk K Cl cs F H h) (hp : H p = none) : StOk K Cl cs (upd F p o) (upd H p o) h := by
  have hF : F p = none := by
    cases q : F p with
    | none => rfl
    | some u => rw [S.sub _ _ q] at hp; cases hp
  have e : Ex F (upd F p o) := Ex.new hF
  refine ⟨fun b u q => ?_, S.len, S.nd, fun n a q => ?_, fun a q => ?_⟩
  · by_cases hb : b = p
    · subst hb; rw [upd_same] at q ⊢; exact q
    · rw [upd_ne hb] at q ⊢; exact S.sub _ _ q
  · refine (S.cell n a q).mono e ⟨[], by simp⟩ fun u hu => ?_
    rw [upd_ne (ne_of_none hu hp)]
    exact hu
  · have hs := (List.mem_iff_getElem?.mp q)
    obtain ⟨n, hn⟩ := hs
    have hne : a ≠ p := fun z => by
      subst z
      exact (S.cell n a hn).some hp
    rw [upd_ne hne]
    exact S.free a q
theorem Stp.newF (S : StOk K Cl cs F H h) (hp : H p = none) : Stp cs F H cs (upd F p o) (upd H p o) := by
  have hF : F p = none := by
    cases q : F p with
    | none => rfl
    | some u => rw [S.sub _ _ q] at hp; cases hp
  refine ⟨Ex.new hF, ⟨[], by simp⟩, fun b u q _ => ?_, fun b q => ?_, fun b q1 q2 => ?_, fun b q1 q2 => absurd q1 q2⟩
  · rw [upd_ne (ne_of_none q hp)]; exact q
  · by_cases hb : b = p
    · subst hb; rw [upd_same]; simp
    · rw [upd_ne hb]; exact q
  · by_cases hb : b = p
    · subst hb; exact hp
    · rw [upd_ne hb] at q2; exact absurd q1 q2
/-- a new object that is nobody's yet -/
theorem StOk.newN (S : StOk K Cl cs F H h) (hp : H p = none) : StOk K Cl cs F (upd H p o) h := by
  refine ⟨fun b u q => ?_, S.len, S.nd, fun n a q => ?_, S.free⟩
  · rw [upd_ne (ne_of_none (S.sub _ _ q) hp)]; exact S.sub _ _ q
  · refine (S.cell n a q).mono (fun _ _ z => z) ⟨[], by simp⟩ fun u hu => ?_
    rw [upd_ne (ne_of_none hu hp)]
    exact hu
theorem Stp.newN (hp : H p = none) : Stp cs F H cs F (upd H p o) := by
  refine ⟨fun _ _ z => z, ⟨[], by simp⟩, fun b u q _ => ?_, fun b q => ?_, fun b q1 q2 => absurd q1 q2, fun b q1 q2 => absurd q1 q2⟩
  · rw [upd_ne (ne_of_none q hp)]; exact q
  · by_cases hb : b = p
    · subst hb; rw [upd_same]; simp
    · rw [upd_ne hb]; exact q
/-- nobody's object is changed -/
theorem StOk.chgN (S : StOk K Cl cs F H h) (hF : F p = none) (hc : p ∉ cs) : StOk K Cl cs F (upd H p o) h := by
  refine ⟨fun b u q => ?_, S.len, S.nd, fun n a q => ?_, S.free⟩
  · have hb : b ≠ p := fun z => by subst z; rw [hF] at q; cases q
    rw [upd_ne hb]; exact S.sub _ _ q
  · refine (S.cell n a q).mono (fun _ _ z => z) ⟨[], by simp⟩ fun u hu => ?_
    have hb : a ≠ p := fun z => by subst z; exact hc (List.mem_of_getElem? q)
    rw [upd_ne hb]
    exact hu
/-- nobody's object is frozen -/
theorem StOk.freeze (S : StOk K Cl cs F H h) (hF : F p = none) (hc : p ∉ cs) (hH : H p = some o) : StOk K Cl cs (upd F p o) H h := by
  refine ⟨fun b u q => ?_, S.len, S.nd, fun n a q => ?_, fun a q => ?_⟩
  · by_cases hb : b = p
    · subst hb; rw [upd_same] at q; rw [← q]; exact hH
    · rw [upd_ne hb] at q; exact S.sub _ _ q
  · exact (S.cell n a q).mono (Ex.new hF) ⟨[], by simp⟩ fun u hu => hu
  · have hb : a ≠ p := fun z => by subst z; exact hc q
    rw [upd_ne hb]; exact S.free a q
/-- nobody's object becomes a cell -/
theorem StOk.cellNew (S : StOk K Cl cs F H h) (hF : F p = none) (hc : p ∉ cs) (r : COk K Cl (cs ++ [p]) F H p c) : StOk K Cl (cs ++ [p]) F H (h ++ [c]) := by
  refine ⟨S.sub, by simp [S.len], ?_, fun n a q => ?_, fun a q => ?_⟩
  · rw [List.nodup_append]
    refine ⟨S.nd, by simp, fun x hx y hy => ?_⟩
    simp at hy
    subst hy
    exact fun z => hc (z ▸ hx)
  · by_cases hn : n < cs.length
    · rw [List.getElem?_append_left hn] at q
      rw [cells_app (by rw [← S.len]; exact hn)]
      exact (S.cell n a q).mono (fun _ _ z => z) ⟨[p], rfl⟩ fun _ z => z
    · have hn2 : n = cs.length := by
        have := (List.getElem?_eq_some_iff.mp q).1
        simp at this
        omega
      subst hn2
      rw [List.getElem?_append_right (Nat.le_refl _)] at q
      simp at q
      subst q
      rw [S.len, cells_new]
      exact r
  · simp at q
    rcases q with q | q
    · exact S.free a q
    · subst q; exact hF
/-- a cell is changed -/
theorem StOk.cellSet (S : StOk K Cl cs F H h) {n : Nat} (e : cs[n]? = some p) (r : COk K Cl cs F (upd H p o) p c) : StOk K Cl cs F (upd H p o) (h.set n c) := by
  have hn : n < h.length := by rw [← S.len]; exact (List.getElem?_eq_some_iff.mp e).1
  refine ⟨fun b u q => ?_, by simp [S.len], S.nd, fun m a q => ?_, S.free⟩
  · have hb : b ≠ p := fun z => by
      subst z
      rw [S.free b (List.mem_of_getElem? e)] at q
      cases q
    rw [upd_ne hb]; exact S.sub _ _ q
  · by_cases hm : n = m
    · subst hm
      rw [e] at q
      cases q
      rw [cells_set_same hn]
      exact r
    · rw [cells_set_ne hm]
      refine (S.cell m a q).mono (fun _ _ z => z) ⟨[], by simp⟩ fun u hu => ?_
      have hb : a ≠ p := fun z => by
        subst z
        have h1 := (List.getElem?_eq_some_iff.mp e)
        have h2 := (List.getElem?_eq_some_iff.mp q)
        exact hm (nd_inj S.nd e q)
      rw [upd_ne hb]
      exact hu
theorem Stp.chg {F H : Hp} (hc : p ∈ cs) : Stp cs F H cs F (upd H p o) := by
  refine ⟨fun _ _ z => z, ⟨[], by simp⟩, fun b u q n => ?_, fun b q => ?_, fun b q1 q2 => absurd q1 q2, fun b q1 q2 => absurd q1 q2⟩
  · rw [upd_ne fun z => by subst z; exact n hc]; exact q
  · by_cases hb : b = p
    · subst hb; rw [upd_same]; simp
    · rw [upd_ne hb]; exact q
end

/-- a container as it may be read -/
def RepB (K : PySem.W.Frag) (cs : List Addr) (F H : Hp) (b : Bool) (v : V) (d : AV) : Prop :=
  Rep K cs F v d ∨ (b = true ∧ ∃ a, v = .ref a ∧ a ∉ cs ∧ F a = none ∧ ((∃ vs xs, d = .lst xs ∧ H a = some (.lst vs) ∧ Reps K cs F vs xs) ∨ ∃ us xs, d = .dct xs ∧ H a = some (.dK us) ∧ RepK K cs F us xs))
section
variable {K : PySem.W.Frag} {Cl : Nat → Addr} {cs cs' : List Addr} {F F' H H' : Hp} {σ : L2.St} {ρ : Env} {h h' : AHeap} {b : Bool} {v : V} {d : AV}
theorem RepB.step (r : RepB K cs F H b v d) (x : Stp cs F H cs' F' H') : RepB K cs' F' H' b v d := by
  rcases r with r | ⟨hb, a, e, n1, n2, r⟩
  · exact .inl (r.mono x.f x.c)
  · have hs : H a ≠ none := by
      rcases r with ⟨vs, xs, _, q, _⟩ | ⟨vs, xs, _, q, _⟩ <;> rw [q] <;> simp
    have h1 : a ∉ cs' := fun z => hs (x.m a z n1)
    have h2 : F' a = none := by
      cases w : F' a with
      | none => rfl
      | some o => exact absurd (x.n a n2 (by rw [w]; simp)) hs
    refine .inr ⟨hb, a, e, h1, h2, ?_⟩
    rcases r with ⟨vs, xs, e1, q, r⟩ | ⟨vs, xs, e1, q, r⟩
    · exact .inl ⟨vs, xs, e1, x.k _ _ q n1, r.mono x.f x.c⟩
    · exact .inr ⟨vs, xs, e1, x.k _ _ q n1, r.mono x.f x.c⟩
theorem RepB.plain (r : RepB K cs F H false v d) : Rep K cs F v d := by
  rcases r with r | ⟨hb, _⟩
  · exact r
  · cases hb
theorem cell_at {n : Nat} {a : Addr} {xs : List AV} (S : StOk K Cl cs F H h) (e : cs[n]? = some a) (q : cells h n = .lst xs) : ∃ vs, H a = some (.lst vs) ∧ Reps K cs F vs xs := by
  have := S.cell n a e
  rw [q] at this
  exact this
theorem cell_atD {n : Nat} {a : Addr} {xs : List (Key × AV)} (S : StOk K Cl cs F H h) (e : cs[n]? = some a) (q : cells h n = .dct xs) : ∃ vs, H a = some (.dK vs) ∧ RepK K cs F vs xs := by
  have := S.cell n a e
  rw [q] at this
  exact this
theorem RepB.viewW (r : RepB K cs F H b v d) (S : StOk K Cl cs F H h) {xs : List AV} (e : viewW h d = some xs) : ∃ a vs, v = .ref a ∧ H a = some (.lst vs) ∧ Reps K cs F vs xs := by
  rcases r with r | ⟨hb, a, e1, n1, n2, r⟩
  · cases r with
    | lst q r => simp [VL.viewW] at e; subst e; exact ⟨_, _, rfl, S.sub _ _ q, r⟩
    | adr q =>
      rename_i n a
      simp only [VL.viewW] at e
      split at e
      · rename_i xs' hc
        cases e
        obtain ⟨vs, q1, q2⟩ := cell_at S q hc
        exact ⟨_, _, rfl, q1, q2⟩
      · cases e
    | _ => simp [VL.viewW] at e
  · rcases r with ⟨vs, xs', e2, q, r⟩ | ⟨vs, xs', e2, q, r⟩
    · subst e2; simp [VL.viewW] at e; subst e; exact ⟨_, _, e1, q, r⟩
    · subst e2; simp [VL.viewW] at e
theorem RepB.view (r : RepB K cs F H b v d) (S : StOk K Cl cs F H h) {xs : List AV} (e : view h d = some xs) : ∃ a vs, v = .ref a ∧ SqL K H a vs ∧ Reps K cs F vs xs := by
  rcases r with r | ⟨hb, a, e1, n1, n2, r⟩
  · cases r with
    | lst q r => simp [VL.view] at e; subst e; exact ⟨_, _, rfl, sq_of (S.sub _ _ q), r⟩
    | ro q r => simp [VL.view] at e; subst e; exact ⟨_, _, rfl, ex_l S.sub q, r⟩
    | adr q =>
      rename_i n a
      simp only [VL.view] at e
      split at e
      · rename_i xs' hc
        cases e
        obtain ⟨vs, q1, q2⟩ := cell_at S q hc
        exact ⟨_, _, rfl, sq_of q1, q2⟩
      · cases e
    | _ => simp [VL.view] at e
  · rcases r with ⟨vs, xs', e2, q, r⟩ | ⟨vs, xs', e2, q, r⟩
    · subst e2; simp [VL.view] at e; subst e; exact ⟨_, _, e1, sq_of q, r⟩
    · subst e2; simp [VL.view] at e
theorem viewT_eq {h : AHeap} {d : AV} {xs : List AV} (e : viewT h d = some xs) : d = .tup xs ∨ view h d = some xs := by
  unfold VL.viewT at e
  split at e
  · cases e; exact .inl rfl
  · exact .inr e
theorem RepB.viewT (r : RepB K cs F H b v d) (S : StOk K Cl cs F H h) {xs : List AV} (e : viewT h d = some xs) : ∃ a vs, v = .ref a ∧ (SqL K H a vs ∨ SqT K H a vs) ∧ Reps K cs F vs xs := by
  rcases viewT_eq e with q | q
  · subst q
    rcases r with r | ⟨hb, a, e1, n1, n2, r⟩
    · cases r with
      | tup q r => exact ⟨_, _, rfl, .inr (ex_t S.sub q), r⟩
    · rcases r with ⟨vs, xs', e2, q, r⟩ | ⟨vs, xs', e2, q, r⟩ <;> cases e2
  · obtain ⟨a, vs, h1, h2, h3⟩ := r.view S q
    exact ⟨a, vs, h1, .inl h2, h3⟩
theorem RepB.viewD (r : RepB K cs F H b v d) (S : StOk K Cl cs F H h) {xs : List (Key × AV)} (e : viewD h d = some xs) : ∃ a vs, v = .ref a ∧ H a = some (.dK vs) ∧ RepK K cs F vs xs := by
  rcases r with r | ⟨hb, a, e1, n1, n2, r⟩
  · cases r with
    | dct q r => simp [VL.viewD] at e; subst e; exact ⟨_, _, rfl, S.sub _ _ q, r⟩
    | adr q =>
      rename_i n a
      simp only [VL.viewD] at e
      split at e
      · rename_i xs' hc
        cases e
        obtain ⟨vs, q1, q2⟩ := cell_atD S q hc
        exact ⟨_, _, rfl, q1, q2⟩
      · cases e
    | _ => simp [VL.viewD] at e
  · rcases r with ⟨vs, xs', e2, q, r⟩ | ⟨vs, xs', e2, q, r⟩
    · subst e2; simp [VL.viewD] at e
    · subst e2; simp [VL.viewD] at e; subst e; exact ⟨_, _, e1, q, r⟩
mutual
theorem Rep.dpH (S : StOk K Cl cs F H h) : ∀ {v : V} {d : AV}, Rep K cs F v d → ∀ {p : PyData}, VL.pdH h d = some p → Dp K H v p
  | _, _, .non, _, q => by simp [VL.pdH] at q; subst q; exact .non
  | _, _, .bl b, _, q => by simp [VL.pdH] at q; subst q; exact .bl b
  | _, _, .int i, _, q => by simp [VL.pdH] at q; subst q; exact .int i
  | _, _, .str s, _, q => by simp [VL.pdH] at q; subst q; exact .str s
  | _, _, .tup h r, _, q => by
    simp [VL.pdH] at q
    obtain ⟨l, e1, e2⟩ := q
    subst e2
    exact .tup (ex_t S.sub h) (Reps.dpH S r e1)
  | _, _, .lst h r, _, q => by
    simp [VL.pdH] at q
    obtain ⟨l, e1, e2⟩ := q
    subst e2
    exact .lst (sq_of (S.sub _ _ h)) (Reps.dpH S r e1)
  | _, _, .ro h r, _, q => by
    simp [VL.pdH] at q
    obtain ⟨l, e1, e2⟩ := q
    subst e2
    exact .lst (ex_l S.sub h) (Reps.dpH S r e1)
  | _, _, .dct h r, _, q => by simp [VL.pdH] at q
  | _, _, .adr g, _, q => by
    simp only [VL.pdH] at q
    split at q
    · rename_i xs' hc
      simp at q
      obtain ⟨l, e1, e2⟩ := q
      subst e2
      obtain ⟨vs, q1, q2⟩ := cell_at S g hc
      exact .lst (sq_of q1) (q2.dp S.sub e1)
    · cases q
theorem Reps.dpH (S : StOk K Cl cs F H h) : ∀ {v : List V} {d : List AV}, Reps K cs F v d → ∀ {p : List PyData}, VL.pdHs h d = some p → DpAll K H v p
  | _, _, .nil, _, q => by simp [VL.pdHs] at q; subst q; exact .nil
  | _, _, .cons g r, _, q => by
    simp [VL.pdHs, Option.bind_eq_some_iff] at q
    obtain ⟨d1, e1, l, e2, e3⟩ := q
    subst e3
    exact .cons (Rep.dpH S g e1) (Reps.dpH S r e2)
end
theorem Reps.upH : ∀ {v : List V} {d : List AV}, Reps K cs F v d → StOk K Cl cs F H h → ∀ {p : List PyData}, VL.pdHs h d = some p → DpAll K H v p := fun r S _ q => Reps.dpH S r q
theorem RepB.pdH (r : RepB K cs F H b v d) (S : StOk K Cl cs F H h) {p : PyData} (e : pdH h d = some p) : Dp K H v p := by
  rcases r with r | ⟨hb, a, e1, n1, n2, r⟩
  · exact Rep.dpH S r e
  · rcases r with ⟨vs, xs', e2, q, r⟩ | ⟨vs, xs', e2, q, r⟩
    · subst e2
      simp [VL.pdH] at e
      obtain ⟨l, e3, e4⟩ := e
      subst e4 e1
      exact .lst (sq_of q) (r.dpH S e3)
    · subst e2; simp [VL.pdH] at e
theorem RepB.int {i : Int} (r : RepB K cs F H b v (.int i)) : v = .int i := by
  rcases r with r | ⟨_, _, _, _, _, ⟨_, _, e, _⟩ | ⟨_, _, e, _⟩⟩
  · cases r; rfl
  · cases e
  · cases e
theorem RepB.str {i : Str} (r : RepB K cs F H b v (.str i)) : v = .str i := by
  rcases r with r | ⟨_, _, _, _, _, ⟨_, _, e, _⟩ | ⟨_, _, e, _⟩⟩
  · cases r; rfl
  · cases e
  · cases e
theorem RepB.bl {i : Bool} (r : RepB K cs F H b v (.bl i)) : v = .bl i := by
  rcases r with r | ⟨_, _, _, _, _, ⟨_, _, e, _⟩ | ⟨_, _, e, _⟩⟩
  · cases r; rfl
  · cases e
  · cases e
theorem RepB.non (r : RepB K cs F H b v .non) : v = .non := by
  rcases r with r | ⟨_, _, _, _, _, ⟨_, _, e, _⟩ | ⟨_, _, e, _⟩⟩
  · cases r; rfl
  · cases e
  · cases e
theorem RepB.isNon (r : RepB K cs F H b v d) : decide (v = V.non) = isNon d := by
  rcases r with r | ⟨_, _, e1, _, _, ⟨_, _, e, _⟩ | ⟨_, _, e, _⟩⟩
  · cases r <;> rfl
  · subst e e1; rfl
  · subst e e1; rfl
theorem RepB.flat (r : RepB K cs F H b v d) (f : flatA d = true) : flatV v = true ∧ ∀ w e, Rep K cs F w e → flatA e = true → eqV w v = eqF e d := by
  have key : ∀ {v d}, Rep K cs F v d → flatA d = true → flatV v = true ∧ ∀ w e, Rep K cs F w e → flatA e = true → eqV w v = eqF e d := by
    intro v d r f
    cases r with
    | non => exact ⟨rfl, fun w e r f => by cases r <;> first | rfl | cases f⟩
    | bl x => exact ⟨rfl, fun w e r f => by cases r <;> first | rfl | cases f⟩
    | int x => exact ⟨rfl, fun w e r f => by cases r <;> first | rfl | cases f⟩
    | str x => exact ⟨rfl, fun w e r f => by cases r <;> first | rfl | cases f⟩
    | _ => cases f
  rcases r with r | ⟨_, _, _, _, _, ⟨_, _, e, _⟩ | ⟨_, _, e, _⟩⟩
  · exact key r f
  · subst e; cases f
  · subst e; cases f
theorem Reps.flat {vs : List V} {xs : List AV} (r : Reps K cs F vs xs) (f : xs.all flatA = true) {v : V} {d : AV} (rv : RepB K cs F H b v d) (fd : flatA d = true) :
    vs.all flatV = true ∧ inV v vs = xs.any (fun y => eqF y d) := by
  revert xs
  induction vs with
  | nil => intro xs r f; cases r; exact ⟨rfl, rfl⟩
  | cons w vs ih =>
    intro xs r f
    cases r with
    | cons h t =>
      rw [List.all_cons, Bool.and_eq_true] at f
      obtain ⟨i1, i2⟩ := ih t f.2
      have q : RepB K cs F H false w _ := .inl h
      refine ⟨by rw [List.all_cons, (q.flat f.1).1, i1]; rfl, ?_⟩
      unfold inV at i2 ⊢
      rw [List.any_cons, List.any_cons, i2, (rv.flat fd).2 w _ h f.1]
theorem Reps.flatAt {vs : List V} {xs : List AV} (r : Reps K cs F vs xs) (f : xs.all flatA = true) {v : V} {d : AV} (rv : RepB K cs F H b v d) (fd : flatA d = true) {i : Nat} {w : V} {e : AV} (h1 : vs[i]? = some w) (h2 : xs[i]? = some e) : eqV w v = eqF e d := by
  have fe : flatA e = true := List.all_eq_true.mp f e (List.mem_of_getElem? h2)
  obtain ⟨w', e1, r2⟩ := r.get h2
  rw [h1] at e1
  cases e1
  exact (rv.flat fd).2 w e r2 fe
theorem RepB.key (r : RepB K cs F H b v d) {k : Key} (e : keyOf d = some k) : v = kV k := by
  cases d with
  | int i => simp [keyOf] at e; subst e; exact r.int
  | str i => simp [keyOf] at e; subst e; exact r.str
  | _ => simp [keyOf] at e
end

/-- what is wanted of a value -/
def PostV (K : PySem.W.Frag) (Cl : Nat → Addr) (cs : List Addr) (F H : Hp) (h : AHeap) (Q : KA) (R : VK) : Prop :=
  ∀ v d F' H', Stp cs F H cs F' H' → StOk K Cl cs F' H' h → Rep K cs F' v d → Q d → R v H'
section
variable {K : PySem.W.Frag} {Cl : Nat → Addr} {cs : List Addr} {F H : Hp} {h : AHeap} {Q : KA} {R : VK}
theorem PostV.here (p : PostV K Cl cs F H h Q R) (S : StOk K Cl cs F H h) {v : V} {d : AV} (r : Rep K cs F v d) (q : Q d) : R v H := p v d F H .refl S r q
theorem PostV.int (p : PostV K Cl cs F H h Q R) (S : StOk K Cl cs F H h) {i : Int} (q : Q (.int i)) : R (.int i) H := p.here S (.int i) q
theorem PostV.bl (p : PostV K Cl cs F H h Q R) (S : StOk K Cl cs F H h) {i : Bool} (q : Q (.bl i)) : R (.bl i) H := p.here S (.bl i) q
theorem PostV.str (p : PostV K Cl cs F H h Q R) (S : StOk K Cl cs F H h) {i : Str} (q : Q (.str i)) : R (.str i) H := p.here S (.str i) q
theorem PostV.newT (p : PostV K Cl cs F H h Q R) (S : StOk K Cl cs F H h) {vs : List V} {xs : List AV} (r : Reps K cs F vs xs) (q : Q (.tup xs)) : ∀ a, H a = none → R (.ref a) (upd H a (.tup vs)) := fun a ha =>
  p _ _ _ _ (.newF S ha) (S.newF ha) (.tup (st_of upd_same) (r.mono (Stp.newF (o := .tup vs) S ha).f ⟨[], by simp⟩)) q
theorem PostV.newL (p : PostV K Cl cs F H h Q R) (S : StOk K Cl cs F H h) {vs : List V} {xs : List AV} (r : Reps K cs F vs xs) (q : Q (.lst xs)) : ∀ a, H a = none → R (.ref a) (upd H a (.lst vs)) := fun a ha =>
  p _ _ _ _ (.newF S ha) (S.newF ha) (.lst upd_same (r.mono (Stp.newF (o := .lst vs) S ha).f ⟨[], by simp⟩)) q
end

/-- a two-place operation by its weakest reading -/
def OpW (X : Cx) (f : Value → Value → Sem Value) (x y : V) (H : Hp) (Q : VK) : Prop :=
  ∀ (pins : List (Addr × Obj)) (s : Shared) (σ : L2.St) (v u : Value), Inv X pins σ H s → RelV x v → RelV y u → wpAny (model X.prog X.w) X.A (f v u) (EP X pins σ Q) X.xe s
theorem opw_ok {X : Cx} {f : Value → Value → Sem Value} : OpR X f (OpW X f) := fun pins s σ H x y v u Q I rx ry h => h pins s σ v u I rx ry
theorem opw_of {X : Cx} {f : Value → Value → Sem Value} {r : R2} (o : OpR X f r) {x y : V} {H : Hp} {Q : VK} (h : r x y H Q) : OpW X f x y H Q := fun pins s σ v u I rx ry => o pins s σ H x y v u Q I rx ry h
section
variable {X : Cx} {Cl : Nat → Addr} {cs : List Addr} {F H : Hp} {h : AHeap} {Q : KA} {R : VK} {x y : V} {d e : AV} {b b' : Bool}
theorem CDivA.w {i j : Int} (h : CDivA j) : CDivW i j := h
theorem addK_ok (S : StOk X.K Cl cs F H h) (rx : RepB X.K cs F H false x d) (ry : RepB X.K cs F H false y e) (q : addK h d e Q) (p : PostV X.K Cl cs F H h Q R) : OpW X (binaryOp .Add) x y H R := by
  unfold addK at q
  split at q
  · cases rx.int; cases ry.int
    exact opw_of op_add ⟨_, _, rfl, rfl, p.int S q⟩
  · cases rx.str; cases ry.str
    exact opw_of op_add_str ⟨_, _, rfl, rfl, q.1, p.str S q.2⟩
  · rename_i xs ys
    have rx := rx.plain
    have ry := ry.plain
    cases rx with
    | tup h1 r1 =>
      cases ry with
      | tup h2 r2 =>
        rename_i vs _ ws
        refine opw_of op_catA ⟨_, _, vs, ws, rfl, rfl, ex_t S.sub h1, ex_t S.sub h2, by rw [r1.length, r2.length]; exact q.1, fun z => ?_, fun _ z => ?_, fun _ _ => p.newT S (r1.append r2) q.2⟩
        · subst z
          cases r1
          exact p.here S (.tup h2 r2) q.2
        · subst z
          cases r2
          have q2 := q.2
          rw [List.append_nil] at q2
          exact p.here S (.tup h1 r1) q2
  · exact q.elim
theorem strRep_len (x : Str) (n : Int) : (strRep x n).length ≤ x.length * n.toNat + x.length := by
  unfold strRep
  split
  · exact Nat.zero_le _
  · split
    · omega
    · have key : ∀ (k : Nat) (acc : Array Nat), ((List.replicate k x.cps).foldl (· ++ ·) acc).size = acc.size + k * x.cps.size := by
        intro k
        induction k with
        | zero => intro acc; simp
        | succ k ih => intro acc; rw [List.replicate_succ, List.foldl_cons, ih, Array.size_append, Nat.succ_mul]; omega
      show ((List.replicate n.toNat x.cps).foldl (· ++ ·) #[]).size ≤ x.cps.size * n.toNat + x.cps.size
      rw [key, Nat.mul_comm]
      simp
theorem op_mul_str : OpR X (binaryOp .Mult) (fun x y H Q => ∃ z k, x = .str z ∧ y = .int k ∧ (-(2 ^ 60) < k ∧ k < 2 ^ 60 ∧ z.length * k.toNat ≤ 1000000) ∧ Q (.str (strRep z k)) H) := by
  intro pins s σ H x y v u Q I rx ry h
  obtain ⟨z, k, rfl, rfl, ⟨h1, h2, h3⟩, q⟩ := h
  obtain ⟨t, rfl⟩ := rx
  obtain ⟨t', rfl⟩ := ry
  have hs : sizeLine = 16777216 := sizeLine_eq
  have e60 : (2 ^ 60 : Int) = 1152921504606846976 := by decide
  have e63 : (2 ^ 63 : Int) = 9223372036854775808 := by decide
  rw [e60] at h1 h2
  refine PySem.P.mul_str ?_ (fun a b => ?_) (fun a b => ?_) ?_
  · have e1 : decide (k < -(2 ^ 63 : Int)) = false := decide_eq_false (by rw [e63]; omega)
    have e2 : decide (k ≥ 2 ^ 63) = false := decide_eq_false (by rw [e63]; omega)
    rw [e1, e2]; rfl
  · intro c
    have hk : 0 < k := by omega
    have h4 : (z.length : Int) * k ≤ 1000000 := by
      have : ((z.length * k.toNat : Nat) : Int) ≤ ((1000000 : Nat) : Int) := Int.ofNat_le.mpr h3
      rw [Int.natCast_mul] at this
      rw [Int.toNat_of_nonneg (by omega)] at this
      exact this
    have h5 : (2 ^ 63 - 1 : Int) / k < z.length := c
    have h6 := Int.lt_mul_of_ediv_lt hk h5
    have e63 : (2 ^ 63 - 1 : Int) = 9223372036854775807 := by decide
    rw [e63] at h6
    omega
  · unfold Builtin.Str.tooLong
    exact decide_eq_false (by omega)
  · have hl := strRep_len z k
    by_cases a : k < 1
    · have e : strRep z k = Str.empty := if_pos a
      rw [e] at q
      rw [if_pos a]
      exact ⟨by decide, .str Str.empty, H, I.tok _, ⟨_, rfl⟩, q⟩
    · rw [if_neg a]
      by_cases b : (k == 1 || z.length == 0) = true
      · have e : strRep z k = z := by unfold strRep; rw [if_neg a, if_pos b]
        rw [e] at q
        rw [if_pos b]
        exact ⟨.str z, H, I, ⟨_, rfl⟩, q⟩
      · have e : strRep z k = ⟨(List.replicate k.toNat z.cps).foldl (· ++ ·) #[]⟩ := by unfold strRep; rw [if_neg a, if_neg b]
        rw [e] at q hl
        rw [if_neg b]
        refine ⟨?_, .str _, H, I.tok _, ⟨_, rfl⟩, q⟩
        have : z.length ≤ z.length * k.toNat := Nat.le_mul_of_pos_right _ (by omega)
        omega
theorem binK_ok {op : Operator} (S : StOk X.K Cl cs F H h) (rx : RepB X.K cs F H false x d) (ry : RepB X.K cs F H false y e) (q : binK h op d e Q) (p : PostV X.K Cl cs F H h Q R) : OpW X (binaryOp op) x y H R := by
  unfold binK at q
  split at q
  · exact addK_ok S rx ry q p
  · split at q
    · cases rx.int; cases ry.int
      exact opw_of op_sub ⟨_, _, rfl, rfl, p.int S q⟩
    · exact q.elim
  · split at q
    · cases rx.int; cases ry.int
      rcases q.1 with c | c
      · exact opw_of op_mul ⟨_, _, rfl, rfl, c, p.int S q.2⟩
      · exact opw_of op_mulW ⟨_, _, rfl, rfl, c, p.int S q.2⟩
    · cases rx.str; cases ry.int
      exact opw_of op_mul_str ⟨_, _, rfl, rfl, q.1, p.str S q.2⟩
    · exact q.elim
  · split at q
    · cases rx.int; cases ry.int
      exact opw_of op_fdivW ⟨_, _, rfl, rfl, CDivA.w q.1, p.int S q.2⟩
    · exact q.elim
  · split at q
    · cases rx.int; cases ry.int
      exact opw_of op_mod ⟨_, _, rfl, rfl, q.1, p.int S q.2⟩
    · exact q.elim
  · split at q
    · cases rx.int; cases ry.int
      exact opw_of op_pow ⟨_, _, rfl, rfl, q.1, p.int S q.2⟩
    · exact q.elim
  · exact q.elim
theorem eqGen_ok (hu : X.A.units + 64 < cLine) {neg : Bool} (S : StOk X.K Cl cs F H h) (rx : RepB X.K cs F H b x d) (ry : RepB X.K cs F H b' y e) (q : eqGen h neg d e Q) (p : PostV X.K Cl cs F H h Q R) : OpW X (compareOp (if neg then .NotEq else .Eq)) x y H R := by
  unfold eqGen at q
  split at q
  · rename_i d1 e1 h1 h2
    have dx := rx.pdH S h1
    have dy := ry.pdH S h2
    cases neg with
    | true => exact opw_of (op_neD hu) ⟨_, _, dx, dy, q.1, q.2.1, p.bl S q.2.2⟩
    | false => exact opw_of (op_eqD hu) ⟨_, _, dx, dy, q.1, q.2.1, p.bl S q.2.2⟩
  · exact q.elim
theorem eqK_ok (hu : X.A.units + 64 < cLine) (S : StOk X.K Cl cs F H h) (rx : RepB X.K cs F H b x d) (ry : RepB X.K cs F H b' y e) (q : eqK h d e Q) (p : PostV X.K Cl cs F H h Q R) : OpW X (compareOp .Eq) x y H R := by
  unfold eqK at q
  split at q
  · cases rx.int; cases ry.int
    exact opw_of op_eq ⟨rfl, p.bl S (by simpa using q)⟩
  · cases rx.str; cases ry.str
    exact opw_of op_eq ⟨rfl, p.bl S (by simpa using q)⟩
  · cases rx.bl; cases ry.bl
    exact opw_of op_eq ⟨rfl, p.bl S (by simpa using q)⟩
  · cases rx.non; cases ry.non
    exact opw_of op_eq ⟨rfl, p.bl S (by simpa using q)⟩
  · cases rx.int; cases ry.str
    exact opw_of op_eq ⟨rfl, p.bl S (by simpa using q)⟩
  · cases rx.str; cases ry.int
    exact opw_of op_eq ⟨rfl, p.bl S (by simpa using q)⟩
  · exact eqGen_ok (neg := false) hu S rx ry q p
theorem neK_ok (hu : X.A.units + 64 < cLine) (S : StOk X.K Cl cs F H h) (rx : RepB X.K cs F H b x d) (ry : RepB X.K cs F H b' y e) (q : neK h d e Q) (p : PostV X.K Cl cs F H h Q R) : OpW X (compareOp .NotEq) x y H R := by
  unfold neK at q
  split at q
  · cases rx.int; cases ry.int
    exact opw_of op_ne ⟨rfl, p.bl S (by simpa using q)⟩
  · cases rx.str; cases ry.str
    exact opw_of op_ne ⟨rfl, p.bl S (by simpa using q)⟩
  · cases rx.bl; cases ry.bl
    exact opw_of op_ne ⟨rfl, p.bl S (by simpa using q)⟩
  · cases rx.non; cases ry.non
    exact opw_of op_ne ⟨rfl, p.bl S (by simpa using q)⟩
  · cases rx.int; cases ry.str
    exact opw_of op_ne ⟨rfl, p.bl S (by simpa using q)⟩
  · cases rx.str; cases ry.int
    exact opw_of op_ne ⟨rfl, p.bl S (by simpa using q)⟩
  · exact eqGen_ok (neg := true) hu S rx ry q p
theorem op_dIn (hu : X.A.units + 1 < cLine) : OpR X (compareOp .In) (fun x y H Q => ∃ a o, y = .ref a ∧ DGet H a x o ∧ Q (.bl o.isSome) H) := by
  intro pins s σ H x y v u Q I rx ry h
  obtain ⟨a, o, rfl, g, q⟩ := h
  cases ry
  exact d_in hu I g rx fun s3 I3 => ⟨.bl o.isSome, H, I3, rfl, q⟩
theorem op_dNotIn (hu : X.A.units + 1 < cLine) : OpR X (compareOp .NotIn) (fun x y H Q => ∃ a o, y = .ref a ∧ DGet H a x o ∧ Q (.bl (!o.isSome)) H) := by
  intro pins s σ H x y v u Q I rx ry h
  obtain ⟨a, o, rfl, g, q⟩ := h
  cases ry
  exact d_notIn hu I g rx fun s3 I3 => ⟨.bl (!o.isSome), H, I3, rfl, q⟩
theorem inK_ok (hu : X.A.units + 64 < cLine) {neg : Bool} (S : StOk X.K Cl cs F H h) (rx : RepB X.K cs F H b x d) (ry : RepB X.K cs F H b' y e) (q : inK h neg d e Q) (p : PostV X.K Cl cs F H h Q R) : OpW X (compareOp (if neg then .NotIn else .In)) x y H R := by
  unfold inK at q
  split at q
  · rename_i z
    split at q
    · rename_i w
      split at q
      · rename_i c hc
        cases rx.str; cases ry.str
        have ew : w = ⟨#[c]⟩ := by
          obtain ⟨w⟩ := w
          obtain ⟨w⟩ := w
          simp at hc
          rw [hc]
        cases neg with
        | true => exact opw_of op_notIn_sign ⟨c, z, by rw [ew], rfl, p.bl S q⟩
        | false => exact opw_of op_in_sign ⟨c, z, by rw [ew], rfl, p.bl S q⟩
      · exact q.elim
    · exact q.elim
  · split at q
    · rename_i xs hv
      obtain ⟨a, vs, rfl, hq, r⟩ := ry.viewT S hv
      obtain ⟨f1, f2⟩ := r.flat q.2.1 rx q.1
      have q3 := q.2.2
      rw [← f2] at q3
      cases neg with
      | true => exact opw_of op_notIn_seq ⟨a, vs, rfl, hq, (rx.flat q.1).1, f1, p.bl S q3⟩
      | false => exact opw_of op_in_seq ⟨a, vs, rfl, hq, (rx.flat q.1).1, f1, p.bl S q3⟩
    · split at q
      · rename_i kvs k hd hk
        obtain ⟨a, vs, rfl, hq, r⟩ := ry.viewD S hd
        cases rx.key hk
        have e1 : (valV vs k).isSome = (getD kvs k).isSome := by
          rcases r.get (k := k) with ⟨v, d, e1, e2, _⟩ | ⟨e1, e2⟩ <;> rw [e1, e2] <;> rfl
        rw [← e1] at q
        cases neg with
        | true => exact opw_of (op_dNotIn (by omega)) ⟨a, _, rfl, .k hq, p.bl S q⟩
        | false => exact opw_of (op_dIn (by omega)) ⟨a, _, rfl, .k hq, p.bl S q⟩
      · exact q.elim
theorem cmpK_ok (hu : X.A.units + 64 < cLine) {op : CmpOp} (S : StOk X.K Cl cs F H h) (rx : RepB X.K cs F H b x d) (ry : RepB X.K cs F H b' y e) (q : cmpK h op d e Q) (p : PostV X.K Cl cs F H h Q R) : OpW X (compareOp op) x y H R := by
  unfold cmpK at q
  split at q
  · exact eqK_ok hu S rx ry q p
  · exact neK_ok hu S rx ry q p
  · split at q
    · cases rx.int; cases ry.int
      exact opw_of op_lt ⟨_, _, rfl, rfl, p.bl S q⟩
    · exact q.elim
  · split at q
    · cases rx.int; cases ry.int
      exact opw_of op_le ⟨_, _, rfl, rfl, p.bl S q⟩
    · exact q.elim
  · split at q
    · cases rx.int; cases ry.int
      exact opw_of op_gt ⟨_, _, rfl, rfl, p.bl S q⟩
    · exact q.elim
  · split at q
    · cases rx.int; cases ry.int
      exact opw_of op_ge ⟨_, _, rfl, rfl, p.bl S q⟩
    · exact q.elim
  · split at q
    · cases ry.non
      rw [← rx.isNon] at q
      exact opw_of op_isN ⟨rfl, p.bl S q⟩
    · split at q
      · cases rx.bl; cases ry.bl
        exact opw_of op_isBl ⟨_, _, rfl, rfl, p.bl S q⟩
      · exact q.elim
    · exact q.elim
  · split at q
    · cases ry.non
      rw [← rx.isNon] at q
      exact opw_of op_notN ⟨rfl, p.bl S q⟩
    · split at q
      · cases rx.bl; cases ry.bl
        exact opw_of op_notBl ⟨_, _, rfl, rfl, p.bl S q⟩
      · exact q.elim
    · exact q.elim
  · exact inK_ok (neg := false) hu S rx ry q p
  · exact inK_ok (neg := true) hu S rx ry q p
end
/-! items, slices, truth, calls of built-ins -/
def IxW (X : Cx) (x y : V) (H : Hp) (Q : VK) : Prop :=
  ∀ (value slice : Expr) (pins : List (Addr × Obj)) (s : Shared) (σ : L2.St) (v u : Value), Inv X pins σ H s → RelV x v → RelV y u → subscripted slice false v u = operate [v, u] (getItem v u) → wpAny (model X.prog X.w) X.A (subscriptTail value slice v u) (EP X pins σ Q) X.xe s
theorem ixw_ok {X : Cx} : IxR X (IxW X) := fun value slice pins s σ H x y v u Q I rx ry h hs => h value slice pins s σ v u I rx ry hs
theorem ixw_of {X : Cx} {r : R2} (o : IxR X r) {x y : V} {H : Hp} {Q : VK} (h : r x y H Q) : IxW X x y H Q := fun value slice pins s σ v u I rx ry hs => o value slice pins s σ H x y v u Q I rx ry h hs
def SlW (X : Cx) (x : V) (lo hi : Option Int) (H : Hp) (Q : VK) : Prop :=
  ∀ (pins : List (Addr × Obj)) (s : Shared) (σ : L2.St) (v vl vu : Value) (sl : Addr), Inv X pins σ H s → RelV x v → s.heap.IsSliceOf sl vl vu .none → IsPart vl lo → IsPart vu hi →
    ∃ T id, typeLookup (.type T) "__getitem__" = pure (some (.builtin id)) ∧ s.TypeIs v T ∧ wpAny (model X.prog X.w) X.A (getItem v (.ref sl)) (EP X pins σ Q) X.xe s
theorem slw_ok {X : Cx} : SlR X (SlW X) := fun pins s σ H x v vl vu lo hi sl Q I rx hs pl pu h => h pins s σ v vl vu sl I rx hs pl pu
theorem slw_of {X : Cx} {r : V → Option Int → Option Int → Hp → VK → Prop} (o : SlR X r) {x : V} {lo hi : Option Int} {H : Hp} {Q : VK} (h : r x lo hi H Q) : SlW X x lo hi H Q := fun pins s σ v vl vu sl I rx hs pl pu => o pins s σ H x v vl vu lo hi sl Q I rx hs pl pu h
def CallW (X : Cx) (f : Value) (xs : List V) (H : Hp) (Q : VK) : Prop :=
  ∀ (pins : List (Addr × Obj)) (s : Shared) (σ : L2.St) (us : List Value), Inv X pins σ H s → Vals xs us → wpAny (model X.prog X.w) X.A (call f us) (EP X pins σ Q) X.xe s
theorem callw_ok {X : Cx} {f : Value} : CallR X f (CallW X f) := fun pins s σ H xs us Q I r h => h pins s σ us I r
theorem callw_of {X : Cx} {f : Value} {r : List V → Hp → VK → Prop} (o : CallR X f r) {xs : List V} {H : Hp} {Q : VK} (h : r xs H Q) : CallW X f xs H Q := fun pins s σ us I rs => o pins s σ H xs us Q I rs h
section
variable {X : Cx} {Cl : Nat → Addr} {cs : List Addr} {F H : Hp} {h : AHeap} {Q : KA} {R : VK} {x y : V} {d e : AV} {b b' : Bool}
theorem ix_dict (hu : X.A.units + 1 < cLine) : IxR X (fun x y H Q => ∃ a v, x = .ref a ∧ DGet H a y (some v) ∧ Q v H) := by
  intro value slice pins s σ H x y v u Q I rx ry h hs
  obtain ⟨a, w, rfl, g, q⟩ := h
  cases rx
  exact tail_any (dict_typeIs I g) PySem.F.slot_dict_getitem.lookup (d_getItem hu I g ry fun w' s3 I3 rw' => ⟨w, H, I3, rw', q⟩) hs
theorem subK_ok (hu : X.A.units + 64 < cLine) (S : StOk X.K Cl cs F H h) (rx : RepB X.K cs F H b x d) (ry : RepB X.K cs F H b' y e) (q : subK h d e Q) (p : PostV X.K Cl cs F H h Q R) : IxW X x y H R := by
  unfold subK at q
  split at q
  · split at q
    · cases rx.str; cases ry.int
      obtain ⟨q1, q2⟩ := q
      split at q2
      · rename_i c hc
        exact ixw_of ix_str ⟨_, _, c, rfl, rfl, q1, hc, p.str S q2⟩
      · exact q2.elim
    · exact q.elim
  · split at q
    · rename_i xs hv
      obtain ⟨a, vs, rfl, hq, r⟩ := rx.viewT S hv
      split at q
      · cases ry.int
        split at q
        · rename_i d' hd
          obtain ⟨v, hv, rv⟩ := r.at hd
          rcases hq with hq | hq
          · exact ixw_of ix_list ⟨a, vs, _, v, rfl, rfl, hq, hv, p.here S rv q⟩
          · exact ixw_of ix_tup ⟨a, vs, _, v, rfl, rfl, hq, hv, p.here S rv q⟩
        · exact q.elim
      · exact q.elim
    · split at q
      · rename_i kvs k hd hk
        obtain ⟨a, vs, rfl, hq, r⟩ := rx.viewD S hd
        cases ry.key hk
        split at q
        · rename_i d' hd'
          rcases r.get (k := k) with ⟨v, d2, e1, e2, r2⟩ | ⟨e1, e2⟩
          · rw [hd'] at e2; cases e2
            refine ixw_of (ix_dict (by omega)) ⟨a, v, rfl, ?_, p.here S r2 q⟩
            rw [← e1]
            exact .k hq
          · rw [hd'] at e2; cases e2
        · exact q.elim
      · exact q.elim
theorem Reps.cut_whole {K : PySem.W.Frag} {vs : List V} {xs : List AV} (r : Reps K cs F vs xs) {lo hi : Option Int} (w : HT.sIx vs.length 0 lo = 0 ∧ HT.sIx vs.length vs.length hi = vs.length) : _root_.VL.cut xs lo hi = xs := by
  unfold VL.cut
  rw [← r.length, w.1, w.2, r.length]
  simp
theorem sliceK_ok (S : StOk X.K Cl cs F H h) (rx : RepB X.K cs F H false x d) {lo hi : Option Int} (q : sliceK h d lo hi Q) (p : PostV X.K Cl cs F H h Q R) : SlW X x lo hi H R := by
  unfold sliceK at q
  split at q
  · cases rx.str
    exact slw_of sl_str ⟨_, rfl, q.1, p.str S q.2⟩
  · have rx := rx.plain
    cases rx with
    | tup h1 r1 =>
      refine slw_of sl_tupA ⟨_, _, rfl, ex_t S.sub h1, fun w => ?_, fun _ => p.newT S (r1.cut lo hi) q⟩
      rw [r1.cut_whole w] at q
      exact p.here S (.tup h1 r1) q
  · exact q.elim
theorem truK_ok (S : StOk X.K Cl cs F H h) (rx : RepB X.K cs F H b x d) {Q : Bool → Prop} (q : truK h d Q) : ∃ k, TruV X.K x H k ∧ Q k := by
  unfold truK at q
  split at q
  · cases rx.bl; exact ⟨_, rfl, q⟩
  · cases rx.non; exact ⟨_, rfl, q⟩
  · cases rx.int; exact ⟨_, rfl, q⟩
  · cases rx.str; exact ⟨_, ⟨q.1, rfl⟩, q.2⟩
  · split at q
    · rename_i xs hv
      obtain ⟨a, vs, rfl, hq, r⟩ := rx.viewT S hv
      have e : xs.isEmpty = vs.isEmpty := by
        have := r.length
        cases vs <;> cases xs <;> simp at this ⊢
      rw [e] at q
      rcases hq with hq | hq
      · exact ⟨_, .inl ⟨vs, hq, rfl⟩, q⟩
      · exact ⟨_, .inr (.inl ⟨vs, hq, rfl⟩), q⟩
    · exact q.elim
def bVal : Blt → Value
  | .len => .builtin "len" | .abs => .builtin "abs" | .int => .type "int" | .str => .type "str" | .max2 => .builtin "max" | .min2 => .builtin "min" | .maxL => .builtin "max" | .minL => .builtin "min"
  | .sum => .builtin "sum" | .all => .builtin "all" | .any => .builtin "any" | .tuple => .type "tuple" | .repr => .builtin "repr"
inductive RepBs (K : PySem.W.Frag) (cs : List Addr) (F H : Hp) (b : Bool) : List V → List AV → Prop
  | nil : RepBs K cs F H b [] []
  | cons {v : V} {vs : List V} {d : AV} {ds : List AV} : RepB K cs F H b v d → RepBs K cs F H b vs ds → RepBs K cs F H b (v :: vs) (d :: ds)
theorem RepBs.step {K : PySem.W.Frag} {cs' : List Addr} {F' H' : Hp} {vs : List V} {ds : List AV} (r : RepBs K cs F H b vs ds) (x : Stp cs F H cs' F' H') : RepBs K cs' F' H' b vs ds := by
  induction r with
  | nil => exact .nil
  | cons h _ ih => exact .cons (h.step x) ih
theorem RepBs.plain {K : PySem.W.Frag} {vs : List V} {ds : List AV} (r : RepBs K cs F H false vs ds) : Reps K cs F vs ds := by
  induction r with
  | nil => exact .nil
  | cons h _ ih => exact .cons h.plain ih
/-- repr, where no guard is open -/
theorem call_repr_D (gd : X.A.guards = some []) (hu : X.A.units + 64 < cLine) : CallR X (.builtin "repr") fun vs H Q => ∃ v d, vs = [v] ∧ Dp X.K H v d ∧ (d.showable = true ∧ d.hasDict = false ∧ d.depth ≤ 50 ∧ d.shown.length ≤ sizeLine) ∧ Q (.str d.shown) H := by
  rintro pins s σ H vs us Q J rs ⟨v, d, rfl, hd, ⟨h1, h2, h3, h4⟩, q⟩
  cases rs with
  | cons r rs =>
    rename_i u us
    cases rs
    obtain ⟨as, rd⟩ := Dp.reads J d v u hd r
    have fin : ∀ h' tk, (∀ b o, s.heap.get? b = some o → h'.get? b = some o) → ∀ t, EP X pins σ Q (.str d.shown t) { s with heap := h', toks := tk } :=
      fun h' tk hk t => ⟨.str d.shown, H, J.kept hk, ⟨t, rfl⟩, q⟩
    have same : ∀ b o, s.heap.get? b = some o → s.heap.get? b = some o := fun _ _ e => e
    cases rd with
    | none => exact PySem.P.repr_of_none (fin s.heap _ same _)
    | bool b => exact PySem.P.repr_of_bool (fin s.heap _ same _)
    | int i t => exact PySem.P.repr_of_int (by simpa [PyData.showable] using h1) (fin s.heap _ same _)
    | str x t => exact PySem.P.repr_of_str (fin s.heap _ same _) h4
    | list a1 a2 a3 a4 => exact repr_of_reads' (.list a1 a2 a3 a4) h1 (PyData.noDict_hsm h2) gd (by omega) same (fun h' t tk hk => fin h' tk hk t) h4
    | tuple a1 a2 a3 a4 => exact repr_of_reads' (.tuple a1 a2 a3 a4) h1 (PyData.noDict_hsm h2) gd (by omega) same (fun h' t tk hk => fin h' tk hk t) h4
    | dict a1 a2 a3 a4 a5 => cases h2
theorem bltK_ok (hc : X.calm = true) (gd : X.A.guards = some []) (hu : X.A.units + 64 < cLine) (S : StOk X.K Cl cs F H h) {bt : Blt} {vs : List V} {ds : List AV} (rs : RepBs X.K cs F H b vs ds) (q : bltK h bt ds Q) (p : PostV X.K Cl cs F H h Q R) : CallW X (bVal bt) vs H R := by
  unfold bltK at q
  split at q
  · -- len of a text
    cases rs with | cons r1 rs => cases rs; cases r1.str; exact callw_of call_len_str ⟨_, rfl, q.1, p.int S q.2⟩
  · cases rs with
    | cons r1 rs =>
      cases rs
      split at q
      · rename_i xs hv
        obtain ⟨a, vs, rfl, hq, r⟩ := r1.viewT S hv
        refine callw_of call_len_seq ⟨a, vs, rfl, hq, ?_⟩
        rw [r.length]
        exact p.int S q
      · split at q
        · rename_i kvs hd
          obtain ⟨a, vs, rfl, hq, r⟩ := r1.viewD S hd
          refine callw_of call_lenD ⟨a, vs, rfl, hq, ?_⟩
          rw [r.length]
          exact p.int S q
        · exact q.elim
  · cases rs with | cons r1 rs => cases rs; cases r1.int; exact callw_of call_abs ⟨_, rfl, p.int S q⟩
  · cases rs with | cons r1 rs => cases rs; cases r1.int; exact callw_of call_int1 (.inl ⟨_, rfl, p.int S q⟩)
  · cases rs with | cons r1 rs => cases rs; cases r1.bl; exact callw_of call_int1 (.inr ⟨_, rfl, p.int S q⟩)
  · cases rs with
    | cons r1 rs =>
      cases rs
      cases r1.str
      split at q
      · rename_i n e
        exact callw_of call_int_str ⟨_, n, rfl, e, q.1, p.int S q.2⟩
      · exact q.elim
  · cases rs with | cons r1 rs => cases rs; cases r1.int; exact callw_of call_str_int ⟨_, rfl, q.1, p.str S q.2⟩
  · cases rs with | cons r1 rs => cases rs with | cons r2 rs => cases rs; cases r1.int; cases r2.int; exact callw_of (call_max2 hc) ⟨_, _, rfl, p.int S q⟩
  · cases rs with | cons r1 rs => cases rs with | cons r2 rs => cases rs; cases r1.int; cases r2.int; exact callw_of (call_min2 hc) ⟨_, _, rfl, p.int S q⟩
  · cases rs with
    | cons r1 rs =>
      cases rs
      split at q
      · rename_i ns hv
        obtain ⟨xs, hv, hn⟩ := Option.bind_eq_some_iff.mp hv
        obtain ⟨a, vs, rfl, hq, r⟩ := r1.view S hv
        rw [r.ints hn] at hq
        exact callw_of (cr_max hc) ⟨a, ns, rfl, hq, q.1, fun m h1 h2 => p.int S (q.2 m h1 h2)⟩
      · exact q.elim
  · cases rs with
    | cons r1 rs =>
      cases rs
      split at q
      · rename_i ns hv
        obtain ⟨xs, hv, hn⟩ := Option.bind_eq_some_iff.mp hv
        obtain ⟨a, vs, rfl, hq, r⟩ := r1.view S hv
        rw [r.ints hn] at hq
        exact callw_of (cr_min hc) ⟨a, ns, rfl, hq, q.1, fun m h1 h2 => p.int S (q.2 m h1 h2)⟩
      · exact q.elim
  · cases rs with
    | cons r1 rs =>
      cases rs
      split at q
      · rename_i ns hv
        obtain ⟨xs, hv, hn⟩ := Option.bind_eq_some_iff.mp hv
        obtain ⟨a, vs, rfl, hq, r⟩ := r1.view S hv
        rw [r.ints hn] at hq
        exact callw_of (cr_sum hc) ⟨a, ns, rfl, hq, p.int S q⟩
      · exact q.elim
  · cases rs with
    | cons r1 rs =>
      cases rs
      split at q
      · rename_i ns hv
        obtain ⟨xs, hv, hn⟩ := Option.bind_eq_some_iff.mp hv
        obtain ⟨a, vs, rfl, hq, r⟩ := r1.view S hv
        rw [r.bools hn] at hq
        exact callw_of (cr_all hc) ⟨a, ns, rfl, hq, p.bl S q⟩
      · exact q.elim
  · cases rs with
    | cons r1 rs =>
      cases rs
      split at q
      · rename_i ns hv
        obtain ⟨xs, hv, hn⟩ := Option.bind_eq_some_iff.mp hv
        obtain ⟨a, vs, rfl, hq, r⟩ := r1.view S hv
        rw [r.bools hn] at hq
        exact callw_of (cr_any hc) ⟨a, ns, rfl, hq, p.bl S q⟩
      · exact q.elim
  · cases rs with
    | cons r1 rs =>
      cases rs
      split at q
      · rename_i d hd
        exact callw_of (call_repr_D gd hu) ⟨_, d, rfl, r1.pdH S hd, q.1, p.str S q.2⟩
      · exact q.elim
  · cases rs with
    | cons r1 rs =>
      cases rs
      rcases r1 with r | ⟨_, _, _, _, _, ⟨_, _, e, _⟩ | ⟨_, _, e, _⟩⟩
      · cases r with
        | tup h1 r1 => exact callw_of call_tuple_of ⟨_, _, rfl, .inr ⟨ex_t S.sub h1, p.here S (.tup h1 r1) q⟩⟩
      · cases e
      · cases e
  · cases rs with
    | cons r1 rs =>
      cases rs
      split at q
      · rename_i xs hv
        obtain ⟨a, vs, rfl, hq, r⟩ := r1.view S hv
        exact callw_of call_tuple_of ⟨a, vs, rfl, .inl ⟨hq, p.newT S r q⟩⟩
      · exact q.elim
  · exact q.elim
end
end VL

set_option maxRecDepth 100000
set_option maxHeartbeats 4000000
/-! VL: the promise of a def where no guard stands open: what repr asks. -/
namespace VL
open PySem L2 Evl PyProof.Rows PySem.Spec
/-- what a def keeps, called where no guard is open; no exception leaves it -/
structure FnG (P : Program) (W : World) (K : PySem.W.Frag) (gl : Str → Option Value) (B : Heap) (k : Nat) (f : Addr) (fd : FuncData) (ps : List Str) (sp : Sp) : Prop where
  cnt : ∀ vs H Q E, sp vs H Q E → vs.length = ps.length
  go : ∀ (A : Around) (fr : List PySem.Env) (s : Shared) (H : Hp) (ar : Args) (us : List Value) (vs : List V) (Q : VK) (E : XK),
    A.guards = some [] → Room k A → Env0 P W K gl B A fr s H → BindsTo s fd ar (ps.zip us) → Vals vs us → sp vs H Q E →
    codeAny (model P W) A (.call (.ref f) ar) (CR CX0 fr P W H s Q E) s
section
variable {P : Program} {W : World} {K : PySem.W.Frag} {gl : Str → Option Value} {B : Heap}
theorem FnG.of_body {name qn : Str} {st : Stmt} {f : Addr} {fd : FuncData} {N ps : List Str} {k : Nat} {sp : Sp} (F : Fun K name qn st f fd) (S : FnScope N ps (defScope st)) (cnt : ∀ vs H Q E, sp vs H Q E → vs.length = ps.length)
    (body : ∀ (cv : Value) (A : Around) (fr : List PySem.Env) (s : Shared) (H : Hp) (vs : List V) (Q : VK) (E : XK), (A.deeper (envOfC qn (defScope st) s.heap.objs.size f cv)).guards = some [] →
      Room k (A.deeper (envOfC qn (defScope st) s.heap.objs.size f cv)) → sp vs H Q E →
      ∃ t, PSs (cxOf CX0 P W K gl B N qn (defScope st) f cv A fr s H E).nox (defBody st) t ∧ t { nx := fun _ H' => Q .non H', rt := Q } (L2.start N vs) H) :
    FnG P W K gl B (k + 1) f fd ps sp := by
  obtain ⟨oc, od, kV, dc, pm, an, cv, ct, sl, rfl, at_, code⟩ := F.ex
  constructor
  · exact cnt
  intro A fr s H ar us vs Q E gd room env bnd rel want
  have here : K.In s.heap := env.mod.kin.keeps fun b o z => (env.bs b o z).1
  have kinds : ∀ y ∈ ps.zip us, (defScope st).names.lookup y.1 = some .local ∨ ((defScope st).names.lookup y.1 = some .cell ∧ ((cellsFrom (s.heap.objs.size + 1) (defScope st).names []).lookup y.1).isSome = true) := by
    rintro ⟨nm, v⟩ hy
    rcases S.par nm (List.of_mem_zip hy).1 with z | z
    · exact Or.inl z
    · exact Or.inr ⟨z, PySem.W.cellsFrom_some _ _ _ (Or.inl z)⟩
  refine codeAny_call_function room.depth (here _ _ at_) rfl S.co S.gen rfl (PySem.W.codeRec_of here code) (bnd _ _ _ _ ?_)
  refine wpAny_newFunctionEnv_cells S.kind kinds fun e0 he s1 x => ?_
  cases he
  have calm : s.heap.NoLimit := env.mod.nolimit.keeps fun b o z => (env.bs b o z).1
  refine And.intro (calm.keeps x.toInCall.keep) (codeAny_func ?_)
  obtain ⟨t, pt, run⟩ := body cv A fr s H vs Q E gd (room.deeper _) want
  have J : Inv (cxOf CX0 P W K gl B N qn (defScope st) f cv A fr s H E) [] (L2.start N vs) H s1 := inv_start S room.hd env (cnt _ _ _ _ want) rel x
  refine wpAny_mono (pt.nox.run [] s1 (L2.start N vs) H _ J run) ?_ fun _ _ z => z
  intro fl s2 z
  match fl, z with
  | .ret u, ⟨v, _, H2, J2, rv, q⟩ => exact ⟨v, H2, J2.os, J2.bare, J2.base, J2.hok, rv, q⟩
  | .next, ⟨_, H2, J2, q⟩ => exact ⟨V.non, H2, J2.os, J2.bare, J2.base, J2.hok, rfl, q⟩
  | .brk, ⟨_, _, _, q⟩ => exact q.elim
  | .cont, ⟨_, _, _, q⟩ => exact q.elim
end
section
variable {X : Cx} {k : Nat} {f : Addr} {fd : FuncData} {ps : List Str} {sp : Sp} {x : Str} {p pos : Pos} {e : Expr} {es : List Expr} {t : TA}
theorem FnG.step {pins : List (Addr × Obj)} {σ : L2.St} {H : Hp} {s : Shared} {Q : VK} {us : List Value} {vs : List V} (F : FnG X.prog X.w X.K X.mg X.base k f fd ps sp) (gd : X.A.guards = some []) (room : Room k X.A) (bnd : Binds X.K fd ps [])
    (J : Inv X pins σ H s) (rel : Vals vs us) (want : sp vs H Q E0) : wpAny (model X.prog X.w) X.A (call (.ref f) us) (EP X pins σ Q) X.xe s := by
  have n1 : (us ++ []).length = ps.length := by
    rw [List.append_nil, ← rel.length]
    exact F.cnt _ _ _ _ want
  have b1 := bnd s us J.kIn n1
  rw [List.append_nil] at b1
  refine wpAny_call (codeAny_mono (F.go X.A X.stack s H ⟨us, []⟩ us vs Q E0 gd room J.env0 b1 rel want) ?_)
  intro r s2 z
  match r, z with
  | .ok (.ret u), z => exact J.after z
  | .ok .next, z => exact z.elim
  | .ok .brk, z => exact z.elim
  | .ok .cont, z => exact z.elim
  | .error _, z => exact z.elim
/-- f(e, ..) -/
theorem FnG.call (F : FnG X.prog X.w X.K X.mg X.base k f fd ps sp) (gd : X.A.guards = some []) (room : Room k X.A) (hg : Gl X x) (hm : X.mg x = some (.ref f)) (hk : PySem.W.keepIn X.K (.ref f) = true) (bnd : Binds X.K fd ps [])
    (ha : PA X (e :: es) t) (hdb : (x == ("__debug__" : Str)) = false) (he : starEach (e :: es) X.env = (false, eval e X.env) :: starEach es X.env) (hpl : (backTo pos (starEach es X.env)).any (·.1) = false) :
    PE X (.Call (.Name x p) (e :: es) [] pos) fun σ H Q => t σ H fun vs H1 => sp vs H1 Q E0 := by
  constructor
  intro pins s σ H Q J z
  refine wpAny_Call_Name_kw (ld_glob J hg hm ?_ hdb)
  refine PySem.W.callWith_K (h₀ := X.base) J.ok.mod.kin hk (thn (ha.run pos pins s σ H _ J z) ?_) he hpl
  rintro us s1 ⟨vs, H1, J1, rel, want⟩
  exact ⟨J1.kIn, F.step gd room bnd J1 rel want⟩
/-- f() -/
theorem FnG.call0 (F : FnG X.prog X.w X.K X.mg X.base k f fd ps sp) (gd : X.A.guards = some []) (room : Room k X.A) (hg : Gl X x) (hm : X.mg x = some (.ref f)) (hk : PySem.W.keepIn X.K (.ref f) = true) (bnd : Binds X.K fd ps [])
    (hdb : (x == ("__debug__" : Str)) = false) : PE X (.Call (.Name x p) [] [] pos) fun σ H Q => sp [] H Q E0 := by
  constructor
  intro pins s σ H Q J z
  exact wpAny_Call_Name_kw (ld_glob J hg hm (PySem.W.callWith_K0 J.kIn hk (F.step (us := []) gd room bnd J .nil z)) hdb)
theorem under_gd {A : Around} {C : Addr} {us : List Value} (h : A.guards = some []) : (A.under (.builtin "type.__call__" ⟨.ref C :: us, []⟩)).guards = some [] := by
  first | exact h | (simp [Around.under, Code.guards, Code.isGuard, guardIds, pushGuards, h])
/-- C(..): the new instance, then its __init__ -/
theorem FnG.born {C : Addr} {pins : List (Addr × Obj)} {σ : L2.St} {H : Hp} {s : Shared} {Q : VK} {us : List Value} {vs : List V} (M : Mk X.K C f) (F : FnG X.prog X.w X.K X.mg X.base k f fd ps sp) (gd : X.A.guards = some []) (room : Room (k + 1) X.A) (bnd : Binds X.K fd ps [])
    (J : Inv X pins σ H s) (rel : Vals vs us) (want : ∀ x dx, H x = none → H dx = none → dx ≠ x → sp (.ref x :: vs) (upd (upd H dx (.own x)) x (.ins C dx [])) (fun v H2 => v = .non ∧ Q (.ref x) H2) E0) :
    wpAny (model X.prog X.w) X.A (PySem.call (.ref C) us) (EP X pins σ Q) X.xe s := by
  have n0 : H s.heap.objs.size = none := J.hok.fresh (Nat.le_refl _)
  have n1 : H (s.heap.objs.size + 1) = none := J.hok.fresh (Nat.le_succ _)
  have want := want _ _ n1 n0 (Nat.ne_of_lt (Nat.lt_succ_self _))
  have J2 := Inv.made (C := C) J
  have rel2 : Vals (V.ref (s.heap.objs.size + 1) :: vs) (Value.ref (s.heap.objs.size + 1) :: us) := .cons rfl rel
  have cnt : (Value.ref (s.heap.objs.size + 1) :: us ++ []).length = ps.length := by
    rw [List.append_nil, ← rel2.length]
    exact F.cnt _ _ _ _ want
  have b1 := bnd _ (Value.ref (s.heap.objs.size + 1) :: us) J2.kIn cnt
  rw [List.append_nil] at b1
  refine wpAny_call (make_map (f := f) J.kIn M.makes M.init (beq_iff_eq.mp M.fn) (codeAny_mono (F.go _ X.stack _ _ ⟨Value.ref (s.heap.objs.size + 1) :: us, []⟩ _ _ _ E0 (under_gd gd) (room.make C us []) (J2.env0.make C us []) b1 rel2 want) ?_))
  intro r s2 z
  match r, z with
  | .ok (.ret u), z =>
    obtain ⟨v, H2, J3, rv, ev, q⟩ := J2.after z
    subst ev
    exact ⟨rv, V.ref _, H2, J3, rfl, q⟩
  | .ok .next, z => exact z.elim
  | .ok .brk, z => exact z.elim
  | .ok .cont, z => exact z.elim
  | .error _, z => exact z.elim
theorem FnG.make {C : Addr} (M : Mk X.K C f) (F : FnG X.prog X.w X.K X.mg X.base k f fd ps sp) (gd : X.A.guards = some []) (room : Room (k + 1) X.A) (hg : Gl X x) (hm : X.mg x = some (.ref C)) (bnd : Binds X.K fd ps [])
    (ha : PA X (e :: es) t) (hdb : (x == ("__debug__" : Str)) = false) (he : starEach (e :: es) X.env = (false, eval e X.env) :: starEach es X.env) (hpl : (backTo pos (starEach es X.env)).any (·.1) = false) :
    PE X (.Call (.Name x p) (e :: es) [] pos) fun σ H Q => t σ H fun vs H1 => ∀ a dx, H1 a = none → H1 dx = none → dx ≠ a → sp (.ref a :: vs) (upd (upd H1 dx (.own a)) a (.ins C dx [])) (fun v H2 => v = .non ∧ Q (.ref a) H2) E0 := by
  constructor
  intro pins s σ H Q J z
  refine wpAny_Call_Name_kw (ld_glob J hg hm ?_ hdb)
  refine PySem.W.callWith_K (h₀ := X.base) J.ok.mod.kin M.kp (thn (ha.run pos pins s σ H _ J z) ?_) he hpl
  rintro us s1 ⟨vs, H1, J1, rel, want⟩
  exact ⟨J1.kIn, F.born M gd room bnd J1 rel want⟩
/-- the def of a method, found at the object -/
theorem call_at {o : Expr} {m : Str} {apos : Pos} {env : PySem.Env} {args : List Expr} {A : Around} {M : Model} {Q : Value → Shared → Prop} {E : Value → Shared → Prop} {s : Shared} (hb : attributeBase o m env (eval o env) = eval o env) (hl : (apos.endLine == pos.line) = true) (hf : methodCallForm args.length (backTo pos (starEach args env)) [] = true)
    (h : wpAny M A (eval o env) (fun ov s1 => ∀ pl, wpAny M A (getMethod ov m pl) (fun g s2 => wpAny M A (callWith pos g.1 g.2 (backTo pos (starEach args env)) []) Q E s2) E s1) E s) : wpAny M A (eval (.Call (.Attribute o m apos) args [] pos) env) Q E s := by
  rw [arm_eval_Call, hb]
  refine wpAny_bind (thn h ?_)
  intro ov s1 z
  refine wpAny_bind (wpAny_standAt ?_)
  have same : ∀ few, methodCallPos few o env apos pos = pure pos := fun few => by unfold methodCallPos; simp [hl]
  unfold methodCall
  show wpAny M A (holding [ov] (calleeOf (methodCallForm args.length (backTo pos (starEach args env)) []) o env ov m) >>= _) Q E s1
  rw [hf]
  refine wpAny_bind (wpAny_holding (thn (z _) ?_))
  intro g s2 z2
  exact wpAny_bind (wpAny_of_eq (same _) z2)
/-- a method of the object that stands there, at its class -/
def MethAt (X : Cx) (C : Addr) (m : Str) (sp : Sp) : Prop := ∃ k f fd ps, Cls X.K C ∧ Meth X.K C m f ∧ FnG X.prog X.w X.K X.mg X.base k f fd ps sp ∧ Room k X.A ∧ Binds X.K fd ps []
theorem pe_methG {m : Str} {o : Expr} {apos : Pos} {ta : TE} (ho : PE X o ta) (hb : attributeBase o m X.env (eval o X.env) = eval o X.env) (hl : (apos.endLine == pos.line) = true) (hf : methodCallForm (e :: es).length (backTo pos (starEach (e :: es) X.env)) [] = true) (gd : X.A.guards = some [])
    (ha : PA X (e :: es) t) (he : starEach (e :: es) X.env = (false, eval e X.env) :: starEach es X.env) (hpl : (backTo pos (starEach es X.env)).any (·.1) = false) :
    PE X (.Call (.Attribute o m apos) (e :: es) [] pos) fun σ H Q => ta σ H fun x H1 => ∃ a C dx fs sp, x = .ref a ∧ H1 a = some (.ins C dx fs) ∧ fs.lookup m = none ∧ MethAt X C m sp ∧ t σ H1 fun vs H2 => sp (x :: vs) H2 Q E0 := by
  constructor
  intro pins s σ H Q J z
  refine call_at hb hl hf (thn (ho.run pins s σ H _ J z) ?_)
  rintro u s1 ⟨x, H1, J1, rx, a, C, dx, fs, sp, rfl, ea, l, ⟨k, f, fd, ps, c, hm, F, room, bnd⟩, q⟩ pl
  cases rx
  refine getmeth_ok J1 ea c hm l ?_
  refine PySem.W.callWith_K (first := [.ref a]) (h₀ := X.base) J1.ok.mod.kin hm.kp (thn (ha.run pos pins s1 σ H1 _ J1 q) ?_) he hpl
  rintro us s2 ⟨vs, H2, J2, rel, want⟩
  exact ⟨J2.kIn, F.step (us := .ref a :: us) (vs := .ref a :: vs) gd room bnd J2 (.cons rfl rel) want⟩
theorem pe_methG0 {m : Str} {o : Expr} {apos : Pos} {ta : TE} (ho : PE X o ta) (hb : attributeBase o m X.env (eval o X.env) = eval o X.env) (hl : (apos.endLine == pos.line) = true) (gd : X.A.guards = some []) :
    PE X (.Call (.Attribute o m apos) [] [] pos) fun σ H Q => ta σ H fun x H1 => ∃ a C dx fs sp, x = .ref a ∧ H1 a = some (.ins C dx fs) ∧ fs.lookup m = none ∧ MethAt X C m sp ∧ sp [x] H1 Q E0 := by
  constructor
  intro pins s σ H Q J z
  refine call_at hb hl rfl (thn (ho.run pins s σ H _ J z) ?_)
  rintro u s1 ⟨x, H1, J1, rx, a, C, dx, fs, sp, rfl, ea, l, ⟨k, f, fd, ps, c, hm, F, room, bnd⟩, want⟩ pl
  cases rx
  refine getmeth_ok J1 ea c hm l ?_
  exact PySem.W.callWith_K0 (first := [.ref a]) J1.kIn hm.kp (F.step (us := [.ref a]) (vs := [.ref a]) gd room bnd J1 (.cons rfl .nil) want)
end
end VL

set_option maxRecDepth 100000
set_option maxHeartbeats 2000000
/-! VL: t[::-1] of a tuple; dicts of the module. -/
namespace VL
open PySem L2 Evl PyProof.Rows PySem.Spec
section
variable {prog : Program} {w : World} {A : Around} {E : Value → Shared → Prop} {s : Shared}
theorem rev_adjust (n : Nat) : Builtin.Slice.sliceAdjust none none (-1) (n : Int) = ((n : Int) - 1, -1) := by
  unfold Builtin.Slice.sliceAdjust
  have h1 : ((-1 : Int) < 0) := by decide
  simp only [h1, if_true]
theorem rev_places (n : Nat) : Builtin.Slice.slicePlaces ((n : Int) - 1) (-1) (-1) = n := by
  unfold Builtin.Slice.slicePlaces
  have h1 : ¬ ((-1 : Int) > 0) := by decide
  have h2 : (-(-1) : Int) = 1 := by decide
  simp only [h1, if_false, h2, Int.ediv_one]
  split <;> omega
theorem fm_congr {α β : Type} {f g : α → Option β} : ∀ {l : List α}, (∀ a ∈ l, f a = g a) → l.filterMap f = l.filterMap g
  | [], _ => rfl
  | x :: l, h => by rw [List.filterMap_cons, List.filterMap_cons, h x (by simp), fm_congr fun a m => h a (List.mem_cons_of_mem _ m)]
theorem rev_pick (xs : Array Value) : ((List.range xs.size).filterMap fun (m : Nat) => xs[((xs.size : Int) - 1 + (m : Int) * -1).toNat]?).toArray = xs.toList.reverse.toArray := by
  have g := HT.pick_gen xs.toList.reverse.toArray 0 xs.size
  have e : ((List.range xs.size).filterMap fun (m : Nat) => xs[((xs.size : Int) - 1 + (m : Int) * -1).toNat]?) = ((List.range xs.size).filterMap fun (m : Nat) => xs.toList.reverse.toArray[(((0 : Nat) : Int) + (m : Int) * 1).toNat]?) := by
    apply fm_congr
    intro m hm
    have hm := List.mem_range.mp hm
    have e1 : ((xs.size : Int) - 1 + (m : Int) * -1).toNat = xs.size - 1 - m := by omega
    have e2 : (((0 : Nat) : Int) + (m : Int) * 1).toNat = m := by omega
    rw [e1, e2]
    simp only [List.getElem?_toArray]
    rw [List.getElem?_reverse (by simpa using hm)]
    simp
  rw [e, g]
  congr 1
  rw [List.drop_zero]
  exact List.take_of_length_le (by simp)
theorem slicePart_m1 {t : Tok} {Q : Option Int → Shared → Prop} (h : Q (some (-1)) s) : wpAny (model prog w) A (Builtin.Slice.slicePartIndex (.int (-1) t)) Q E s := HT.slicePart_ (.int (-1) t) h
theorem sliceApplied_rev {sl : Addr} {vl vu vs : Value} {n : Nat} {Q : Int × Int × Nat → Shared → Prop} (hs : s.heap.IsSliceOf sl vl vu vs) (pl : IsPart vl none) (pu : IsPart vu none) (ps : IsPart vs (some (-1)))
    (h : Q ((n : Int) - 1, -1, n) s) : wpAny (model prog w) A (Builtin.Slice.sliceApplied (.ref sl) (pure (n : Int))) Q E s := by
  obtain ⟨os, hos, hcs, hds⟩ := id hs
  unfold Builtin.Slice.sliceApplied Builtin.Slice.sliceFields
  refine wpAny_bind (wpAny_bind (wpAny_field hos hds (x := vl) rfl (wpAny_bind (wpAny_field hos hds (x := vu) rfl (wpAny_bind (wpAny_field hos hds (x := vs) rfl (wpAny_pure ?_)))))))
  refine wpAny_bind (HT.slicePart_ ps ?_)
  show wpAny _ _ (if ((-1 : Int) == 0) = true then _ else _) _ _ s
  rw [if_neg (by decide)]
  refine wpAny_bind (HT.slicePart_ pl (wpAny_bind (HT.slicePart_ pu (wpAny_bind (wpAny_pure ?_)))))
  show wpAny _ _ (match Builtin.Slice.sliceAdjust none none (-1) (n : Int) with | (lo, hi) => pure (lo, (-1 : Int), Builtin.Slice.slicePlaces lo hi (-1))) _ _ s
  rw [rev_adjust n]
  show wpAny _ _ (pure ((n : Int) - 1, (-1 : Int), Builtin.Slice.slicePlaces ((n : Int) - 1) (-1) (-1))) _ _ s
  rw [rev_places]
  exact wpAny_pure h
theorem getItem_tuple_rev {t sl : Addr} {items : Array Value} {vl vu vs : Value} {Q : Value → Shared → Prop} (ht : IsTup s.heap t items) (hs : s.heap.IsSliceOf sl vl vu vs) (pl : IsPart vl none) (pu : IsPart vu none) (ps : IsPart vs (some (-1)))
    (h : Q (.ref s.heap.objs.size) { s with heap := s.heap.push { cls := .type "tuple", data := .seq items.toList.reverse.toArray } })
    (hsz : items.size ≤ sizeLine) : wpAny (model prog w) A (getItem (.ref t) (.ref sl)) Q E s := by
  have htake : sizeOk (.seq items.toList.reverse.toArray) := by
    show items.toList.reverse.toArray.size ≤ sizeLine
    rw [List.size_toArray, List.length_reverse, Array.length_toList]
    exact hsz
  obtain ⟨os, hos, hcs, hds⟩ := id hs
  have hTs : s.TypeIs (.ref sl) "slice" := ⟨os, hos, hcs⟩
  unfold getItem
  try with_reducible refine wpAny_holding ?_
  first | refine wpAny_bind (wpAny_pure ?_) | skip
  refine wpAny_bind (wpAny_sequenceKey ht.typeIs (by decide) ?_)
  refine wpAny_bind (wpAny_callSpecial?_slot (name := Str.ofString "__getitem__") ht.typeIs PyProof.Rows.slot_tuple_getitem
    (wpAny_call_entry PyProof.Rows.slot_tuple_getitem ht.typeIs entry_tuple_getitem ?_ (args_tuple_getitem _ _)))
  show wpAny _ _ (Builtin.Tuple.tupleItemsOf (.ref t) >>= _) _ _ s
  refine wpAny_bind (PyProof.Rows.tupleItemsOf_ ht ?_)
  refine wpAny_bind (wpAny_typeOf hTs ?_)
  rw [if_pos (by decide)]
  refine wpAny_bind (sliceApplied_rev hs pl pu ps ?_)
  have hno : ¬ ((((items.size : Int) - 1) == 0 && (-1 : Int) == 1 && (items.size == items.size)) = true) := by
    intro q
    rw [Bool.and_eq_true, Bool.and_eq_true] at q
    have := eq_of_beq q.1.2
    omega
  show wpAny _ _ (if (((items.size : Int) - 1) == 0 && (-1 : Int) == 1 && (items.size == items.size)) = true then _ else _) _ _ s
  rw [if_neg hno, rev_pick]
  first
    | exact wpAny_bind (m := Builtin.Tuple.tupleExact _) (wpAny_newObj_type (wpAny_pure ⟨_, rfl, wpAny_pure h⟩) htake)
    | exact wpAny_bind (m := Builtin.Tuple.tupleExact _) (wpAny_newObj_type (wpAny_bind (wpAny_pure (wpAny_pure ⟨_, rfl, wpAny_pure h⟩))) htake)
    | exact wpAny_bind (wpAny_bind (m := Builtin.Tuple.tupleExact _) (wpAny_newObj_type (wpAny_pure (wpAny_pure ⟨_, rfl, wpAny_pure h⟩)) htake))
    | exact wpAny_bind (wpAny_bind (m := Builtin.Tuple.tupleExact _) (wpAny_newObj_type (wpAny_pure ⟨_, rfl, wpAny_pure h⟩) htake))
end
def notStar1 : Expr → Bool
  | .Starred _ _ => false
  | _ => true
section
variable {X : Cx}
def tRevT (K : PySem.W.Frag) (te : TE) : TE := fun σ H Q => te σ H fun x H1 => ∃ a xs, x = .ref a ∧ SqT K H1 a xs ∧ ∀ p, H1 p = none → Q (.ref p) (upd H1 p (.tup xs.reverse))
theorem pe_revT {e : Expr} {te : TE} {k : Nat} {p1 p2 p3 pos : Pos} (he : PE X e te) : PE X (.Subscript e (.Slice none none (some (.UnaryOp .USub (.Constant (.int 1) k p1) p2)) p3) pos) (tRevT X.K te) := by
  refine ⟨fun pins s σ H Q I h => ?_⟩
  refine Subscript_ (thn (he.run pins s σ H _ I h) fun v s1 ⟨x, H1, I1, r1, q1⟩ => ?_)
  obtain ⟨a, xs, ex, hx, q⟩ := q1
  subst ex
  cases r1
  have hst : PO X (some (.UnaryOp .USub (.Constant (.int 1) k p1) p2)) (tPart (tUn (rU fun i => .int (-i)) (tC (.int 1)))) := po_some (pe_un un_neg pe_int)
  refine wpAny_Slice (thn (po_none.run pins s1 σ H1 (fun o H2 => o = none ∧ H2 = H1) I1 ⟨rfl, rfl⟩) fun vl s2 ⟨l, H2, I2, pl, el, e2⟩ => ?_)
  subst el e2
  refine thn (po_none.run pins s2 σ H2 (fun o H3 => o = none ∧ H3 = H2) I2 ⟨rfl, rfl⟩) fun vu s3 ⟨u, H3, I3, pu, eu, e3⟩ => ?_
  subst eu e3
  refine thn (hst.run pins s3 σ H3 (fun o H4 => o = some (-1) ∧ H4 = H3) I3 ⟨1, rfl, -1, rfl, rfl, rfl⟩) fun vs s4 ⟨o, H4, I4, ps, eo, e4⟩ => ?_
  subst eo e4
  have I5 : Inv X pins σ H4 { s4 with heap := s4.heap.push { cls := .type "slice", data := .fields #[vl, vu, vs] } } := I4.kept (t' := s4.toks) fun b ob q => Heap.get?_push_of_some _ q
  obtain ⟨its, r, ht, hz⟩ := I5.tuple hx
  have hlen : its.toArray.size = xs.length := by rw [List.size_toArray]; exact r.length.symm
  show wpAny (model X.prog X.w) X.A (subscriptTail e (.Slice none none (some (.UnaryOp .USub (.Constant (.int 1) k p1) p2)) p3) (.ref a) (.ref s4.heap.objs.size)) (EP X pins σ Q) X.xe { s4 with heap := s4.heap.push { cls := .type "slice", data := .fields #[vl, vu, vs] } }
  refine tail_any (ops := [.ref a, .ref s4.heap.objs.size]) ht.typeIs (PyProof.Rows.slot_tuple_getitem.lookup) ?_ (by with_unfolding_all rfl)
  refine getItem_tuple_rev ht (Heap.IsSliceOf.new _ vl vu vs) pl pu ps ?_ (by rw [hlen]; exact hz)
  refine ⟨.ref _, _, I5.laid (t' := s4.toks) (o := .tup xs.reverse) (fun b ob q => Heap.get?_push_of_some _ q) (Nat.le_refl _) ?_, rfl, q _ (I5.hok.fresh (Nat.le_refl _))⟩
  exact ⟨by rw [List.length_reverse]; exact hz, _, r.reverse, IsTup.new _ _⟩
/-! ### dicts of the module -/
/-- a dict of the module: keys and values -/
structure GDict (K : PySem.W.Frag) (w : World) (d : Addr) (kvs : List (Str × Int)) : Prop where
  kd : ∃ es n, KDict K w d es n
  v : ∀ z, match kvs.lookup z with
    | some i => ∃ t, PySem.W.nsIn K d z = some (some (.int i t))
    | none => PySem.W.nsIn K d z = some none
def noRef (e : DictEntry) : Prop := e.refKey = false
theorem keyOf_ref {e : DictEntry} {x : Str × Int} (h : He.keyOf e = some x) : e.refKey = false := by
  unfold He.keyOf at h
  split at h
  · rename_i y t q
    unfold DictEntry.refKey
    rw [q]
  · cases h
theorem keyOf_str {e : DictEntry} {x : Str × Int} (h : He.keyOf e = some x) (z : Str) : e.key.isStr z = decide (x.1 = z) := by
  unfold He.keyOf at h
  split at h
  · rename_i y t q
    cases h
    rw [q]
    show (y == z) = _
    by_cases c : y = z
    · subst c; simp
    · simp [c]
  · cases h
theorem find_none {P : Params} {z : Str} : ∀ {l : List DictEntry} {ks : List Str}, l.map He.keyOf = He.keysIn P ks → z ∉ ks → l.find? (·.key.isStr z) = none ∧ l.any (·.refKey) = false
  | [], _, _, _ => ⟨rfl, rfl⟩
  | e :: r, [], h, _ => by cases h
  | e :: r, k :: ks, h, hz => by
    have h1 : He.keyOf e :: r.map He.keyOf = some (k, PyData.keyHash P k) :: He.keysIn P ks := h
    injection h1 with h2 h3
    obtain ⟨i1, i2⟩ := find_none (z := z) h3 fun m => hz (List.mem_cons_of_mem _ m)
    have e1 : e.key.isStr z = false := by
      rw [keyOf_str h2 z]
      exact decide_eq_false fun q => hz (by rw [← q]; simp)
    refine ⟨?_, ?_⟩
    · rw [List.find?_cons, e1]; exact i1
    · rw [List.any_cons, keyOf_ref h2, i2]; rfl
theorem gdict_of {K : PySem.W.Frag} {w : World} {a : Addr} {kvs : List (Str × Int)} (h : He.dicW K a = some (He.keysIn w.params (kvs.map (·.1))))
    (hv : ∀ p ∈ kvs, ∃ t, PySem.W.nsIn K a p.1 = some (some (.int p.2 t))) : GDict K w a kvs where
  kd := He.dicW_ok h
  v := fun z => by
    cases c : kvs.lookup z with
    | some i =>
      have mem : (z, i) ∈ kvs := by
        clear h hv
        induction kvs with
        | nil => cases c
        | cons p r ih =>
          obtain ⟨x, y⟩ := p
          rw [List.lookup_cons] at c
          split at c
          · rename_i q
            have := eq_of_beq q
            cases c
            rw [this]; simp
          · exact List.mem_cons_of_mem _ (ih c)
      exact hv _ mem
    | none =>
      have nm : z ∉ kvs.map (·.1) := by
        clear h hv
        induction kvs with
        | nil => simp
        | cons p r ih =>
          obtain ⟨x, y⟩ := p
          rw [List.lookup_cons] at c
          split at c
          · cases c
          · rename_i q
            intro m
            rcases List.mem_cons.mp m with m | m
            · exact absurd (show (z == x) = true by simp [m]) (by simp [q])
            · exact ih c m
      show PySem.W.nsIn K a z = some none
      unfold He.dicW at h
      cases q : K.lookup a with
      | none => rw [q] at h; cases h
      | some o =>
        obtain ⟨oc, od, dt, osl⟩ := o
        rw [q] at h
        unfold PySem.W.nsIn
        rw [q]
        cases oc with
        | type cc =>
          cases od with
          | none =>
            cases dt with
            | dict es n =>
              simp only at h ⊢
              split at h
              · obtain ⟨f1, f2⟩ := find_none (Option.some.inj h) nm
                rw [f1]
                simp only
                rw [f2]; rfl
              · cases h
            | _ => cases h
          | some b => cases dt <;> cases h
        | _ => cases od <;> cases dt <;> cases h
theorem ix_gdict {d : Addr} {kvs : List (Str × Int)} (D : GDict X.K X.w d kvs) : IxR X (fun x y H Q => ∃ z i, x = .ref d ∧ y = .str z ∧ kvs.lookup z = some i ∧ Q (.int i) H) := by
  intro value slice pins s σ H x y v u Q I rx ry h hs
  obtain ⟨z, i, ex, ey, hi, q⟩ := h
  have := D.v z
  rw [hi] at this
  obtain ⟨t, ht⟩ := this
  obtain ⟨es, n, KD⟩ := D.kd
  exact ix_kdict value slice pins s σ H x y v u Q I rx ry ⟨d, z, .int i, ex, ey, ⟨es, n, _, KD.at_, KD.lit, ht, ⟨t, rfl⟩⟩, q⟩ hs
theorem op_gIn {d : Addr} {kvs : List (Str × Int)} (D : GDict X.K X.w d kvs) : OpR X (compareOp .In) (fun x y H Q => ∃ z, x = .str z ∧ y = .ref d ∧ Q (.bl (kvs.lookup z).isSome) H) := by
  intro pins s σ H x y v u Q I rx ry h
  obtain ⟨z, ex, ey, q⟩ := h
  obtain ⟨es, n, KD⟩ := D.kd
  have := D.v z
  cases c : kvs.lookup z with
  | some i =>
    rw [c] at this q
    obtain ⟨t, ht⟩ := this
    exact op_in_kd KD pins s σ H x y v u Q I rx ry ⟨z, _, ex, ey, ht, q⟩
  | none =>
    rw [c] at this q
    exact op_in_kd KD pins s σ H x y v u Q I rx ry ⟨z, _, ex, ey, this, q⟩
theorem op_gNotIn {d : Addr} {kvs : List (Str × Int)} (D : GDict X.K X.w d kvs) : OpR X (compareOp .NotIn) (fun x y H Q => ∃ z, x = .str z ∧ y = .ref d ∧ Q (.bl (!(kvs.lookup z).isSome)) H) := by
  intro pins s σ H x y v u Q I rx ry h
  obtain ⟨z, ex, ey, q⟩ := h
  obtain ⟨es, n, KD⟩ := D.kd
  have := D.v z
  cases c : kvs.lookup z with
  | some i =>
    rw [c] at this q
    obtain ⟨t, ht⟩ := this
    exact op_notIn_kd KD pins s σ H x y v u Q I rx ry ⟨z, _, ex, ey, ht, q⟩
  | none =>
    rw [c] at this q
    exact op_notIn_kd KD pins s σ H x y v u Q I rx ry ⟨z, _, ex, ey, this, q⟩
/-! ### list.index -/
theorem one_form {e : Expr} {env : PySem.Env} (h : notStar1 e = true) (pos : Pos) : ((backTo pos (starEach [e] env)).all (fun x => !x.1) && (backToKw pos (keywordEach [] env)).all (fun x => x.1.isSome)
      && decide (([e] : List Expr).length + ([] : List Keyword).length + (if ([] : List Keyword).isEmpty then 0 else 1) < 30)) = true := by
  cases e <;> first | rfl | cases h
theorem pe_index {o e : Expr} {apos pos : Pos} {to te : TE} (ho : PE X o to) (he : PE X e te) (hn : notStar1 e = true) (hbase : attributeBase o "index" X.env (eval o X.env) = eval o X.env := by rfl) (hline : (apos.endLine == pos.line) = true := by rfl) :
    PE X (.Call (.Attribute o "index" apos) [e] [] pos) (tBM X.K "list" (rIndex X.K) to (tCons te tNil)) := by
  have hs : starEach [e] X.env = (false, eval e X.env) :: starEach [] X.env := by cases e <;> first | rfl | cases hn
  exact pe_bm PySem.F.plainAttrs_list PySem.F.slot_list_index PySem.F.type_list_index mt_index ho (pa_cons he pa_nil hs) hbase (one_form hn _) hline hs rfl
end
end VL

set_option maxRecDepth 100000
set_option maxHeartbeats 2000000
/-! VL: defs that an exception of an own class may leave; the exception's row; isinstance of it. -/
namespace VL
open PySem L2 Evl PyProof.Rows PySem.Spec
/-! ### the __init__ that keeps the row -/
def spRow (K : PySem.W.Frag) : Sp := fun vs H Q _ => ∃ (a C : Addr) (n : Int), vs = [.ref a, .int n] ∧ OexC K C ∧ PySem.W.findIn K (.ref C) "row" = some none ∧ H a = some (exo a C none) ∧
  ∀ dx, H dx = none → dx ≠ a → Q .non (upd (upd H dx (exd dx [("row", .int n)])) a (exo a C (some dx)))
def isRowInit : List Stmt → Bool
  | [.Assign [.Attribute (.Name a _) b _] (.Name c _) _] => decide (a = "self") && decide (b = "row") && decide (c = "row")
  | _ => false
theorem row_init {P : Program} {W : World} {K : PySem.W.Frag} {gl : Str → Option Value} {B : Heap} {name qn : Str} {st : Stmt} {f : Addr} {fd : FuncData} (F : Fun K name qn st f fd) (S : FnScope ["self", "row"] ["self", "row"] (defScope st))
    (v1 : Vis (defScope st) "self") (v2 : Vis (defScope st) "row") (hb : isRowInit (defBody st) = true) : FnOk P W K gl B CX0 1 f fd ["self", "row"] (spRow K) := by
  obtain ⟨oc, od, kV, dc, pm, an, cv, ct, sl, rfl, at_, code⟩ := F.ex
  refine fn_of (k := 0) at_ code S (fun vs H Q E ⟨a, C, n, e, _⟩ => by rw [e]; rfl) fun A outer s H vs Q E hr ⟨a, C, n, e, T, hno, ea, q⟩ => ?_
  unfold isRowInit at hb
  split at hb
  · rename_i x p1 y p2 z p3 p4 eb
    simp only [Bool.and_eq_true, decide_eq_true_eq] at hb
    obtain ⟨⟨rfl, rfl⟩, rfl⟩ := hb
    rw [eb]
    refine ⟨_, pss_cons (ps_ost (pe_var (i := 0) rfl v1 (by decide +kernel) (by decide +kernel)) (pe_var (i := 1) rfl v2 (by decide +kernel) (by decide +kernel)) rfl) pss_nil, ?_⟩
    subst e
    refine ⟨.int n, rfl, .ref a, rfl, a, C, rfl, T, hno, .inl ⟨ea, fun dx h1 h2 => q dx h1 h2⟩⟩
  · cases hb
/-! ### isinstance of a caught exception that has fields -/
structure ExcD (K : PySem.W.Frag) (D : Addr) : Prop where
  hcl : (PySem.W.clsIn K D).isSome = true
  hga : PySem.W.findIn K (.ref D) "__getattribute__" = some (some (.builtin "BaseException.__getattribute__"))
  hgt : PySem.W.findIn K (.ref D) "__getattr__" = some none
  hsub : PySem.W.subIn K (.ref D) (.type "BaseException") = some true
  ha : PySem.W.findIn K (.ref D) "__class__" = some (some (.builtin "object.__class__"))
  hn : PySem.W.specialIn K (.builtin "object.__class__") "__get__" = some (some (.builtin "getset_descriptor.__get__"))
  ht : PySem.W.takesIn K (.builtin "object.__class__") = some true
  hm : PySem.W.mroIn K D (.type "object") = some true
section
variable {X : Cx} {a D dd : Addr} {oe : Obj} {pn : List (Addr × Obj)}
theorem inst_at {pins : List (Addr × Obj)} {σ : L2.St} {H : Hp} {s : Shared} {fs : List (Str × V)} (hz : Zc (.ref D) (some dd) oe) (hf : ∃ vs, oe.data = .fields vs) (I : Inv (X.suite a ((a, oe) :: pn)) pins σ H s) (ea : H dd = some (.xd fs)) :
    ∃ od, PySem.W.InstAt s.heap a oe D (some od) := by
  obtain ⟨ha, _⟩ := I.pin (a, oe) (List.mem_append_left _ List.mem_cons_self)
  obtain ⟨vs, hd⟩ := hf
  have hx : ObjOk X.prog X.w H s.heap dd (.xd fs) := I.hok dd _ ea
  obtain ⟨mA, hns, hr⟩ := hx
  obtain ⟨od, ho, hl⟩ := lookIn_ns hns
  exact ⟨od, ha, hz.1, by unfold PySem.W.notCls; rw [hd] <;> rfl, by rw [hz.2]; exact ho⟩
theorem call_isX (C : ExcD X.K D) (hz : Zc (.ref D) (some dd) oe) (hf : ∃ vs, oe.data = .fields vs) : CallR (X.suite a ((a, oe) :: pn)) (.builtin "isinstance")
    (fun xs H Q => ∃ (c : V) (cv : Value) (b : Bool) (fs : List (Str × V)), xs = [.ref a, c] ∧ (∀ u, RelV c u → u = cv) ∧ PySem.W.kitOne X.K (.ref D) cv = some b ∧ H dd = some (.xd fs) ∧ Q (.bl b) H) := by
  intro pins s σ H xs us Q I r h
  obtain ⟨c, cv, b, fs, rfl, hcv, e, ea, q⟩ := h
  obtain ⟨u1, u2, rfl, r1, r2⟩ := vals2 r
  cases (show u1 = Value.ref a from r1)
  have ec := hcv _ r2
  subst ec
  obtain ⟨od, J⟩ := inst_at hz hf I ea
  exact PySem.W.kia_one (PySem.W.kitx_exc C.hcl C.hga C.hgt C.hsub C.ha C.hn C.ht C.hm) I.kIn J e (fun z => nomatch z) fun tk => ⟨.bl b, H, I.tok tk, rfl, q⟩
theorem call_isXT (C : ExcD X.K D) (hz : Zc (.ref D) (some dd) oe) (hf : ∃ vs, oe.data = .fields vs) : CallR (X.suite a ((a, oe) :: pn)) (.builtin "isinstance")
    (fun xs H Q => ∃ (tp : Addr) (cs : List V) (us : List Value) (b : Bool) (fs : List (Str × V)), xs = [.ref a, .ref tp] ∧ H tp = some (.tup cs) ∧ Paired ClsV cs us ∧ PySem.W.kitAny X.K (.ref D) us = some b ∧ H dd = some (.xd fs) ∧ Q (.bl b) H) := by
  intro pins s σ H xs us Q I r h
  obtain ⟨tp, cs, ws, b, fs, rfl, hT, k, e, ea, q⟩ := h
  obtain ⟨u1, u2, rfl, r1, r2⟩ := vals2 r
  cases (show u1 = Value.ref a from r1)
  cases (show u2 = Value.ref tp from r2)
  obtain ⟨od, J⟩ := inst_at hz hf I ea
  obtain ⟨_, its, rv, o, h1, h2, n, h3⟩ := (show ObjOk X.prog X.w H s.heap tp (.tup cs) from I.hok tp _ hT)
  have e3 := ClsV.all k rv
  subst e3
  obtain ⟨oc, od, dt, sl⟩ := o
  simp only at h2 h3
  subst h2 h3
  exact PySem.W.kia_tup (PySem.W.kitx_exc C.hcl C.hga C.hgt C.hsub C.ha C.hn C.ht C.hm) I.kIn J h1 e (fun z => nomatch z) fun tk => ⟨.bl b, H, I.tok tk, rfl, q⟩
end
/-! ### defs that an exception may leave -/
structure FnGX (P : Program) (W : World) (K : PySem.W.Frag) (gl : Str → Option Value) (B : Heap) (k : Nat) (f : Addr) (fd : FuncData) (ps : List Str) (sp : Sp) : Prop where
  cnt : ∀ vs H Q E, sp vs H Q E → vs.length = ps.length
  go : ∀ (A : Around) (fr : List PySem.Env) (s : Shared) (H : Hp) (ar : Args) (us : List Value) (vs : List V) (Q : VK) (E : XK),
    A.guards = some [] → Room k A → Env0 P W K gl B A fr s H → BindsTo s fd ar (ps.zip us) → Vals vs us → sp vs H Q E →
    codeAny (model P W) A (.call (.ref f) ar) (CR (L2.CX P W) fr P W H s Q E) s
section
variable {P : Program} {W : World} {K : PySem.W.Frag} {gl : Str → Option Value} {B : Heap}
theorem FnGX.of_body {name qn : Str} {st : Stmt} {f : Addr} {fd : FuncData} {N ps : List Str} {k : Nat} {sp : Sp} (F : Fun K name qn st f fd) (S : FnScope N ps (defScope st)) (cnt : ∀ vs H Q E, sp vs H Q E → vs.length = ps.length)
    (body : ∀ (cv : Value) (A : Around) (fr : List PySem.Env) (s : Shared) (H : Hp) (vs : List V) (Q : VK) (E : XK), (A.deeper (envOfC qn (defScope st) s.heap.objs.size f cv)).guards = some [] →
      Room k (A.deeper (envOfC qn (defScope st) s.heap.objs.size f cv)) → sp vs H Q E →
      ∃ t, PSs (cxOf (L2.CX P W) P W K gl B N qn (defScope st) f cv A fr s H E) (defBody st) t ∧ t { nx := fun _ H' => Q .non H', rt := Q } (L2.start N vs) H) :
    FnGX P W K gl B (k + 1) f fd ps sp := by
  obtain ⟨oc, od, kV, dc, pm, an, cv, ct, sl, rfl, at_, code⟩ := F.ex
  constructor
  · exact cnt
  intro A fr s H ar us vs Q E gd room env bnd rel want
  have here : K.In s.heap := env.mod.kin.keeps fun b o z => (env.bs b o z).1
  have kinds : ∀ y ∈ ps.zip us, (defScope st).names.lookup y.1 = some .local ∨ ((defScope st).names.lookup y.1 = some .cell ∧ ((cellsFrom (s.heap.objs.size + 1) (defScope st).names []).lookup y.1).isSome = true) := by
    rintro ⟨nm, v⟩ hy
    rcases S.par nm (List.of_mem_zip hy).1 with z | z
    · exact Or.inl z
    · exact Or.inr ⟨z, PySem.W.cellsFrom_some _ _ _ (Or.inl z)⟩
  refine codeAny_call_function room.depth (here _ _ at_) rfl S.co S.gen rfl (PySem.W.codeRec_of here code) (bnd _ _ _ _ ?_)
  refine wpAny_newFunctionEnv_cells S.kind kinds fun e0 he s1 x => ?_
  cases he
  have calm : s.heap.NoLimit := env.mod.nolimit.keeps fun b o z => (env.bs b o z).1
  refine And.intro (calm.keeps x.toInCall.keep) (codeAny_func ?_)
  obtain ⟨t, pt, run⟩ := body cv A fr s H vs Q E gd (room.deeper _) want
  have J : Inv (cxOf (L2.CX P W) P W K gl B N qn (defScope st) f cv A fr s H E) [] (L2.start N vs) H s1 := inv_start S room.hd env (cnt _ _ _ _ want) rel x
  refine wpAny_mono (pt.run [] s1 (L2.start N vs) H _ J run) ?_ fun _ _ z => z
  intro fl s2 z
  match fl, z with
  | .ret u, ⟨v, _, H2, J2, rv, q⟩ => exact ⟨v, H2, J2.os, J2.bare, J2.base, J2.hok, rv, q⟩
  | .next, ⟨_, H2, J2, q⟩ => exact ⟨V.non, H2, J2.os, J2.bare, J2.base, J2.hok, rfl, q⟩
  | .brk, ⟨_, _, _, q⟩ => exact q.elim
  | .cont, ⟨_, _, _, q⟩ => exact q.elim
end
section
variable {X : Cx} {k : Nat} {f : Addr} {fd : FuncData} {ps : List Str} {sp : Sp} {x : Str} {p pos : Pos} {e : Expr} {es : List Expr} {t : TA} {W : WX}
theorem FnGX.step {pins : List (Addr × Obj)} {σ : L2.St} {H : Hp} {s : Shared} {Q : VK} {us : List Value} {vs : List V} (F : FnGX X.prog X.w X.K X.mg X.base k f fd ps sp) (gd : X.A.guards = some []) (room : Room k X.A) (bnd : Binds X.K fd ps []) (tk : Takes X W)
    (J : Inv X pins σ H s) (rel : Vals vs us) (want : sp vs H Q fun c d H' => W c d σ H') : wpAny (model X.prog X.w) X.A (call (.ref f) us) (EP X pins σ Q) X.xe s := by
  have n1 : (us ++ []).length = ps.length := by
    rw [List.append_nil, ← rel.length]
    exact F.cnt _ _ _ _ want
  have b1 := bnd s us J.kIn n1
  rw [List.append_nil] at b1
  refine wpAny_call (codeAny_mono (F.go X.A X.stack s H ⟨us, []⟩ us vs Q _ gd room J.env0 b1 rel want) ?_)
  intro r s2 z
  match r, z with
  | .ok (.ret u), z => exact J.after z
  | .ok .next, z => exact z.elim
  | .ok .brk, z => exact z.elim
  | .ok .cont, z => exact z.elim
  | .error er, z => exact passAt tk σ pins H s er s2 J z
/-- f(e, ..), which may raise -/
theorem FnGX.call (F : FnGX X.prog X.w X.K X.mg X.base k f fd ps sp) (gd : X.A.guards = some []) (room : Room k X.A) (hg : Gl X x) (hm : X.mg x = some (.ref f)) (hk : PySem.W.keepIn X.K (.ref f) = true) (bnd : Binds X.K fd ps []) (tk : Takes X W)
    (ha : PA X (e :: es) t) (hdb : (x == ("__debug__" : Str)) = false) (he : starEach (e :: es) X.env = (false, eval e X.env) :: starEach es X.env) (hpl : (backTo pos (starEach es X.env)).any (·.1) = false) :
    PE X (.Call (.Name x p) (e :: es) [] pos) fun σ H Q => t σ H fun vs H1 => sp vs H1 Q fun c d H' => W c d σ H' := by
  constructor
  intro pins s σ H Q J z
  refine wpAny_Call_Name_kw (ld_glob J hg hm ?_ hdb)
  refine PySem.W.callWith_K (h₀ := X.base) J.ok.mod.kin hk (thn (ha.run pos pins s σ H _ J z) ?_) he hpl
  rintro us s1 ⟨vs, H1, J1, rel, want⟩
  exact ⟨J1.kIn, F.step gd room bnd tk J1 rel want⟩
end
end VL

set_option maxRecDepth 100000
set_option maxHeartbeats 2000000
/-! VL: the syntax against the text; each construct. -/
namespace VL
open PySem L2 Evl PyProof.Rows PySem.Spec

/-! ### names -/
structure Tab where
  fname : Nat → Option Str
  gname : Nat → Str
  cname : Nat → Option Str
  iname : Nat → Option Str := fun _ => none
  dname : Nat → Option Str := fun _ => none
  ename : Nat → Option Str := fun _ => none
  xname : Nat → Option Str := fun _ => none
def glB (sc : Scope) (x : Str) : Bool := decide (sc.names.lookup x = some .globalImplicit)
def visB (sc : Scope) (x : Str) : Bool := match sc.names.lookup x with
  | some .local => true
  | some .cell => true
  | some .free => true
  | _ => false
def locB (sc : Scope) (x : Str) : Bool := match sc.names.lookup x with
  | some .local => true
  | some .cell => true
  | _ => false
def plainName (x : Str) : Bool := !(x == ("__debug__" : Str)) && !(x == ("__classdict__" : Str)) && decide (x ≠ "__name__")
theorem glB_ok {X : Cx} {x : Str} (h : glB X.env.scope x = true) : Gl X x := by
  show X.env.scope.names.lookup x = some .globalImplicit
  exact of_decide_eq_true h
theorem visB_ok {sc : Scope} {x : Str} (h : visB sc x = true) : Vis sc x := by
  unfold visB at h
  split at h
  · exact .inl (by assumption)
  · exact .inr (.inl (by assumption))
  · exact .inr (.inr (by assumption))
  · cases h
theorem locB_ok {sc : Scope} {x : Str} (h : locB sc x = true) : Loc sc x := by
  unfold locB at h
  split at h
  · exact .inl (by assumption)
  · exact .inr (by assumption)
  · cases h
theorem plainName_ok {x : Str} (h : plainName x = true) : (x == ("__debug__" : Str)) = false ∧ (x == ("__classdict__" : Str)) = false ∧ x ≠ "__name__" := by
  unfold plainName at h
  simp only [Bool.and_eq_true, Bool.not_eq_true', decide_eq_true_eq] at h
  exact ⟨h.1.1, h.1.2, h.2⟩
def agVar (sc : Scope) (N : List Str) (i : Nat) (x : Expr) : Bool := match x with
  | .Name id _ => decide (N[i]? = some id) && visB sc id && plainName id
  | _ => false
def bName : Blt → Str
  | .len => "len" | .abs => "abs" | .int => "int" | .str => "str" | .max2 => "max" | .min2 => "min" | .maxL => "max" | .minL => "min"
  | .sum => "sum" | .all => "all" | .any => "any" | .tuple => "tuple" | .repr => "repr"
def bltNames : List Str := ["len", "abs", "int", "str", "max", "min", "sum", "all", "any", "tuple", "list", "range", "isinstance", "bool", "dict", "repr", "sorted", "zip", "enumerate", "reversed"]
theorem bName_mem (b : Blt) : bName b ∈ bltNames := by cases b <;> decide +kernel
theorem bName_boot (b : Blt) : bootBuiltins (bName b) = some (bVal b) := by cases b <;> decide +kernel
theorem bName_plain (b : Blt) : plainName (bName b) = true := by cases b <;> decide +kernel
def notStar : Expr → Bool
  | .Starred _ _ => false
  | _ => true
def notSlice : Expr → Bool
  | .Slice _ _ _ _ => false
  | _ => true
def notSet : Expr → Bool
  | .Set _ _ _ => false
  | _ => true
/-- no super() -/
def notSup : Expr → Bool
  | .Call _ _ _ _ => false
  | _ => true
theorem star_cons {x : Expr} (h : notStar x = true) (r : List Expr) (env : PySem.Env) : starEach (x :: r) env = (false, eval x env) :: starEach r env := by
  cases x <;> first | rfl | cases h
theorem star_all : ∀ {es : List Expr}, es.all notStar = true → ∀ (pos : Pos) (env : PySem.Env), (backTo pos (starEach es env)).any (·.1) = false
  | [], _, _, _ => rfl
  | e :: es, h, pos, env => by
    rw [List.all_cons, Bool.and_eq_true] at h
    rw [star_cons h.1]
    show (false || (backTo pos (starEach es env)).any (·.1)) = false
    rw [star_all h.2] <;> rfl
theorem plainIx_of {x : Expr} (h : notSlice x = true) : PlainIx x := fun o i => by
  cases x <;> first | rfl | cases h
theorem folded_of {x : Expr} (h : notSet x = true) (env : PySem.Env) : ∀ v, foldedSetIterable x env v = pure v := fun v => by
  cases x <;> first | rfl | cases h
theorem base_of {x : Expr} (h : notSup x = true) (f : Str) (env : PySem.Env) : attributeBase x f env (eval x env) = eval x env := by
  cases x <;> first | rfl | cases h
/-- a test that is its value's truth -/
def plainT : Expr → Bool
  | .UnaryOp .Not _ _ => false
  | .BoolOp _ _ _ => false
  | .IfExp _ _ _ _ => false
  | .Compare _ _ _ _ => false
  | _ => true
theorem plainT_ok {x : Expr} (h : plainT x = true) (env : PySem.Env) : ∀ whole, isTrue x env whole = (do let v ← whole; standAt x.pos; holding [v] (truthy v)) := fun whole => by
  cases x <;> first | rfl | cases h | (rename_i op _ _; cases op <;> first | rfl | cases h)

/-- a target: its name's kind by the block's scope as written and as it runs -/
def tgN (sc0 sc : Scope) (id : Str) : Bool := (decide (sc0.names.lookup id = some .local) && decide (sc.names.lookup id = some .local)) || (decide (sc0.names.lookup id = some .cell) && decide (sc.names.lookup id = some .cell))
def agNames (sc0 sc : Scope) (N : List Str) : List Nat → List Expr → Bool
  | [], [] => true
  | i :: is, .Name id _ :: es => decide (N[i]? = some id) && tgN sc0 sc id && agNames sc0 sc N is es
  | _, _ => false
def agTg (sc0 sc : Scope) (N : List Str) : Tg → Expr → Bool
  | .nm i, x => match x with
    | .Name id _ => decide (N[i]? = some id) && tgN sc0 sc id
    | _ => false
  | .tup is, x => match x with
    | .Tuple es _ _ => agNames sc0 sc N is es
    | _ => false
def tgIds : Tg → List Nat
  | .nm i => [i]
  | .tup is => is
def ownP (N : List Str) : List Nat → List (Str × Nat)
  | [] => []
  | i :: is => (N.getD i "", i) :: ownP N is
theorem ownP_ids (N : List Str) (is : List Nat) : (ownP N is).map (·.2) = is := by
  induction is with
  | nil => rfl
  | cons i is ih => simp [ownP, ih]

def tail2 (op : BoolOp) (z : Expr) (pos : Pos) : List Expr → Expr
  | [] => z
  | w :: r => .BoolOp op (z :: w :: r) pos
mutual
def agE (T : Tab) (sc : Scope) (N : List Str) : E → Expr → Bool
  | .var i, x => agVar sc N i x
  | .vw i, x => agVar sc N i x
  | .cint i, x => match x with
    | .Constant (.int j) _ _ => decide (i = j)
    | _ => false
  | .cstr i, x => match x with
    | .Constant (.str j) _ _ => decide (i = j)
    | _ => false
  | .cbl i, x => match x with
    | .Constant (.bool j) _ _ => decide (i = j)
    | _ => false
  | .cnon, x => match x with
    | .Constant .none _ _ => true
    | _ => false
  | .glob g, x => match x with
    | .Name id _ => decide (id = T.gname g) && glB sc id && plainName id
    | _ => false
  | .bin op a b, x => match x with
    | .BinOp l o r _ => decide (op = o) && agE T sc N a l && agE T sc N b r
    | _ => false
  | .neg a, x => match x with
    | .UnaryOp .USub y _ => agE T sc N a y
    | _ => false
  | .not a, x => match x with
    | .UnaryOp .Not y _ => agE T sc N a y
    | _ => false
  | .cmp op a b, x => match x with
    | .Compare l [o] [r] _ => decide (op = o) && agE T sc N a l && agE T sc N b r && !behindInMarks o r
    | _ => false
  | .chain o1 o2 a b c, x => match x with
    | .Compare l [p1, p2] [r1, r2] _ => decide (o1 = p1) && decide (o2 = p2) && agE T sc N a l && agE T sc N b r1 && agE T sc N c r2 && !lastMarks [p1, p2] [r1, r2]
    | _ => false
  | .and a b, x => match x with
    | .BoolOp .And (y :: z :: rest) p => agE T sc N a y && agE T sc N b (tail2 .And z p rest)
    | _ => false
  | .or a b, x => match x with
    | .BoolOp .Or (y :: z :: rest) p => agE T sc N a y && agE T sc N b (tail2 .Or z p rest)
    | _ => false
  | .ite c a b, x => match x with
    | .IfExp t l r _ => agE T sc N c t && agE T sc N a l && agE T sc N b r
    | _ => false
  | .tup es, x => match x with
    | .Tuple xs _ _ => agEs T sc N es xs
    | _ => false
  | .fz n, x => agN T sc N n x
  | .new n, x => agN T sc N n x
  | .sub a i, x => match x with
    | .Subscript l r _ => agE T sc N a l && agE T sc N i r && notSlice r
    | _ => false
  | .slice a lo hi, x => match x with
    | .Subscript l (.Slice u v none _) _ => agE T sc N a l && agO T sc N lo u && agO T sc N hi v
    | _ => false
  | .call f es, x => match x with
    | .Call (.Name id _) xs [] _ => decide (T.fname f = some id) && glB sc id && plainName id && agEs T sc N es xs
    | _ => false
  | .blt b es, x => match x with
    | .Call (.Name id _) (y :: xs) [] _ => decide (id = bName b) && glB sc id && agEs T sc N es (y :: xs)
    | _ => false
  | .isi a t, x => match x with
    | .Call (.Name id _) [y, .Name id2 _] [] _ => decide (id = "isinstance") && glB sc id && decide (id2 = Str.ofString t) && glB sc id2 && agE T sc N a y && notStar y && (["int", "bool", "str", "list", "tuple"] : List String).contains t
    | _ => false
  | .smt m o a, x => match x with
    | .Call (.Attribute y nm apos) [z] [] cpos => (match m with | .join => decide (nm = "join")) && agE T sc N o y && agE T sc N a z && notStar z && notSup y && (apos.endLine == cpos.line)
    | _ => false
  | .attr a f, x => match x with
    | .Attribute y g _ => decide (f = g) && agE T sc N a y && notSup y
    | _ => false
  | .mcall o m es, x => match x with
    | .Call (.Attribute y nm apos) xs [] cpos => decide (m = nm) && agE T sc N o y && agEs T sc N es xs && notSup y && (apos.endLine == cpos.line) && decide (xs.length < 30)
    | _ => false
  | .make c es, x => match x with
    | .Call (.Name id _) (y :: xs) [] _ => decide (T.cname c = some id) && glB sc id && plainName id && agEs T sc N es (y :: xs)
    | _ => false
  | .tru a, x => agE T sc N a x && plainT x
  | .isC a c, x => match x with
    | .Call (.Name id _) [y, .Name id2 _] [] _ => decide (id = "isinstance") && glB sc id && decide (T.iname c = some id2) && glB sc id2 && plainName id2 && agE T sc N a y && notStar y
    | _ => false
  | .gIn neg a g, x => match x with
    | .Compare l [o] [.Name id p] _ => decide (o = if neg then .NotIn else .In) && agE T sc N a l && decide (T.dname g = some id) && glB sc id && plainName id && !behindInMarks o (.Name id p)
    | _ => false
  | .gGet g a, x => match x with
    | .Subscript (.Name id _) r _ => decide (T.dname g = some id) && glB sc id && plainName id && agE T sc N a r && notSlice r
    | _ => false
  | .idx l a, x => match x with
    | .Call (.Attribute y nm apos) [z] [] cpos => decide (nm = "index") && agE T sc N l y && agE T sc N a z && notStar1 z && notSup y && (apos.endLine == cpos.line)
    | _ => false
  | .revT a, x => match x with
    | .Subscript l (.Slice none none (some (.UnaryOp .USub (.Constant (.int 1) _ _) _)) _) _ => agE T sc N a l
    | _ => false
def agEs (T : Tab) (sc : Scope) (N : List Str) : Es → List Expr → Bool
  | .nil, xs => match xs with
    | [] => true
    | _ => false
  | .cons e es, xs => match xs with
    | y :: ys => agE T sc N e y && notStar y && agEs T sc N es ys
    | _ => false
def agO (T : Tab) (sc : Scope) (N : List Str) : Oe → Option Expr → Bool
  | .no, x => match x with
    | none => true
    | _ => false
  | .so e, x => match x with
    | some y => agE T sc N e y
    | _ => false
def agN (T : Tab) (sc : Scope) (N : List Str) : Nw → Expr → Bool
  | .lst es, x => match x with
    | .List xs _ => agEs T sc N es xs
    | _ => false
  | .comp elt tg it cond own, x => match x with
    | .ListComp y [⟨t, i, ifs, a⟩] scope _ => decide (a = 0) && blkC N sc scope (ownP N own) && (tgIds tg).all (fun i => own.contains i) && agTg scope (relS scope sc) N tg t && agI T sc N it i && notSet i && agE T (relS scope sc) N elt y &&
      (match ifs with
      | [] => match cond with
        | .no => true
        | _ => false
      | [c] => agC T (relS scope sc) N cond c
      | _ => false)
    | _ => false
  | .slice a lo hi, x => match x with
    | .Subscript l (.Slice u v none _) _ => agE T sc N a l && agO T sc N lo u && agO T sc N hi v
    | _ => false
  | .listOf a, x => match x with
    | .Call (.Name id _) [y] [] _ => decide (id = "list") && glB sc id && agE T sc N a y && notStar y
    | _ => false
  | .cat a b, x => match x with
    | .BinOp l o r _ => decide (o = .Add) && agE T sc N a l && agE T sc N b r
    | _ => false
  | .rep a b, x => match x with
    | .BinOp l o r _ => decide (o = .Mult) && agE T sc N a l && agE T sc N b r
    | _ => false
  | .rev a, x => match x with
    | .Subscript l (.Slice none none (some (.UnaryOp .USub (.Constant (.int 1) _ _) _)) _) _ => agE T sc N a l
    | _ => false
  | .dct1 k v, x => match x with
    | .Dict [some y] [z] _ => agE T sc N k y && agE T sc N v z
    | _ => false
  | .split o a, x => match x with
    | .Call (.Attribute y nm apos) [z] [] cpos => decide (nm = "split") && agE T sc N o y && agE T sc N a z && notStar z && notSup y && (apos.endLine == cpos.line)
    | _ => false
def agC (T : Tab) (sc : Scope) (N : List Str) : Oe → Expr → Bool
  | .no, _ => false
  | .so e, x => agE T sc N e x
def agI (T : Tab) (sc : Scope) (N : List Str) : It → Expr → Bool
  | .rng1 a, x => match x with
    | .Call (.Name id _) [y] [] _ => decide (id = "range") && glB sc id && agE T sc N a y && notStar y
    | _ => false
  | .rng2 a b, x => match x with
    | .Call (.Name id _) [y, z] [] _ => decide (id = "range") && glB sc id && agE T sc N a y && notStar y && agE T sc N b z && notStar z
    | _ => false
  | .seq a, x => agE T sc N a x
  | .own i, x => agVar sc N i x
  | .chars a, x => agE T sc N a x
end

/-! ### the context -/
def spOf (K : PySem.W.Frag) (Cl : Nat → Addr) (C : Ctx) (f : Nat) : Sp := fun vs H Q _ => ∃ cs F h ds Qa, StOk K Cl cs F H h ∧ Reps K cs F vs ds ∧ C.call f ds h Qa ∧
  ∀ v d cs' F' H' h', Stp cs F H cs' F' H' → StOk K Cl cs' F' H' h' → Rep K cs' F' v d → Qa d h' → Q v H'
structure XOk (C : Ctx) (T : Tab) (Cl : Nat → Addr) (X : Cx) : Prop where
  nd : X.N.Nodup
  calm : X.calm = true
  units : X.A.units + 65 < cLine
  gd : X.A.guards = some []
  blt : ∀ x, x ∈ bltNames → X.mg x = none
  glob : ∀ g d, C.glob g = some d → ∃ u v, X.mg (T.gname g) = some u ∧ RelV v u ∧ ∀ cs F, Rep X.K cs F v d
  fn : ∀ f x, T.fname f = some x → ∃ k a fd ps, FnG X.prog X.w X.K X.mg X.base k a fd ps (spOf X.K Cl C f) ∧ Room k X.A ∧ X.mg x = some (.ref a) ∧ PySem.W.keepIn X.K (.ref a) = true ∧ Binds X.K fd ps []
  cls : ∀ c x, T.cname c = some x → ∃ f k a fd ps, C.init c = some f ∧ FnG X.prog X.w X.K X.mg X.base k a fd ps (spOf X.K Cl C f) ∧ Room (k + 1) X.A ∧ X.mg x = some (.ref (Cl c)) ∧ Mk X.K (Cl c) a ∧ Binds X.K fd ps []
  mth : ∀ c m f, C.meth c m = some f → ∃ k a fd ps, FnG X.prog X.w X.K X.mg X.base k a fd ps (spOf X.K Cl C f) ∧ Room k X.A ∧ Cls X.K (Cl c) ∧ Meth X.K (Cl c) m a ∧ Binds X.K fd ps []
  fld : ∀ c f, C.fld c f = true → Cls X.K (Cl c) ∧ NoAttr X.K (Cl c) f
  gdc : ∀ g x, T.dname g = some x → ∃ kvs d, C.gdct g = some kvs ∧ X.mg x = some (.ref d) ∧ GDict X.K X.w d kvs
  isc : ∀ c x, T.iname c = some x → X.mg x = some (.ref (Cl c)) ∧ C8.InsC X.K (Cl c)
theorem XOk.blk {C : Ctx} {T : Tab} {Cl : Nat → Addr} {X : Cx} (O : XOk C T Cl X) (s : Shared) (H : Hp) (scope : Scope) (cl : List (Str × Addr)) (c : Addr) (fp : List Addr) : XOk C T Cl (X.blk s H scope (compEnvC scope cl c X.env) fp) where
  nd := O.nd
  calm := O.calm
  units := O.units
  gd := O.gd
  blt := O.blt
  glob := O.glob
  fn := O.fn
  cls := O.cls
  mth := O.mth
  fld := O.fld
  gdc := O.gdc
  isc := O.isc

/-! ### weakest readings -/
def WE (X : Cx) (e : Expr) : TE := fun σ H Q => ∀ pins s, Inv X pins σ H s → wpAny (model X.prog X.w) X.A (eval e X.env) (EP X pins σ Q) X.xe s
def WT (X : Cx) (e : Expr) : TT := fun σ H Q => ∀ pins s, Inv X pins σ H s → wpAny (model X.prog X.w) X.A (isTrue e X.env (eval e X.env)) (TP X pins σ Q) X.xe s
def WW (X : Cx) (e : Expr) : TT := fun σ H Q => ∀ (whole : Sem Value) pins s, Inv X pins σ H s → wpAny (model X.prog X.w) X.A (isTrue e X.env whole) (TP X pins σ Q) X.xe s
def WA (X : Cx) (es : List Expr) : TA := fun σ H Q => ∀ (pos : Pos) pins s, Inv X pins σ H s → wpAny (model X.prog X.w) X.A (spliced (backTo pos (starEach es X.env))) (AP X pins σ Q) X.xe s
def WO (X : Cx) (e : Option Expr) : TO := fun σ H Q => ∀ pins s, Inv X pins σ H s → wpAny (model X.prog X.w) X.A (evalPart e X.env) (fun u s' => ∃ o H', Inv X pins σ H' s' ∧ IsPart u o ∧ Q o H') X.xe s
section
variable {X : Cx}
theorem pe_we {e : Expr} : PE X e (WE X e) := ⟨fun pins s σ H Q I h => h pins s I⟩
theorem pt_we {e : Expr} : PT X e (WT X e) := ⟨fun pins s σ H Q I h => h pins s I⟩
theorem po_we {e : Option Expr} : PO X e (WO X e) := ⟨fun pins s σ H Q I h => h pins s I⟩
theorem wo_of {e : Option Expr} {t : TO} (p : PO X e t) {σ : L2.St} {H : Hp} {Q : Option Int → Hp → Prop} (h : t σ H Q) : WO X e σ H Q := fun pins s I => p.run pins s σ H Q I h
theorem pa_we {e : List Expr} : PA X e (WA X e) := ⟨fun pos pins s σ H Q I h => h pos pins s I⟩
theorem we_of {e : Expr} {t : TE} (p : PE X e t) {σ : L2.St} {H : Hp} {Q : VK} (h : t σ H Q) : WE X e σ H Q := fun pins s I => p.run pins s σ H Q I h
theorem wt_of {e : Expr} {t : TT} (p : PT X e t) {σ : L2.St} {H : Hp} {Q : Bool → Hp → Prop} (h : t σ H Q) : WT X e σ H Q := fun pins s I => p.run pins s σ H Q I h
theorem wa_of {e : List Expr} {t : TA} (p : PA X e t) {σ : L2.St} {H : Hp} {Q : List V → Hp → Prop} (h : t σ H Q) : WA X e σ H Q := fun pos pins s I => p.run pos pins s σ H Q I h
end

/-! ### what is shown of each construct -/
def EOk (K : PySem.W.Frag) (Cl : Nat → Addr) (b : Bool) (cs : List Addr) (F H : Hp) (Q : AV → AHeap → Prop) (R : VK) : Prop :=
  ∀ v d cs' F' H' h', Stp cs F H cs' F' H' → StOk K Cl cs' F' H' h' → RepB K cs' F' H' b v d → Q d h' → R v H'
def BOk (K : PySem.W.Frag) (Cl : Nat → Addr) (cs : List Addr) (F H : Hp) (Q : Bool → AHeap → Prop) (R : Bool → Hp → Prop) : Prop :=
  ∀ k cs' F' H' h', Stp cs F H cs' F' H' → StOk K Cl cs' F' H' h' → Q k h' → R k H'
def AOk (K : PySem.W.Frag) (Cl : Nat → Addr) (b : Bool) (cs : List Addr) (F H : Hp) (Q : List AV → AHeap → Prop) (R : List V → Hp → Prop) : Prop :=
  ∀ v d cs' F' H' h', Stp cs F H cs' F' H' → StOk K Cl cs' F' H' h' → RepBs K cs' F' H' b v d → Q d h' → R v H'
def OOk (K : PySem.W.Frag) (Cl : Nat → Addr) (cs : List Addr) (F H : Hp) (Q : Option Int → AHeap → Prop) (R : Option Int → Hp → Prop) : Prop :=
  ∀ k cs' F' H' h', Stp cs F H cs' F' H' → StOk K Cl cs' F' H' h' → Q k h' → R k H'
def NOk (K : PySem.W.Frag) (Cl : Nat → Addr) (cs : List Addr) (F H : Hp) (Q : Cell → AHeap → Prop) (R : VK) : Prop :=
  ∀ p c cs' F' H' h', Stp cs F H cs' F' H' → StOk K Cl cs' F' H' h' → H p = none → F' p = none → p ∉ cs' → COk K Cl cs' F' H' p c → Q c h' → R (.ref p) H'
section
variable (C : Ctx) (T : Tab) (Cl : Nat → Addr)
def SE (X : Cx) (b : Bool) (e : E) (x : Expr) : Prop := ∀ ρ h Q σ cs F H R, StOk X.K Cl cs F H h → EnvOk X.K Cl cs F H σ ρ → WpE C b e ρ h Q → EOk X.K Cl b cs F H Q R → WE X x σ H R
def ST (X : Cx) (e : E) (x : Expr) : Prop := ∀ ρ h Q σ cs F H R, StOk X.K Cl cs F H h → EnvOk X.K Cl cs F H σ ρ → WpT C e ρ h Q → BOk X.K Cl cs F H Q R → WT X x σ H R
def SA (X : Cx) (es : Es) (x : List Expr) : Prop := ∀ ρ h Q σ cs F H R, StOk X.K Cl cs F H h → EnvOk X.K Cl cs F H σ ρ → WpEs C es ρ h Q → AOk X.K Cl false cs F H Q R → WA X x σ H R
def SB (X : Cx) (es : Es) (x : List Expr) : Prop := ∀ ρ h Q σ cs F H R, StOk X.K Cl cs F H h → EnvOk X.K Cl cs F H σ ρ → WpBs C es ρ h Q → AOk X.K Cl true cs F H Q R → WA X x σ H R
def SO (X : Cx) (e : Oe) (x : Option Expr) : Prop := ∀ ρ h Q σ cs F H R, StOk X.K Cl cs F H h → EnvOk X.K Cl cs F H σ ρ → WpO C e ρ h Q → OOk X.K Cl cs F H Q R → WO X x σ H R
def SN (X : Cx) (e : Nw) (x : Expr) : Prop := ∀ ρ h Q σ cs F H R, StOk X.K Cl cs F H h → EnvOk X.K Cl cs F H σ ρ → WpN C e ρ h Q → NOk X.K Cl cs F H Q R → WE X x σ H R
end

section
variable {C : Ctx} {T : Tab} {Cl : Nat → Addr} {X : Cx} {b : Bool} {K : PySem.W.Frag} {cs cs' cs'' : List Addr} {F F' F'' H H' H'' : Hp} {h : AHeap}
theorem EOk.lift {Q : AV → AHeap → Prop} {R : VK} (p : EOk K Cl b cs F H Q R) (x : Stp cs F H cs' F' H') : EOk K Cl b cs' F' H' Q R :=
  fun v d cs2 F2 H2 h2 y S r q => p v d cs2 F2 H2 h2 (x.trans y) S r q
theorem BOk.lift {Q : Bool → AHeap → Prop} {R : Bool → Hp → Prop} (p : BOk K Cl cs F H Q R) (x : Stp cs F H cs' F' H') : BOk K Cl cs' F' H' Q R :=
  fun k cs2 F2 H2 h2 y S q => p k cs2 F2 H2 h2 (x.trans y) S q
theorem NOk.lift {Q : Cell → AHeap → Prop} {R : VK} (p : NOk K Cl cs F H Q R) (x : Stp cs F H cs' F' H') : NOk K Cl cs' F' H' Q R :=
  fun v d cs2 F2 H2 h2 y S r1 r2 r3 r4 q => p v d cs2 F2 H2 h2 (x.trans y) S (x.fresh r1) r2 r3 r4 q
theorem EOk.post {Q : AV → AHeap → Prop} {R : VK} (p : EOk K Cl b cs F H Q R) : PostV K Cl cs F H h (fun z => Q z h) R := fun v d F' H' x S r q => p v d cs F' H' h x S (.inl r) q
theorem NOk.fz {Q : AV → AHeap → Prop} {R : VK} (p : EOk K Cl b cs F H Q R) : NOk K Cl cs F H (fun c h1 => match c with
    | .lst xs => Q (.lst xs) h1
    | .dct xs => Q (.dct xs) h1
    | _ => False) R := fun a c cs' F' H' h' x S n1 n2 n3 r q => by
  have key : ∀ o, H' a = some o → Stp cs' F' H' cs' (upd F' a o) H' → True := fun _ _ _ => trivial
  cases c with
  | lst xs =>
    obtain ⟨vs, e, r⟩ := r
    have x2 : Stp cs F H cs' (upd F' a (.lst vs)) H' := by
      refine ⟨x.f.trans (Ex.new n2), x.c, x.k, x.d, fun b q1 q2 => ?_, x.m⟩
      by_cases hb : b = a
      · subst hb; exact n1
      · rw [upd_ne hb] at q2; exact x.n b q1 q2
    exact p _ (.lst xs) _ _ _ _ x2 (S.freeze n2 n3 e) (.inl (.lst upd_same (r.mono (Ex.new n2) ⟨[], by simp⟩))) q
  | dct xs =>
    obtain ⟨vs, e, r⟩ := r
    have x2 : Stp cs F H cs' (upd F' a (.dK vs)) H' := by
      refine ⟨x.f.trans (Ex.new n2), x.c, x.k, x.d, fun b q1 q2 => ?_, x.m⟩
      by_cases hb : b = a
      · subst hb; exact n1
      · rw [upd_ne hb] at q2; exact x.n b q1 q2
    exact p _ (.dct xs) _ _ _ _ x2 (S.freeze n2 n3 e) (.inl (.dct upd_same (r.mono (Ex.new n2) ⟨[], by simp⟩))) q
  | obj c fs => exact q.elim
  | dead => exact q.elim
theorem NOk.new {Q : AV → AHeap → Prop} {R : VK} (p : EOk K Cl b cs F H Q R) : NOk K Cl cs F H (fun c h1 => Q (.adr h1.length) (h1 ++ [c])) R := fun a c cs' F' H' h' x S n1 n2 n3 r q => by
  have x2 : Stp cs F H (cs' ++ [a]) F' H' := by
    refine ⟨x.f, ?_, x.k, x.d, x.n, fun b q1 q2 => ?_⟩
    · obtain ⟨r, e⟩ := x.c
      exact ⟨r ++ [a], by rw [e, List.append_assoc]⟩
    · rw [List.mem_append] at q1
      rcases q1 with q1 | q1
      · exact x.m b q1 q2
      · simp at q1; subst q1; exact n1
  refine p _ (.adr h'.length) _ _ _ _ x2 (S.cellNew n2 n3 (r.mono (fun _ _ z => z) ⟨[a], rfl⟩ fun _ z => z)) (.inl (.adr ?_)) q
  rw [← S.len]
  simp

/-! ### expressions -/
theorem s_var {i : Nat} {x : Expr} (hag : agVar X.env.scope X.N i x = true) : SE C Cl X b (.var i) x := fun ρ h Q σ cs F H R S V w p => by
  unfold agVar at hag
  split at hag
  · rename_i id pos
    simp only [Bool.and_eq_true, decide_eq_true_eq] at hag
    obtain ⟨⟨h1, h2⟩, h3⟩ := hag
    obtain ⟨n1, n2, _⟩ := plainName_ok h3
    simp only [WpE] at w
    split at w
    · rename_i d hd
      obtain ⟨v, e, r⟩ := V.val i d hd
      exact we_of (pe_var h1 (visB_ok h2) n1 n2) ⟨v, e, p _ _ _ _ _ _ .refl S (.inl r) w⟩
    · exact w.elim
  · cases hag
theorem own_rep {i : Nat} {σ : L2.St} {ρ : Env} {c : Cell} (V : EnvOk K Cl cs F H σ ρ) (e : getS ρ i = .own c) : ∃ v, σ[i]? = some (some v) ∧ ∀ d, (∃ xs, c = .lst xs ∧ d = .lst xs) ∨ (∃ xs, c = .dct xs ∧ d = .dct xs) → RepB K cs F H true v d := by
  obtain ⟨a, h1, h2, h3, h4⟩ := V.own i c e
  refine ⟨_, h1, fun d q => ?_⟩
  rcases q with ⟨xs, rfl, rfl⟩ | ⟨xs, rfl, rfl⟩
  · obtain ⟨vs, q1, q2⟩ := h4
    exact .inr ⟨rfl, a, rfl, h2, h3, .inl ⟨vs, xs, rfl, q1, q2⟩⟩
  · obtain ⟨vs, q1, q2⟩ := h4
    exact .inr ⟨rfl, a, rfl, h2, h3, .inr ⟨vs, xs, rfl, q1, q2⟩⟩
theorem s_vw {i : Nat} {x : Expr} (hag : agVar X.env.scope X.N i x = true) : SE C Cl X b (.vw i) x := fun ρ h Q σ cs F H R S V w p => by
  unfold agVar at hag
  split at hag
  · rename_i id pos
    simp only [Bool.and_eq_true, decide_eq_true_eq] at hag
    obtain ⟨⟨h1, h2⟩, h3⟩ := hag
    obtain ⟨n1, n2, _⟩ := plainName_ok h3
    cases b with
    | false => simp only [WpE] at w
    | true =>
      simp only [WpE] at w
      split at w
      · rename_i xs hd
        obtain ⟨v, e, r⟩ := own_rep V hd
        exact we_of (pe_var h1 (visB_ok h2) n1 n2) ⟨v, e, p _ _ _ _ _ _ .refl S (r _ (.inl ⟨xs, rfl, rfl⟩)) w⟩
      · rename_i xs hd
        obtain ⟨v, e, r⟩ := own_rep V hd
        exact we_of (pe_var h1 (visB_ok h2) n1 n2) ⟨v, e, p _ _ _ _ _ _ .refl S (r _ (.inr ⟨xs, rfl, rfl⟩)) w⟩
      · exact w.elim
  · cases hag
theorem s_glob {g : Nat} {id : Str} {pos : Pos} (O : XOk C T Cl X) (h0 : id = T.gname g) (h1 : glB X.env.scope id = true) (h2 : plainName id = true) : SE C Cl X b (.glob g) (.Name id pos) := fun ρ h Q σ cs F H R S V w p => by
  simp only [WpE] at w
  split at w
  · rename_i d hd
    obtain ⟨u, v, e1, e2, r⟩ := O.glob g d hd
    rw [← h0] at e1
    exact we_of (pe_glob (glB_ok h1) e1 e2 (plainName_ok h2).1) (p _ _ _ _ _ _ .refl S (.inl (r _ _)) w)
  · exact w.elim
theorem s_bin {op : Operator} {a c : E} {l r : Expr} {pos : Pos} (ha : SE C Cl X false a l) (hc : SE C Cl X false c r) : SE C Cl X b (.bin op a c) (.BinOp l op r pos) := fun ρ h Q σ cs F H R S V w p => by
  simp only [WpE] at w
  refine we_of (pe_op opw_ok pe_we pe_we) (ha _ _ _ _ _ _ _ _ S V w fun v1 d1 cs1 F1 H1 h1 x1 S1 r1 q1 => ?_)
  refine hc _ _ _ _ _ _ _ _ S1 (V.step x1) q1 fun v2 d2 cs2 F2 H2 h2 x2 S2 r2 q2 => ?_
  exact binK_ok S2 (r1.step x2) r2 q2 ((p.lift (x1.trans x2)).post)
theorem un_w {f : Value → Sem Value} : UnR X f (fun x H Q => ∀ (pins : List (Addr × Obj)) (s : Shared) (σ : L2.St) (v : Value), Inv X pins σ H s → RelV x v → wpAny (model X.prog X.w) X.A (f v) (EP X pins σ Q) X.xe s) :=
  fun pins s σ H x v Q I rx h => h pins s σ v I rx
theorem s_neg {a : E} {l : Expr} {pos : Pos} (ha : SE C Cl X false a l) : SE C Cl X b (.neg a) (.UnaryOp .USub l pos) := fun ρ h Q σ cs F H R S V w p => by
  simp only [WpE] at w
  refine we_of (pe_un un_neg pe_we) (ha _ _ _ _ _ _ _ _ S V w fun v1 d1 cs1 F1 H1 h1 x1 S1 r1 q1 => ?_)
  unfold negK at q1
  split at q1
  · cases r1.int
    exact ⟨_, rfl, (p.lift x1).post.int S1 q1⟩
  · exact q1.elim
theorem s_cmp {op : CmpOp} {a c : E} {l r : Expr} {pos : Pos} (O : XOk C T Cl X) (ha : SE C Cl X true a l) (hc : SE C Cl X true c r) (hm : behindInMarks op r = false) : SE C Cl X b (.cmp op a c) (.Compare l [op] [r] pos) := fun ρ h Q σ cs F H R S V w p => by
  simp only [WpE] at w
  refine we_of (pe_cmpR opw_ok pe_we pe_we hm) (ha _ _ _ _ _ _ _ _ S V w fun v1 d1 cs1 F1 H1 h1 x1 S1 r1 q1 => ?_)
  refine hc _ _ _ _ _ _ _ _ S1 (V.step x1) q1 fun v2 d2 cs2 F2 H2 h2 x2 S2 r2 q2 => ?_
  exact cmpK_ok (by have := O.units; omega) S2 (r1.step x2) r2 q2 ((p.lift (x1.trans x2)).post)
theorem s_cmpT {op : CmpOp} {a c : E} {l r : Expr} {pos : Pos} (O : XOk C T Cl X) (ha : SE C Cl X true a l) (hc : SE C Cl X true c r) (hm : behindInMarks op r = false) : ST C Cl X (.cmp op a c) (.Compare l [op] [r] pos) := fun ρ h Q σ cs F H R S V w p => by
  simp only [WpT] at w
  refine wt_of (pt_cmpR opw_ok pe_we pe_we hm) (ha _ _ _ _ _ _ _ _ S V w fun v1 d1 cs1 F1 H1 h1 x1 S1 r1 q1 => ?_)
  refine hc _ _ _ _ _ _ _ _ S1 (V.step x1) q1 fun v2 d2 cs2 F2 H2 h2 x2 S2 r2 q2 => ?_
  refine cmpK_ok (by have := O.units; omega) S2 (r1.step x2) r2 q2 fun v d F' H' y S3 rv qv => ?_
  split at qv
  · cases rv
    exact ⟨_, rfl, p _ _ _ _ _ ((x1.trans x2).trans y) S3 qv⟩
  · exact qv.elim
theorem s_chain {o1 o2 : CmpOp} {a c e : E} {l r1 r2 : Expr} {pos : Pos} (O : XOk C T Cl X) (ha : SE C Cl X false a l) (hc : SE C Cl X false c r1) (he : SE C Cl X false e r2) (hm : lastMarks [o1, o2] [r1, r2] = false) :
    SE C Cl X b (.chain o1 o2 a c e) (.Compare l [o1, o2] [r1, r2] pos) := fun ρ h Q σ cs F H R S V w p => by
  simp only [WpE] at w
  refine we_of (pe_chain opw_ok opw_ok pe_we pe_we pe_we hm) (ha _ _ _ _ _ _ _ _ S V w fun v1 d1 cs1 F1 H1 h1 x1 S1 r1 q1 => ?_)
  refine hc _ _ _ _ _ _ _ _ S1 (V.step x1) q1 fun v2 d2 cs2 F2 H2 h2 x2 S2 r2 q2 => ?_
  refine cmpK_ok (by have := O.units; omega) S2 (r1.step x2) r2 q2 fun v d F' H' y S3 rv qv => ?_
  split at qv
  · cases rv
    refine ⟨true, rfl, ?_⟩
    rw [if_pos rfl]
    refine he _ _ _ _ _ _ _ _ S3 (V.step ((x1.trans x2).trans y)) qv fun v3 d3 cs3 F3 H3 h3 x3 S4 r3 q3 => ?_
    exact cmpK_ok (by have := O.units; omega) S4 ((r2.step y).step x3) r3 q3 ((p.lift (((x1.trans x2).trans y).trans x3)).post)
  · cases rv
    refine ⟨false, rfl, ?_⟩
    rw [if_neg Bool.false_ne_true]
    exact p _ _ _ _ _ _ ((x1.trans x2).trans y) S3 (.inl (.bl false)) qv
  · exact qv.elim
theorem s_chainT {o1 o2 : CmpOp} {a c e : E} {l r1 r2 : Expr} {pos : Pos} (O : XOk C T Cl X) (ha : SE C Cl X false a l) (hc : SE C Cl X false c r1) (he : SE C Cl X false e r2) (hm : lastMarks [o1, o2] [r1, r2] = false) :
    ST C Cl X (.chain o1 o2 a c e) (.Compare l [o1, o2] [r1, r2] pos) := fun ρ h Q σ cs F H R S V w p => by
  simp only [WpT] at w
  refine wt_of (pt_chain opw_ok opw_ok pe_we pe_we pe_we hm) (ha _ _ _ _ _ _ _ _ S V w fun v1 d1 cs1 F1 H1 h1 x1 S1 r1 q1 => ?_)
  refine hc _ _ _ _ _ _ _ _ S1 (V.step x1) q1 fun v2 d2 cs2 F2 H2 h2 x2 S2 r2 q2 => ?_
  refine cmpK_ok (by have := O.units; omega) S2 (r1.step x2) r2 q2 fun v d F' H' y S3 rv qv => ?_
  split at qv
  · cases rv
    refine ⟨true, rfl, ?_⟩
    rw [if_pos rfl]
    refine he _ _ _ _ _ _ _ _ S3 (V.step ((x1.trans x2).trans y)) qv fun v3 d3 cs3 F3 H3 h3 x3 S4 r3 q3 => ?_
    refine cmpK_ok (by have := O.units; omega) S4 ((r2.step y).step x3) r3 q3 fun v d F' H' y' S5 rv' qv' => ?_
    split at qv'
    · cases rv'
      exact ⟨_, rfl, p _ _ _ _ _ ((((x1.trans x2).trans y).trans x3).trans y') S5 qv'⟩
    · exact qv'.elim
  · cases rv
    refine ⟨false, rfl, ?_⟩
    rw [if_neg Bool.false_ne_true]
    exact ⟨false, rfl, p _ _ _ _ _ ((x1.trans x2).trans y) S3 qv⟩
  · exact qv.elim
theorem s_not {a : E} {l : Expr} {pos : Pos} (ha : SE C Cl X false a l) : SE C Cl X b (.not a) (.UnaryOp .Not l pos) := fun ρ h Q σ cs F H R S V w p => by
  simp only [WpE] at w
  refine we_of (pe_not pe_we) (ha _ _ _ _ _ _ _ _ S V w fun v1 d1 cs1 F1 H1 h1 x1 S1 r1 q1 => ?_)
  split at q1
  · cases r1.bl
    exact ⟨_, rfl, (p.lift x1).post.bl S1 q1⟩
  · exact q1.elim
theorem s_notT {a : E} {l : Expr} {pos : Pos} (ha : ST C Cl X a l) : ST C Cl X (.not a) (.UnaryOp .Not l pos) := fun ρ h Q σ cs F H R S V w p => by
  simp only [WpT] at w
  exact wt_of (pt_not pt_we) (ha _ _ _ _ _ _ _ _ S V w fun k cs1 F1 H1 h1 x1 S1 q1 => p _ _ _ _ _ x1 S1 q1)
theorem pe_two {op : BoolOp} {y z : Expr} {rest : List Expr} {pos : Pos} {tz : TE} (hz : PE X (tail2 op z pos rest) tz) : PE X (.BoolOp op (z :: rest) pos) tz := by
  cases rest with
  | nil => exact pe_one hz
  | cons w r => exact hz
theorem s_and {a c : E} {y z : Expr} {rest : List Expr} {pos : Pos} (ha : SE C Cl X false a y) (hc : SE C Cl X false c (tail2 .And z pos rest)) : SE C Cl X b (.and a c) (.BoolOp .And (y :: z :: rest) pos) := fun ρ h Q σ cs F H R S V w p => by
  simp only [WpE] at w
  refine we_of (pe_and pe_we (pe_two (y := y) pe_we)) (ha _ _ _ _ _ _ _ _ S V w fun v1 d1 cs1 F1 H1 h1 x1 S1 r1 q1 => ?_)
  split at q1
  · cases r1.bl
    refine ⟨true, rfl, ?_⟩
    rw [if_pos rfl]
    exact hc _ _ _ _ _ _ _ _ S1 (V.step x1) q1 fun v2 d2 cs2 F2 H2 h2 x2 S2 r2 q2 => p _ _ _ _ _ _ (x1.trans x2) S2 (.inl r2.plain) q2
  · cases r1.bl
    refine ⟨false, rfl, ?_⟩
    rw [if_neg Bool.false_ne_true]
    exact p _ _ _ _ _ _ x1 S1 (.inl (.bl false)) q1
  · exact q1.elim
theorem s_or {a c : E} {y z : Expr} {rest : List Expr} {pos : Pos} (ha : SE C Cl X false a y) (hc : SE C Cl X false c (tail2 .Or z pos rest)) : SE C Cl X b (.or a c) (.BoolOp .Or (y :: z :: rest) pos) := fun ρ h Q σ cs F H R S V w p => by
  simp only [WpE] at w
  refine we_of (pe_or pe_we (pe_two (y := y) pe_we)) (ha _ _ _ _ _ _ _ _ S V w fun v1 d1 cs1 F1 H1 h1 x1 S1 r1 q1 => ?_)
  split at q1
  · cases r1.bl
    refine ⟨false, rfl, ?_⟩
    rw [if_neg Bool.false_ne_true]
    exact hc _ _ _ _ _ _ _ _ S1 (V.step x1) q1 fun v2 d2 cs2 F2 H2 h2 x2 S2 r2 q2 => p _ _ _ _ _ _ (x1.trans x2) S2 (.inl r2.plain) q2
  · cases r1.bl
    refine ⟨true, rfl, ?_⟩
    rw [if_pos rfl]
    exact p _ _ _ _ _ _ x1 S1 (.inl (.bl true)) q1
  · exact q1.elim
/-- a conjunction's or disjunction's test asks its whole for nothing -/
theorem pw_of {op : BoolOp} {es : List Expr} {pos : Pos} {t : TT} (h : PT X (.BoolOp op es pos) t) : PW X (.BoolOp op es pos) t := ⟨fun whole pins s σ H Q I hw => by
  have := h.run pins s σ H Q I hw
  exact this⟩
theorem s_andT {a c : E} {y z : Expr} {rest : List Expr} {pos : Pos} (ha : ST C Cl X a y) (hc : ST C Cl X c (tail2 .And z pos rest)) : ST C Cl X (.and a c) (.BoolOp .And (y :: z :: rest) pos) := fun ρ h Q σ cs F H R S V w p => by
  simp only [WpT] at w
  have hz : PW X (.BoolOp .And (z :: rest) pos) (WT X (tail2 .And z pos rest)) := by
    cases rest with
    | nil => exact pw_and1 pt_we
    | cons w r => exact pw_of pt_we
  refine wt_of (pw_and pt_we hz).pt (ha _ _ _ _ _ _ _ _ S V w fun k cs1 F1 H1 h1 x1 S1 q1 => ?_)
  cases k with
  | true =>
    rw [if_pos rfl] at q1 ⊢
    exact hc _ _ _ _ _ _ _ _ S1 (V.step x1) q1 (p.lift x1)
  | false =>
    rw [if_neg Bool.false_ne_true] at q1 ⊢
    exact p _ _ _ _ _ x1 S1 q1
theorem s_orT {a c : E} {y z : Expr} {rest : List Expr} {pos : Pos} (ha : ST C Cl X a y) (hc : ST C Cl X c (tail2 .Or z pos rest)) : ST C Cl X (.or a c) (.BoolOp .Or (y :: z :: rest) pos) := fun ρ h Q σ cs F H R S V w p => by
  simp only [WpT] at w
  have hz : PW X (.BoolOp .Or (z :: rest) pos) (WT X (tail2 .Or z pos rest)) := by
    cases rest with
    | nil => exact pw_or1 pt_we
    | cons w r => exact pw_of pt_we
  refine wt_of (pw_or pt_we hz).pt (ha _ _ _ _ _ _ _ _ S V w fun k cs1 F1 H1 h1 x1 S1 q1 => ?_)
  cases k with
  | false =>
    rw [if_neg Bool.false_ne_true] at q1 ⊢
    exact hc _ _ _ _ _ _ _ _ S1 (V.step x1) q1 (p.lift x1)
  | true =>
    rw [if_pos rfl] at q1 ⊢
    exact p _ _ _ _ _ x1 S1 q1
theorem s_truT {a : E} {l : Expr} (ha : SE C Cl X false a l) (hl : plainT l = true) : ST C Cl X (.tru a) l := fun ρ h Q σ cs F H R S V w p => by
  simp only [WpT] at w
  refine wt_of (pt_truth pe_we (plainT_ok hl _)) (ha _ _ _ _ _ _ _ _ S V w fun v1 d1 cs1 F1 H1 h1 x1 S1 r1 q1 => ?_)
  obtain ⟨k, e1, e2⟩ := truK_ok S1 r1 q1
  exact ⟨k, e1, p _ _ _ _ _ x1 S1 e2⟩
theorem s_ite {c a d : E} {t l r : Expr} {pos : Pos} (hc : ST C Cl X c t) (ha : SE C Cl X false a l) (hd : SE C Cl X false d r) : SE C Cl X b (.ite c a d) (.IfExp t l r pos) := fun ρ h Q σ cs F H R S V w p => by
  simp only [WpE] at w
  refine we_of (pe_ifExp pt_we pe_we pe_we) (hc _ _ _ _ _ _ _ _ S V w fun k cs1 F1 H1 h1 x1 S1 q1 => ?_)
  cases k with
  | true =>
    rw [if_pos rfl] at q1 ⊢
    exact ha _ _ _ _ _ _ _ _ S1 (V.step x1) q1 fun v2 d2 cs2 F2 H2 h2 x2 S2 r2 q2 => p _ _ _ _ _ _ (x1.trans x2) S2 (.inl r2.plain) q2
  | false =>
    rw [if_neg Bool.false_ne_true] at q1 ⊢
    exact hd _ _ _ _ _ _ _ _ S1 (V.step x1) q1 fun v2 d2 cs2 F2 H2 h2 x2 S2 r2 q2 => p _ _ _ _ _ _ (x1.trans x2) S2 (.inl r2.plain) q2
theorem s_tup {es : Es} {xs : List Expr} {k : Nat} {pos : Pos} (ha : SA C Cl X es xs) : SE C Cl X b (.tup es) (.Tuple xs k pos) := fun ρ h Q σ cs F H R S V w p => by
  simp only [WpE] at w
  refine we_of (pe_tup pa_we) (ha _ _ _ _ _ _ _ _ S V w fun vs ds cs1 F1 H1 h1 x1 S1 rs q1 => ?_)
  have rs := rs.plain
  exact ⟨by rw [rs.length]; exact q1.1, (p.lift x1).post.newT S1 rs q1.2⟩
theorem s_fz {n : Nw} {x : Expr} (hn : SN C Cl X n x) : SE C Cl X b (.fz n) x := fun ρ h Q σ cs F H R S V w p => by
  simp only [WpE] at w
  exact hn _ _ _ _ _ _ _ _ S V w (NOk.fz p)
theorem s_new {n : Nw} {x : Expr} (hn : SN C Cl X n x) : SE C Cl X b (.new n) x := fun ρ h Q σ cs F H R S V w p => by
  simp only [WpE] at w
  exact hn _ _ _ _ _ _ _ _ S V w (NOk.new p)
theorem s_sub {a i : E} {l r : Expr} {pos : Pos} (O : XOk C T Cl X) (ha : SE C Cl X true a l) (hi : SE C Cl X false i r) (hs : notSlice r = true) : SE C Cl X b (.sub a i) (.Subscript l r pos) := fun ρ h Q σ cs F H R S V w p => by
  simp only [WpE] at w
  refine we_of (pe_ix ixw_ok pe_we pe_we (plainIx_of hs)) (ha _ _ _ _ _ _ _ _ S V w fun v1 d1 cs1 F1 H1 h1 x1 S1 r1 q1 => ?_)
  refine hi _ _ _ _ _ _ _ _ S1 (V.step x1) q1 fun v2 d2 cs2 F2 H2 h2 x2 S2 r2 q2 => ?_
  exact subK_ok (by have := O.units; omega) S2 (r1.step x2) r2 q2 ((p.lift (x1.trans x2)).post)
theorem s_so {e : E} {x : Expr} (he : SE C Cl X false e x) : SO C Cl X (.so e) (some x) := fun ρ h Q σ cs F H R S V w p => by
  simp only [WpO] at w
  refine wo_of (po_some pe_we) (he _ _ _ _ _ _ _ _ S V w fun v1 d1 cs1 F1 H1 h1 x1 S1 r1 q1 => ?_)
  split at q1
  · cases r1.int
    exact ⟨_, rfl, p _ _ _ _ _ x1 S1 q1⟩
  · exact q1.elim
theorem s_no : SO C Cl X .no none := fun ρ h Q σ cs F H R S V w p => by
  simp only [WpO] at w
  exact wo_of po_none (p _ _ _ _ _ .refl S w)
theorem OOk.lift {Q : Option Int → AHeap → Prop} {R : Option Int → Hp → Prop} (p : OOk K Cl cs F H Q R) (x : Stp cs F H cs' F' H') : OOk K Cl cs' F' H' Q R :=
  fun k cs2 F2 H2 h2 y S q => p k cs2 F2 H2 h2 (x.trans y) S q
theorem AOk.lift {Q : List AV → AHeap → Prop} {R : List V → Hp → Prop} (p : AOk K Cl b cs F H Q R) (x : Stp cs F H cs' F' H') : AOk K Cl b cs' F' H' Q R :=
  fun v d cs2 F2 H2 h2 y S r q => p v d cs2 F2 H2 h2 (x.trans y) S r q
theorem s_slice {a : E} {lo hi : Oe} {l : Expr} {u v : Option Expr} {p2 pos : Pos} (ha : SE C Cl X false a l) (hl : SO C Cl X lo u) (hh : SO C Cl X hi v) : SE C Cl X b (.slice a lo hi) (.Subscript l (.Slice u v none p2) pos) := fun ρ h Q σ cs F H R S V w p => by
  simp only [WpE] at w
  refine we_of (pe_slice slw_ok pe_we po_we po_we) (ha _ _ _ _ _ _ _ _ S V w fun v1 d1 cs1 F1 H1 h1 x1 S1 r1 q1 => ?_)
  refine hl _ _ _ _ _ _ _ _ S1 (V.step x1) q1 fun k2 cs2 F2 H2 h2 x2 S2 q2 => ?_
  refine hh _ _ _ _ _ _ _ _ S2 ((V.step x1).step x2) q2 fun k3 cs3 F3 H3 h3 x3 S3 q3 => ?_
  exact sliceK_ok S3 ((r1.step x2).step x3) q3 ((p.lift ((x1.trans x2).trans x3)).post)
theorem s_nil : SA C Cl X .nil [] := fun ρ h Q σ cs F H R S V w p => by
  simp only [WpEs] at w
  exact wa_of pa_nil (p _ _ _ _ _ _ .refl S .nil w)
theorem s_cons {e : E} {es : Es} {x : Expr} {xs : List Expr} (he : SE C Cl X false e x) (hs : SA C Cl X es xs) (hx : notStar x = true) : SA C Cl X (.cons e es) (x :: xs) := fun ρ h Q σ cs F H R S V w p => by
  simp only [WpEs] at w
  refine wa_of (pa_cons pe_we pa_we (star_cons hx _ _)) (he _ _ _ _ _ _ _ _ S V w fun v1 d1 cs1 F1 H1 h1 x1 S1 r1 q1 => ?_)
  refine hs _ _ _ _ _ _ _ _ S1 (V.step x1) q1 fun v2 d2 cs2 F2 H2 h2 x2 S2 r2 q2 => ?_
  exact p _ _ _ _ _ _ (x1.trans x2) S2 (.cons (r1.step x2) r2) q2
theorem s_nilB : SB C Cl X .nil [] := fun ρ h Q σ cs F H R S V w p => by
  simp only [WpBs] at w
  exact wa_of pa_nil (p _ _ _ _ _ _ .refl S .nil w)
theorem s_consB {e : E} {es : Es} {x : Expr} {xs : List Expr} (he : SE C Cl X true e x) (hs : SB C Cl X es xs) (hx : notStar x = true) : SB C Cl X (.cons e es) (x :: xs) := fun ρ h Q σ cs F H R S V w p => by
  simp only [WpBs] at w
  refine wa_of (pa_cons pe_we pa_we (star_cons hx _ _)) (he _ _ _ _ _ _ _ _ S V w fun v1 d1 cs1 F1 H1 h1 x1 S1 r1 q1 => ?_)
  refine hs _ _ _ _ _ _ _ _ S1 (V.step x1) q1 fun v2 d2 cs2 F2 H2 h2 x2 S2 r2 q2 => ?_
  exact p _ _ _ _ _ _ (x1.trans x2) S2 (.cons (r1.step x2) r2) q2
theorem s_call {f : Nat} {es : Es} {id : Str} {p1 pos : Pos} {xs : List Expr} (O : XOk C T Cl X) (h0 : T.fname f = some id) (h1 : glB X.env.scope id = true) (h2 : plainName id = true) (hx : xs.all notStar = true) (hn : xs = [] → es = .nil) (ha : SA C Cl X es xs) :
    SE C Cl X b (.call f es) (.Call (.Name id p1) xs [] pos) := fun ρ h Q σ cs F H R S V w p => by
  simp only [WpE] at w
  obtain ⟨k, a, fd, ps, G, hr, hm, hk, hb⟩ := O.fn f id h0
  have key : WA X xs σ H fun vs H1 => spOf X.K Cl C f vs H1 R E0 := by
    refine ha _ _ _ _ _ _ _ _ S V w fun vs ds cs1 F1 H1 h1 x1 S1 rs q1 => ?_
    exact ⟨cs1, F1, h1, ds, Q, S1, rs.plain, q1, fun v d cs' F' H' h' y S' r q => p _ _ _ _ _ _ (x1.trans y) S' (.inl r) q⟩
  cases xs with
  | nil =>
    refine we_of (G.call0 O.gd hr (glB_ok h1) hm hk hb (plainName_ok h2).1) ?_
    show spOf X.K Cl C f [] H R E0
    cases es with
    | nil =>
      simp only [WpEs] at w
      exact ⟨cs, F, h, [], Q, S, .nil, w, fun v d cs' F' H' h' y S' r q => p _ _ _ _ _ _ y S' (.inl r) q⟩
    | cons e es => cases hn rfl
  | cons x xs =>
    rw [List.all_cons, Bool.and_eq_true] at hx
    exact we_of (G.call O.gd hr (glB_ok h1) hm hk hb pa_we (plainName_ok h2).1 (star_cons hx.1 _ _) (star_all hx.2 _ _)) key
theorem s_blt {bt : Blt} {es : Es} {id : Str} {p1 pos : Pos} {y : Expr} {xs : List Expr} (O : XOk C T Cl X) (h0 : id = bName bt) (h1 : glB X.env.scope id = true) (hx : (y :: xs).all notStar = true) (ha : SB C Cl X es (y :: xs)) :
    SE C Cl X b (.blt bt es) (.Call (.Name id p1) (y :: xs) [] pos) := fun ρ h Q σ cs F H R S V w p => by
  simp only [WpE] at w
  subst h0
  rw [List.all_cons, Bool.and_eq_true] at hx
  have hm := O.blt _ (bName_mem bt)
  obtain ⟨n1, n2, n3⟩ := plainName_ok (bName_plain bt)
  have hv := bName_boot bt
  have key : WA X (y :: xs) σ H fun vs H1 => CallW X (bVal bt) vs H1 R := by
    refine ha _ _ _ _ _ _ _ _ S V w fun vs ds cs1 F1 H1 h1 x1 S1 rs q1 => ?_
    exact bltK_ok O.calm O.gd (by have := O.units; omega) S1 rs q1 ((p.lift x1).post)
  have hg : Gl X (bName bt) := glB_ok h1
  revert hm hv key hg n1 n3
  generalize bName bt = nm
  generalize hbv : bVal bt = bv
  intro hm n1 n3 hv key hg
  cases bt <;> cases hbv <;> first
    | exact we_of (pe_callB callw_ok hg hm hv pa_we n3 n1 (star_cons hx.1 _ _) (star_all hx.2 _ _)) key
    | exact we_of (pe_callTy callw_ok hg hm hv pa_we n3 n1 (star_cons hx.1 _ _) (star_all hx.2 _ _)) key
end
end VL

set_option maxRecDepth 100000
set_option maxHeartbeats 2000000
/-! VL: isinstance, join, new lists, what is walked, comprehensions. -/
namespace VL
open PySem L2 Evl PyProof.Rows PySem.Spec

section
variable {C : Ctx} {T : Tab} {Cl : Nat → Addr} {X : Cx} {b : Bool} {K : PySem.W.Frag} {cs cs' cs'' : List Addr} {F F' F'' H H' H'' : Hp} {h : AHeap}
theorem tyx_l {a : Addr} {vs : List V} (q : SqL K H a vs) : TyX K H (.ref a) (.type "list") := by
  rcases q with (q | ⟨o, q⟩) | ⟨o, its, n, h1, h2, _⟩
  · exact .base (.lst q)
  · exact .base (.frz q)
  · exact .kList h1 h2
theorem tyx_t {a : Addr} {vs : List V} (q : SqT K H a vs) : TyX K H (.ref a) (.type "tuple") := by
  rcases q with (q | ⟨o, q⟩) | ⟨o, its, n, h1, h2, _⟩
  · exact .base (.tup q)
  · exact .fTuple q
  · exact .kTuple h1 h2
def tyNames : List String := ["int", "bool", "str", "list", "tuple"]
theorem ty_boot {t : String} (h : tyNames.contains t = true) : bootBuiltins (Str.ofString t) = some (.type t) ∧ Str.ofString t ∈ bltNames ∧ plainName (Str.ofString t) = true := by
  have h' : t ∈ tyNames := by simpa using h
  simp only [tyNames, List.mem_cons, List.not_mem_nil, or_false] at h'
  rcases h' with rfl | rfl | rfl | rfl | rfl <;> exact ⟨by decide +kernel, by decide +kernel, by decide +kernel⟩
theorem isiK_ok (S : StOk X.K Cl cs F H h) {x : V} {d : AV} (rx : RepB X.K cs F H b x d) {t : String} {Q : KA} {R : VK} (q : isiK d t h Q) (p : PostV X.K Cl cs F H h Q R) : rIsi X.K [x, .ty t] H R := by
  have fin : ∀ {tx : String} {k : Bool}, TyX X.K H x (.type tx) → kitB tx t = some k → Q (.bl k) → rIsi X.K [x, .ty t] H R := fun {tx k} h1 h2 q => ⟨x, .ty t, .type tx, .type t, k, rfl, .ty t, h1, kit_ty h2, p.bl S q⟩
  unfold isiK at q
  split at q
  · cases rx.non
    obtain ⟨e, q⟩ := q
    rcases e with rfl | rfl | rfl | rfl | rfl <;> exact fin (.base .non) (by decide +kernel) q
  · cases rx.bl
    rcases q with ⟨rfl, q⟩ | ⟨rfl, q⟩ | ⟨rfl | rfl | rfl, q⟩ <;> exact fin (.base (.bl _)) (by decide +kernel) q
  · cases rx.int
    rcases q with ⟨rfl, q⟩ | ⟨rfl | rfl | rfl | rfl, q⟩ <;> exact fin (.base (.int _)) (by decide +kernel) q
  · cases rx.str
    rcases q with ⟨rfl, q⟩ | ⟨rfl | rfl | rfl | rfl, q⟩ <;> exact fin (.base (.str _)) (by decide +kernel) q
  · rename_i xs
    have hx : ∃ a vs, x = .ref a ∧ SqT X.K H a vs := by
      rcases rx with r | ⟨_, _, _, _, _, ⟨_, _, e, _⟩ | ⟨_, _, e, _⟩⟩
      · cases r with
        | tup h1 r1 => exact ⟨_, _, rfl, ex_t S.sub h1⟩
      · cases e
      · cases e
    obtain ⟨a, vs, rfl, hq⟩ := hx
    rcases q with ⟨rfl, q⟩ | ⟨rfl | rfl | rfl | rfl, q⟩ <;> exact fin (tyx_t hq) (by decide +kernel) q
  · exact q.elim
  · split at q
    · rename_i xs hv
      obtain ⟨a, vs, rfl, hq, _⟩ := rx.view S hv
      rcases q with ⟨rfl, q⟩ | ⟨rfl | rfl | rfl | rfl, q⟩ <;> exact fin (tyx_l hq) (by decide +kernel) q
    · exact q.elim
theorem s_isi {a : E} {t : String} {id id2 : Str} {p1 p2 pos : Pos} {y : Expr} (O : XOk C T Cl X) (h0 : id = "isinstance") (h1 : glB X.env.scope id = true) (h2 : id2 = Str.ofString t) (h3 : glB X.env.scope id2 = true) (ht : tyNames.contains t = true) (hy : notStar y = true)
    (ha : SE C Cl X true a y) : SE C Cl X b (.isi a t) (.Call (.Name id p1) [y, .Name id2 p2] [] pos) := fun ρ h Q σ cs F H R S V w p => by
  simp only [WpE] at w
  subst h0 h2
  obtain ⟨e1, e2, e3⟩ := ty_boot ht
  obtain ⟨n1, n2, n3⟩ := plainName_ok e3
  have pt : PE X (.Name (Str.ofString t) p2) (tC (.ty t)) := pe_bltn (glB_ok h3) (O.blt _ e2) e1 rfl n3 n1
  refine we_of (pe_callB call_isi (glB_ok h1) (O.blt _ (by decide +kernel)) (by decide +kernel) (pa_cons pe_we (pa_cons pt pa_nil) (star_cons hy _ _)) (by decide +kernel) (by decide +kernel) (star_cons hy _ _)) ?_
  refine ha _ _ _ _ _ _ _ _ S V w fun v1 d1 cs1 F1 H1 h1 x1 S1 r1 q1 => ?_
  exact isiK_ok S1 r1 q1 ((p.lift x1).post)
theorem s_smt {m : Sm} {o a : E} {nm : Str} {y z : Expr} {apos cpos : Pos} (hm : (match m with | .join => decide (nm = "join")) = true) (ho : SE C Cl X false o y) (ha : SE C Cl X true a z) (hz : notStar z = true) (hy : notSup y = true) (hl : (apos.endLine == cpos.line) = true) :
    SE C Cl X b (.smt m o a) (.Call (.Attribute y nm apos) [z] [] cpos) := fun ρ h Q σ cs F H R S V w p => by
  simp only [WpE] at w
  cases m with
  | join =>
    have hm : nm = "join" := of_decide_eq_true hm
    subst hm
    refine we_of (pe_join pe_we pe_we (star_cons hz _ _) (base_of hy _ _) hl) ?_
    refine ho _ _ _ _ _ _ _ _ S V w fun v1 d1 cs1 F1 H1 h1 x1 S1 r1 q1 => ?_
    split at q1
    · cases r1.str
      refine ⟨⟨_, rfl⟩, ha _ _ _ _ _ _ _ _ S1 (V.step x1) q1 fun v2 d2 cs2 F2 H2 h2 x2 S2 r2 q2 => ?_⟩
      unfold smtK at q2
      simp only at q2
      split at q2
      · rename_i ys hv
        obtain ⟨xs, hv, hn⟩ := Option.bind_eq_some_iff.mp hv
        obtain ⟨a, vs, rfl, hq, r⟩ := r2.viewT S2 hv
        rw [r.strs hn] at hq
        exact ⟨_, a, ys, rfl, rfl, hq, q2.1, (p.lift (x1.trans x2)).post.str S2 q2.2⟩
      · exact q2.elim
    · exact q1.elim

/-! ### objects of own classes -/
theorem Rep.adr_inv {K : PySem.W.Frag} {cs : List Addr} {F : Hp} {v : V} {n : Nat} (r : Rep K cs F v (.adr n)) : ∃ a, v = .ref a ∧ cs[n]? = some a := by
  cases r with
  | adr e => exact ⟨_, rfl, e⟩
theorem obj_at (S : StOk K Cl cs F H h) {n c : Nat} {a : Addr} {fs : List (Str × AV)} (e : cs[n]? = some a) (hc : cells h n = .obj c fs) : ∃ dx fvs, H a = some (.ins (Cl c) dx fvs) ∧ RepF K cs F fvs fs := by
  have := S.cell n a e
  rw [hc] at this
  exact this
theorem s_attr {a : E} {f : Str} {y : Expr} {pos : Pos} (O : XOk C T Cl X) (ha : SE C Cl X false a y) (hy : notSup y = true) : SE C Cl X b (.attr a f) (.Attribute y f pos) := fun ρ h Q σ cs F H R S V w p => by
  simp only [WpE] at w
  refine we_of (pe_fld pe_we (base_of hy _ _)) (ha _ _ _ _ _ _ _ _ S V w fun v1 d1 cs1 F1 H1 h1 x1 S1 r1 q1 => ?_)
  split at q1
  · rename_i n
    split at q1
    · rename_i c fs hc
      obtain ⟨hf, q1⟩ := q1
      split at q1
      · rename_i d hd
        obtain ⟨a, rfl, e⟩ := Rep.adr_inv r1.plain
        obtain ⟨dx, fvs, e2, r⟩ := obj_at S1 e hc
        obtain ⟨v, hv, rv⟩ := r.get hd
        exact ⟨a, Cl c, dx, fvs, v, rfl, e2, (O.fld c f hf).1, (O.fld c f hf).2, hv, p _ _ _ _ _ _ x1 S1 (.inl rv) q1⟩
      · exact q1.elim
    · exact q1.elim
  · exact q1.elim
theorem few_form {xs : List Expr} (hx : xs.all notStar = true) (hn : xs.length < 30) (pos : Pos) (env : PySem.Env) : methodCallForm xs.length (backTo pos (starEach xs env)) [] = true := by
  have := star_all hx pos env
  unfold methodCallForm
  rw [List.any_eq_false] at this
  have e : (backTo pos (starEach xs env)).all (fun x => !x.1) = true := by
    rw [List.all_eq_true]
    intro x hx
    have := this x hx
    simpa using this
  simp [e, hn]
theorem s_mcall {o : E} {m : Str} {es : Es} {y : Expr} {apos cpos : Pos} {xs : List Expr} (O : XOk C T Cl X) (ho : SE C Cl X false o y) (hy : notSup y = true) (hl : (apos.endLine == cpos.line) = true) (hx : xs.all notStar = true) (hn : xs.length < 30) (hnil : xs = [] → es = .nil) (ha : SA C Cl X es xs) :
    SE C Cl X b (.mcall o m es) (.Call (.Attribute y m apos) xs [] cpos) := fun ρ h Q σ cs F H R S V w p => by
  simp only [WpE] at w
  have key : ∀ v1 d1 cs1 F1 H1 h1, Stp cs F H cs1 F1 H1 → StOk X.K Cl cs1 F1 H1 h1 → RepB X.K cs1 F1 H1 false v1 d1 → (match d1 with
      | .adr n => match cells h1 n with
        | .obj c fs => match fs.lookup m with
          | some _ => False
          | none => match C.meth c m with
            | some f => WpEs C es ρ h1 fun xs h2 => C.call f (d1 :: xs) h2 Q
            | none => False
        | _ => False
      | _ => False) → ∃ a CC dx fs sp, v1 = .ref a ∧ H1 a = some (.ins CC dx fs) ∧ fs.lookup m = none ∧ MethAt X CC m sp ∧ WA X xs σ H1 fun vs H2 => sp (v1 :: vs) H2 R E0 := by
    intro v1 d1 cs1 F1 H1 h1 x1 S1 r1 q1
    split at q1
    · rename_i n
      split at q1
      · rename_i c fs hc
        split at q1
        · exact q1.elim
        · rename_i hlk
          split at q1
          · rename_i f hf
            obtain ⟨a, rfl, e⟩ := Rep.adr_inv r1.plain
            obtain ⟨dx, fvs, e2, r⟩ := obj_at S1 e hc
            obtain ⟨k, g, fd, ps, G, room, hc1, hm, hb⟩ := O.mth c m f hf
            refine ⟨a, Cl c, dx, fvs, spOf X.K Cl C f, rfl, e2, r.none hlk, ⟨k, g, fd, ps, hc1, hm, G, room, hb⟩, ?_⟩
            refine ha _ _ _ _ _ _ _ _ S1 (V.step x1) q1 fun vs ds cs2 F2 H2 h2 x2 S2 rs q2 => ?_
            exact ⟨cs2, F2, h2, .adr n :: ds, Q, S2, .cons (r1.plain.mono x2.f x2.c) rs.plain, q2, fun v d cs' F' H' h' y S' r q => p _ _ _ _ _ _ ((x1.trans x2).trans y) S' (.inl r) q⟩
          · exact q1.elim
      · exact q1.elim
    · exact q1.elim
  cases xs with
  | nil =>
    have := hnil rfl
    subst this
    refine we_of (pe_methG0 pe_we (base_of hy _ _) hl O.gd) (ho _ _ _ _ _ _ _ _ S V w fun v1 d1 cs1 F1 H1 h1 x1 S1 r1 q1 => ?_)
    obtain ⟨a, CC, dx, fs, sp, e1, e2, e3, e4, _⟩ := key v1 d1 cs1 F1 H1 h1 x1 S1 r1 q1
    subst e1
    split at q1
    · rename_i n
      split at q1
      · rename_i c fs' hc
        split at q1
        · exact q1.elim
        · rename_i hlk
          split at q1
          · rename_i f hf
            obtain ⟨a', ea, e⟩ := Rep.adr_inv r1.plain
            cases ea
            obtain ⟨dx', fvs, e2', r⟩ := obj_at S1 e hc
            obtain ⟨k, g, fd, ps, G, room, hc1, hm, hb⟩ := O.mth c m f hf
            simp only [WpEs] at q1
            exact ⟨a, Cl c, dx', fvs, spOf X.K Cl C f, rfl, e2', r.none hlk, ⟨k, g, fd, ps, hc1, hm, G, room, hb⟩, cs1, F1, h1, [.adr n], Q, S1, .cons r1.plain .nil, q1, fun v d cs' F' H' h' y S' r q => p _ _ _ _ _ _ (x1.trans y) S' (.inl r) q⟩
          · exact q1.elim
      · exact q1.elim
    · exact q1.elim
  | cons x xs =>
    have hx2 := hx
    rw [List.all_cons, Bool.and_eq_true] at hx2
    refine we_of (pe_methG pe_we (base_of hy _ _) hl (few_form hx hn _ _) O.gd pa_we (star_cons hx2.1 _ _) (star_all hx2.2 _ _)) (ho _ _ _ _ _ _ _ _ S V w fun v1 d1 cs1 F1 H1 h1 x1 S1 r1 q1 => ?_)
    exact key v1 d1 cs1 F1 H1 h1 x1 S1 r1 q1
theorem s_make {c : Nat} {es : Es} {id : Str} {p1 pos : Pos} {x : Expr} {xs : List Expr} (O : XOk C T Cl X) (h0 : T.cname c = some id) (h1 : glB X.env.scope id = true) (h2 : plainName id = true) (hx : (x :: xs).all notStar = true) (ha : SA C Cl X es (x :: xs)) :
    SE C Cl X b (.make c es) (.Call (.Name id p1) (x :: xs) [] pos) := fun ρ h Q σ cs F H R S V w p => by
  simp only [WpE] at w
  obtain ⟨f, k, g, fd, ps, hi, G, room, hm, M, hb⟩ := O.cls c id h0
  rw [List.all_cons, Bool.and_eq_true] at hx
  refine we_of (G.make M O.gd room (glB_ok h1) hm hb pa_we (plainName_ok h2).1 (star_cons hx.1 _ _) (star_all hx.2 _ _)) (ha _ _ _ _ _ _ _ _ S V w fun vs ds cs1 F1 H1 h1' x1 S1 rs q1 => ?_)
  rw [hi] at q1
  intro a dx na nd ne
  have ne2 : a ≠ dx := fun z => ne z.symm
  have hF : F1 a = none := by
    cases q : F1 a with
    | none => rfl
    | some u => rw [S1.sub _ _ q] at na; cases na
  have hc : a ∉ cs1 := fun z => by
    obtain ⟨n, hn⟩ := List.mem_iff_getElem?.mp z
    exact (S1.cell n a hn).some na
  have na2 : upd H1 dx (.own a) a = none := by rw [upd_ne ne2]; exact na
  have S2 := (S1.newN (o := .own a) nd).newN (o := .ins (Cl c) dx []) na2
  have y1 : Stp cs1 F1 H1 cs1 F1 (upd (upd H1 dx (.own a)) a (.ins (Cl c) dx [])) := (Stp.newN nd).trans (Stp.newN na2)
  have S3 := S2.cellNew (c := .obj c []) hF hc ⟨dx, [], upd_same, .nil⟩
  have y2 : Stp cs1 F1 H1 (cs1 ++ [a]) F1 (upd (upd H1 dx (.own a)) a (.ins (Cl c) dx [])) := by
    refine ⟨y1.f, ⟨[a], rfl⟩, y1.k, y1.d, y1.n, fun b q1 q2 => ?_⟩
    rw [List.mem_append] at q1
    rcases q1 with q1 | q1
    · exact absurd q1 q2
    · simp at q1; subst q1; exact na
  have ga : (cs1 ++ [a])[h1'.length]? = some a := by
    rw [← S1.len]
    simp
  refine ⟨cs1 ++ [a], F1, h1' ++ [.obj c []], .adr h1'.length :: ds, _, S3, .cons (.adr ga) (rs.plain.mono y2.f y2.c), q1, fun v d cs' F' H' h' y S' r q => ?_⟩
  split at q
  · cases r
    refine ⟨rfl, p _ _ _ _ _ _ ((x1.trans y2).trans y) S' (.inl (.adr ?_)) q⟩
    obtain ⟨r, e⟩ := y.c
    exact get_pre e ga
  · exact q.elim

/-! ### dicts of the module, places, tuples turned round, own classes asked for -/
theorem s_gGet {a : E} {g : Nat} {id : Str} {p1 pos : Pos} {r : Expr} (O : XOk C T Cl X) (h0 : T.dname g = some id) (h1 : glB X.env.scope id = true) (h2 : plainName id = true) (hs : notSlice r = true) (ha : SE C Cl X false a r) :
    SE C Cl X b (.gGet g a) (.Subscript (.Name id p1) r pos) := fun ρ h Q σ cs F H R S V w p => by
  simp only [WpE] at w
  obtain ⟨kvs, d, hg, m1, D⟩ := O.gdc g id h0
  rw [hg] at w
  have pt : PE X (.Name id p1) (tC (.ref d)) := pe_glob (glB_ok h1) m1 rfl (plainName_ok h2).1
  refine we_of (pe_ix (ix_gdict D) pt pe_we (plainIx_of hs)) ?_
  refine ha _ _ _ _ _ _ _ _ S V w fun v1 d1 cs1 F1 H1 h1 x1 S1 r1 q1 => ?_
  unfold gGetK at q1
  simp only at q1
  split at q1
  · cases r1.str
    split at q1
    · rename_i i hi
      exact ⟨_, _, rfl, rfl, hi, (p.lift x1).post.int S1 q1⟩
    · exact q1.elim
  · exact q1.elim
theorem s_gIn {neg : Bool} {a : E} {g : Nat} {id : Str} {p1 pos : Pos} {l : Expr} {o : CmpOp} (O : XOk C T Cl X) (ho : o = if neg then .NotIn else .In) (h0 : T.dname g = some id) (h1 : glB X.env.scope id = true) (h2 : plainName id = true) (hm : behindInMarks o (.Name id p1) = false) (ha : SE C Cl X false a l) :
    SE C Cl X b (.gIn neg a g) (.Compare l [o] [.Name id p1] pos) := fun ρ h Q σ cs F H R S V w p => by
  simp only [WpE] at w
  obtain ⟨kvs, d, hg, m1, D⟩ := O.gdc g id h0
  rw [hg] at w
  have pt : PE X (.Name id p1) (tC (.ref d)) := pe_glob (glB_ok h1) m1 rfl (plainName_ok h2).1
  cases neg with
  | true =>
    simp only [if_true] at ho
    subst ho
    refine we_of (pe_cmpR (op_gNotIn D) pe_we pt hm) (ha _ _ _ _ _ _ _ _ S V w fun v1 d1 cs1 F1 H1 h1 x1 S1 r1 q1 => ?_)
    unfold gInK at q1
    simp only at q1
    split at q1
    · cases r1.str
      exact ⟨_, rfl, rfl, (p.lift x1).post.bl S1 q1⟩
    · exact q1.elim
  | false =>
    simp only [Bool.false_eq_true, if_false] at ho
    subst ho
    refine we_of (pe_cmpR (op_gIn D) pe_we pt hm) (ha _ _ _ _ _ _ _ _ S V w fun v1 d1 cs1 F1 H1 h1 x1 S1 r1 q1 => ?_)
    unfold gInK at q1
    simp only at q1
    split at q1
    · cases r1.str
      exact ⟨_, rfl, rfl, (p.lift x1).post.bl S1 q1⟩
    · exact q1.elim
theorem s_gInT {neg : Bool} {a : E} {g : Nat} {id : Str} {p1 pos : Pos} {l : Expr} {o : CmpOp} (O : XOk C T Cl X) (ho : o = if neg then .NotIn else .In) (h0 : T.dname g = some id) (h1 : glB X.env.scope id = true) (h2 : plainName id = true) (hm : behindInMarks o (.Name id p1) = false) (ha : SE C Cl X false a l) :
    ST C Cl X (.gIn neg a g) (.Compare l [o] [.Name id p1] pos) := fun ρ h Q σ cs F H R S V w p => by
  simp only [WpT] at w
  obtain ⟨kvs, d, hg, m1, D⟩ := O.gdc g id h0
  rw [hg] at w
  have pt : PE X (.Name id p1) (tC (.ref d)) := pe_glob (glB_ok h1) m1 rfl (plainName_ok h2).1
  cases neg with
  | true =>
    simp only [if_true] at ho
    subst ho
    refine wt_of (pt_cmpR (op_gNotIn D) pe_we pt hm) (ha _ _ _ _ _ _ _ _ S V w fun v1 d1 cs1 F1 H1 h1 x1 S1 r1 q1 => ?_)
    unfold gInK at q1
    simp only at q1
    split at q1
    · cases r1.str
      exact ⟨_, rfl, rfl, _, rfl, p _ _ _ _ _ x1 S1 q1⟩
    · exact q1.elim
  | false =>
    simp only [Bool.false_eq_true, if_false] at ho
    subst ho
    refine wt_of (pt_cmpR (op_gIn D) pe_we pt hm) (ha _ _ _ _ _ _ _ _ S V w fun v1 d1 cs1 F1 H1 h1 x1 S1 r1 q1 => ?_)
    unfold gInK at q1
    simp only at q1
    split at q1
    · cases r1.str
      exact ⟨_, rfl, rfl, _, rfl, p _ _ _ _ _ x1 S1 q1⟩
    · exact q1.elim
theorem s_idx {l a : E} {nm : Str} {y z : Expr} {apos cpos : Pos} (hm : nm = "index") (hl : SE C Cl X true l y) (ha : SE C Cl X false a z) (hz : notStar1 z = true) (hy : notSup y = true) (hp : (apos.endLine == cpos.line) = true) :
    SE C Cl X b (.idx l a) (.Call (.Attribute y nm apos) [z] [] cpos) := fun ρ h Q σ cs F H R S V w p => by
  simp only [WpE] at w
  subst hm
  refine we_of (pe_index pe_we pe_we hz (base_of hy _ _) hp) ?_
  refine hl _ _ _ _ _ _ _ _ S V w fun v1 d1 cs1 F1 H1 h1 x1 S1 r1 q1 => ?_
  obtain ⟨hv, q1⟩ := q1
  obtain ⟨xs0, hv⟩ := Option.isSome_iff_exists.mp hv
  obtain ⟨a0, vs0, e0, hq0, _⟩ := r1.view S1 hv
  refine ⟨by rw [e0]; exact .inl ⟨rfl, _, hq0⟩, ?_⟩
  refine ha _ _ _ _ _ _ _ _ S1 (V.step x1) q1 fun v2 d2 cs2 F2 H2 h2 x2 S2 r2 q2 => ?_
  unfold idxK at q2
  split at q2
  · rename_i xs hv2
    obtain ⟨f1, f2, q3⟩ := q2
    obtain ⟨a1, vs, e1, hq, r⟩ := (r1.step x2).view S2 hv2
    split at q3
    · rename_i j hj
      obtain ⟨hlt, hp1, hp2⟩ := List.findIdx?_eq_some_iff_getElem.mp hj
      have hlv : j < vs.length := by rw [r.length]; exact hlt
      refine ⟨a1, vs, v2, j, vs[j], e1, rfl, hq, (r2.flat f1).1, (r.flat f2 r2 f1).1, List.getElem?_eq_getElem hlv, ?_, fun m z' hm hz' => ?_, (p.lift (x1.trans x2)).post.int S2 q3⟩
      · rw [r.flatAt f2 r2 f1 (List.getElem?_eq_getElem hlv) (List.getElem?_eq_getElem hlt)]
        exact hp1
      · have hm2 : m < xs.length := Nat.lt_trans hm hlt
        rw [r.flatAt f2 r2 f1 hz' (List.getElem?_eq_getElem hm2)]
        exact Bool.eq_false_iff.mpr (hp2 m hm)
    · exact q3.elim
  · exact q2.elim
theorem s_revT {a : E} {l : Expr} {k : Nat} {p1 p2 p3 pos : Pos} (ha : SE C Cl X false a l) : SE C Cl X b (.revT a) (.Subscript l (.Slice none none (some (.UnaryOp .USub (.Constant (.int 1) k p1) p2)) p3) pos) := fun ρ h Q σ cs F H R S V w p => by
  simp only [WpE] at w
  refine we_of (pe_revT pe_we) (ha _ _ _ _ _ _ _ _ S V w fun v1 d1 cs1 F1 H1 h1 x1 S1 r1 q1 => ?_)
  split at q1
  · have r1' := r1.plain
    cases r1' with
    | tup g1 g2 => exact ⟨_, _, rfl, ex_t S1.sub g1, (p.lift x1).post.newT S1 g2.rev q1⟩
  · exact q1.elim
theorem s_isC {a : E} {c : Nat} {id id2 : Str} {p1 p2 pos : Pos} {y : Expr} (O : XOk C T Cl X) (h0 : id = "isinstance") (h1 : glB X.env.scope id = true) (h2 : T.iname c = some id2) (h3 : glB X.env.scope id2 = true) (h4 : plainName id2 = true) (hy : notStar y = true)
    (ha : SE C Cl X false a y) : SE C Cl X b (.isC a c) (.Call (.Name id p1) [y, .Name id2 p2] [] pos) := fun ρ h Q σ cs F H R S V w p => by
  simp only [WpE] at w
  subst h0
  obtain ⟨m1, IC⟩ := O.isc c id2 h2
  have pt : PE X (.Name id2 p2) (tC (.ref (Cl c))) := pe_glob (glB_ok h3) m1 rfl (plainName_ok h4).1
  refine we_of (pe_callB (C8.call_isC IC) (glB_ok h1) (O.blt _ (by decide +kernel)) (by decide +kernel) (pa_cons pe_we (pa_cons pt pa_nil) (star_cons hy _ _)) (by decide +kernel) (by decide +kernel) (star_cons hy _ _)) ?_
  refine ha _ _ _ _ _ _ _ _ S V w fun v1 d1 cs1 F1 H1 h1 x1 S1 r1 q1 => ?_
  unfold isCK at q1
  split at q1
  · rename_i n
    split at q1
    · rename_i c' fs hc
      obtain ⟨rfl, q1⟩ := q1
      obtain ⟨a, rfl, e⟩ := Rep.adr_inv r1.plain
      obtain ⟨dx, fvs, e2, r⟩ := obj_at S1 e hc
      exact ⟨a, dx, fvs, rfl, e2, (p.lift x1).post.bl S1 q1⟩
    · exact q1.elim
  · exact q1.elim

/-! ### new lists -/
theorem NOk.made {Q : Cell → AHeap → Prop} {R : VK} (p : NOk K Cl cs F H Q R) (S : StOk K Cl cs F H h) {a : Addr} {o : HO} {c : Cell} (ha : H a = none) (r : COk K Cl cs F (upd H a o) a c) (q : Q c h) : R (.ref a) (upd H a o) := by
  have hF : F a = none := by
    cases w : F a with
    | none => rfl
    | some u => rw [S.sub _ _ w] at ha; cases ha
  have hc : a ∉ cs := fun z => by
    obtain ⟨n, hn⟩ := List.mem_iff_getElem?.mp z
    exact (S.cell n a hn).some ha
  exact p a c cs F _ h (.newN ha) (S.newN ha) ha hF hc r q
theorem n_lst {es : Es} {xs : List Expr} {pos : Pos} (ha : SA C Cl X es xs) : SN C Cl X (.lst es) (.List xs pos) := fun ρ h Q σ cs F H R S V w p => by
  simp only [WpN] at w
  refine we_of (pe_lst pa_we) (ha _ _ _ _ _ _ _ _ S V w fun vs ds cs1 F1 H1 h1 x1 S1 rs q1 => ?_)
  have rs := rs.plain
  exact ⟨by rw [rs.length]; exact q1.1, fun a ha => (p.lift x1).made S1 ha (show COk X.K Cl cs1 F1 _ a (.lst ds) from ⟨vs, upd_same, rs⟩) q1.2⟩
theorem reps_strs {K : PySem.W.Frag} {cs : List Addr} {F : Hp} : ∀ ys : List Str, Reps K cs F (ys.map V.str) (ys.map AV.str)
  | [] => .nil
  | y :: ys => .cons (.str y) (reps_strs ys)
theorem n_split {o a : E} {nm : Str} {y z : Expr} {apos cpos : Pos} (hm : nm = "split") (ho : SE C Cl X false o y) (ha : SE C Cl X false a z) (hz : notStar z = true) (hy : notSup y = true) (hl : (apos.endLine == cpos.line) = true) :
    SN C Cl X (.split o a) (.Call (.Attribute y nm apos) [z] [] cpos) := fun ρ h Q σ cs F H R S V w p => by
  simp only [WpN] at w
  subst hm
  refine we_of (pe_split pe_we pe_we (star_cons hz _ _) (base_of hy _ _) hl) ?_
  refine ho _ _ _ _ _ _ _ _ S V w fun v1 d1 cs1 F1 H1 h1 x1 S1 r1 q1 => ?_
  split at q1
  · cases r1.str
    refine ⟨⟨_, rfl⟩, ha _ _ _ _ _ _ _ _ S1 (V.step x1) q1 fun v2 d2 cs2 F2 H2 h2 x2 S2 r2 q2 => ?_⟩
    split at q2
    · cases r2.str
      obtain ⟨q3, q4, q5⟩ := q2
      exact ⟨_, _, rfl, rfl, q3, q4, fun a ha => (p.lift (x1.trans x2)).made S2 ha (show COk X.K Cl cs2 F2 _ a (.lst _) from ⟨_, upd_same, reps_strs _⟩) q5⟩
    · exact q2.elim
  · exact q1.elim
theorem n_slice {a : E} {lo hi : Oe} {l : Expr} {u v : Option Expr} {p2 pos : Pos} (ha : SE C Cl X true a l) (hl : SO C Cl X lo u) (hh : SO C Cl X hi v) : SN C Cl X (.slice a lo hi) (.Subscript l (.Slice u v none p2) pos) := fun ρ h Q σ cs F H R S V w p => by
  simp only [WpN] at w
  refine we_of (pe_slice sl_list pe_we po_we po_we) (ha _ _ _ _ _ _ _ _ S V w fun v1 d1 cs1 F1 H1 h1 x1 S1 r1 q1 => ?_)
  refine hl _ _ _ _ _ _ _ _ S1 (V.step x1) q1 fun k2 cs2 F2 H2 h2 x2 S2 q2 => ?_
  refine hh _ _ _ _ _ _ _ _ S2 ((V.step x1).step x2) q2 fun k3 cs3 F3 H3 h3 x3 S3 q3 => ?_
  split at q3
  · rename_i xs hv
    obtain ⟨a, vs, rfl, hq, r⟩ := ((r1.step x2).step x3).view S3 hv
    exact ⟨a, vs, rfl, hq, fun a ha => (p.lift ((x1.trans x2).trans x3)).made S3 ha (show COk X.K Cl cs3 F3 _ a (.lst (cut xs k2 k3)) from ⟨_, upd_same, r.cut k2 k3⟩) q3⟩
  · exact q3.elim
theorem n_list {a : E} {id : Str} {p1 pos : Pos} {y : Expr} (O : XOk C T Cl X) (h0 : id = "list") (h1 : glB X.env.scope id = true) (hy : notStar y = true) (ha : SE C Cl X true a y) : SN C Cl X (.listOf a) (.Call (.Name id p1) [y] [] pos) := fun ρ h Q σ cs F H R S V w p => by
  simp only [WpN] at w
  subst h0
  refine we_of (pe_callTy call_list_of (glB_ok h1) (O.blt _ (by decide +kernel)) (by decide +kernel) (pa_cons pe_we pa_nil (star_cons hy _ _)) (by decide +kernel) (by decide +kernel) (star_cons hy _ _)) ?_
  refine ha _ _ _ _ _ _ _ _ S V w fun v1 d1 cs1 F1 H1 h1 x1 S1 r1 q1 => ?_
  split at q1
  · rename_i xs hv
    obtain ⟨a, vs, rfl, hq, r⟩ := r1.viewT S1 hv
    exact ⟨a, vs, rfl, hq, fun a ha => (p.lift x1).made S1 ha (show COk X.K Cl cs1 F1 _ a (.lst xs) from ⟨_, upd_same, r⟩) q1⟩
  · exact q1.elim
theorem n_cat {a c : E} {l r : Expr} {pos : Pos} (ha : SE C Cl X true a l) (hc : SE C Cl X true c r) : SN C Cl X (.cat a c) (.BinOp l .Add r pos) := fun ρ h Q σ cs F H R S V w p => by
  simp only [WpN] at w
  refine we_of (pe_op op_cat pe_we pe_we) (ha _ _ _ _ _ _ _ _ S V w fun v1 d1 cs1 F1 H1 h1 x1 S1 r1 q1 => ?_)
  refine hc _ _ _ _ _ _ _ _ S1 (V.step x1) q1 fun v2 d2 cs2 F2 H2 h2 x2 S2 r2 q2 => ?_
  split at q2
  · rename_i xs ys hx hy
    obtain ⟨a1, vs, rfl, e1, t1⟩ := (r1.step x2).viewW S2 hx
    obtain ⟨a2, ws, rfl, e2, t2⟩ := r2.viewW S2 hy
    exact ⟨a1, a2, vs, ws, rfl, rfl, e1, e2, by rw [t1.length, t2.length]; exact q2.1, fun a ha => (p.lift (x1.trans x2)).made S2 ha (show COk X.K Cl cs2 F2 _ a (.lst (xs ++ ys)) from ⟨_, upd_same, t1.append t2⟩) q2.2⟩
  · exact q2.elim

theorem Reps.rep {vs : List V} {ds : List AV} (r : Reps K cs F vs ds) : ∀ n : Nat, Reps K cs F (List.replicate n vs).flatten (List.replicate n ds).flatten
  | 0 => .nil
  | n + 1 => by rw [List.replicate_succ, List.replicate_succ, List.flatten_cons, List.flatten_cons]; exact r.append (Reps.rep r n)
theorem n_rep {a c : E} {l r : Expr} {pos : Pos} (ha : SE C Cl X true a l) (hc : SE C Cl X false c r) : SN C Cl X (.rep a c) (.BinOp l .Mult r pos) := fun ρ h Q σ cs F H R S V w p => by
  simp only [WpN] at w
  refine we_of (pe_op op_rep pe_we pe_we) (ha _ _ _ _ _ _ _ _ S V w fun v1 d1 cs1 F1 H1 h1 x1 S1 r1 q1 => ?_)
  refine hc _ _ _ _ _ _ _ _ S1 (V.step x1) q1 fun v2 d2 cs2 F2 H2 h2 x2 S2 r2 q2 => ?_
  split at q2
  · rename_i xs k hx
    obtain ⟨a1, vs, rfl, e1, t1⟩ := (r1.step x2).viewW S2 hx
    have r2 := r2.plain
    cases r2
    exact ⟨a1, k, vs, rfl, rfl, e1, q2.1.1, q2.1.2, by rw [t1.length]; exact q2.2.1, fun a ha => (p.lift (x1.trans x2)).made S2 ha (show COk X.K Cl cs2 F2 _ a (.lst (List.replicate k.toNat xs).flatten) from ⟨_, upd_same, t1.rep k.toNat⟩) q2.2.2⟩
  · exact q2.elim

theorem Stp.chgNew {p : Addr} {o : HO} (x : Stp cs F H cs' F' H') (hp : H p = none) : Stp cs F H cs' F' (upd H' p o) := by
  refine ⟨x.f, x.c, fun b u q n => ?_, fun b q => ?_, x.n, x.m⟩
  · rw [upd_ne fun z => by subst z; rw [hp] at q; cases q]
    exact x.k b u q n
  · by_cases hb : b = p
    · subst hb; rw [upd_same]; simp
    · rw [upd_ne hb]; exact x.d b q
theorem keyOf_rep {d : AV} {v : V} {k : Key} (e : keyOf d = some k) (r : RepB K cs F H false v d) : v = kV k := by
  have r := r.plain
  cases d <;> simp only [keyOf] at e <;> cases e <;> cases r <;> rfl
theorem n_dct1 {k v : E} {x y : Expr} {pos : Pos} (hk : SE C Cl X false k x) (hv : SE C Cl X false v y) : SN C Cl X (.dct1 k v) (.Dict [some x] [y] pos) := fun ρ h Q σ cs F H R S V w p => by
  simp only [WpN] at w
  refine we_of (pe_disp (pps_cons pe_we pe_we pps_nil) rfl rfl (by simp) (by simp)) ?_
  intro a na
  have S1 := S.newN (o := .dK []) na
  have x0 : Stp cs F H cs F (upd H a (.dK [])) := Stp.newN na
  refine hk _ _ _ _ _ _ _ _ S1 (V.step x0) w fun v1 d1 cs1 F1 H1 h1 x1 S2 r1 q1 => ?_
  refine hv _ _ _ _ _ _ _ _ S2 ((V.step x0).step x1) q1 fun v2 d2 cs2 F2 H2 h2 x2 S3 r2 q2 => ?_
  split at q2
  · rename_i key e
    have x12 := x1.trans x2
    have here : upd H a (.dK []) a = some (.dK []) := upd_same
    have hc : a ∉ cs := fun z => by
      obtain ⟨n, hn⟩ := List.mem_iff_getElem?.mp z
      exact (S.cell n a hn).some na
    have hF : F a = none := by
      cases q : F a with
      | none => rfl
      | some u => rw [S.sub _ _ q] at na; cases na
    have e2 : H2 a = some (.dK []) := x12.k a _ here hc
    have hF2 : F2 a = none := by
      cases q : F2 a with
      | none => rfl
      | some u =>
        have := x12.n a hF (by rw [q]; simp)
        rw [here] at this; cases this
    have hn2 : a ∉ cs2 := fun z => by
      have := x12.m a z hc
      rw [here] at this; cases this
    refine ⟨e2, [(key, v2)], ?_, by simp, ?_⟩
    · rw [keyOf_rep e r1]; rfl
    · exact p a (.dct [(key, d2)]) cs2 F2 _ h2 ((x0.trans x12).chgNew na) (S3.chgN hF2 hn2) na hF2 hn2 ⟨_, upd_same, .cons r2.plain .nil⟩ q2
  · exact q2.elim
theorem n_rev {a : E} {l : Expr} {k : Nat} {p1 p2 p3 pos : Pos} (ha : SE C Cl X true a l) : SN C Cl X (.rev a) (.Subscript l (.Slice none none (some (.UnaryOp .USub (.Constant (.int 1) k p1) p2)) p3) pos) := fun ρ h Q σ cs F H R S V w p => by
  simp only [WpN] at w
  refine we_of (pe_revL pe_we) (ha _ _ _ _ _ _ _ _ S V w fun v1 d1 cs1 F1 H1 h1 x1 S1 r1 q1 => ?_)
  split at q1
  · rename_i xs hv
    obtain ⟨a, vs, rfl, hq, r⟩ := r1.view S1 hv
    exact ⟨a, vs, rfl, hq, fun a ha => (p.lift x1).made S1 ha (show COk X.K Cl cs1 F1 _ a (.lst xs.reverse) from ⟨_, upd_same, r.rev⟩) q1⟩
  · exact q1.elim

/-! ### what is walked -/
/-- from where the walk began: st, also through what the frame owns -/
def Rl (st : Bool) (cs : List Addr) (F H : Hp) (cs' : List Addr) (F' H' : Hp) : Prop := match st with
  | true => Stp cs F H cs' F' H'
  | false => Ex F F' ∧ ∃ r, cs' = cs ++ r
theorem Rl.of {st : Bool} (x : Stp cs F H cs' F' H') : Rl st cs F H cs' F' H' := by
  cases st with
  | true => exact x
  | false => exact ⟨x.f, x.c⟩
def IOk (K : PySem.W.Frag) (Cl : Nat → Addr) (st : Bool) (cs : List Addr) (F H : Hp) (Q : List AV → (AHeap → Prop) → AHeap → Prop) (R : L2.It → Hp → Prop) : Prop :=
  ∀ J items chk G Y cs' F' H' h', Stp cs F H cs' F' H' → StOk K Cl cs' F' H' h' → L2.Walk J items.length G Y →
    (∀ cs2 F2 H2 h2, Rl st cs' F' H' cs2 F2 H2 → StOk K Cl cs2 F2 H2 h2 → chk h2 → G H2) →
    (∀ i H2 v H3 cs2 F2 h2 d, StOk K Cl cs2 F2 H2 h2 → Ex F' F2 → (∃ r, cs2 = cs' ++ r) → items[i]? = some d → chk h2 → Y i H2 v H3 → ∃ F3, Stp cs2 F2 H2 cs2 F3 H3 ∧ StOk K Cl cs2 F3 H3 h2 ∧ Rep K cs2 F3 v d) →
    Q items chk h' → R J H'
def WI (X : Cx) (tg iter : Expr) : TI := fun σ H R => ∀ pins s, Inv X pins σ H s → wpAny (model X.prog X.w) X.A (eval iter X.env) (fun v s1 => wpAny (model X.prog X.w) X.A (pyIter v) (PIE X pins σ tg R) X.xe s1) X.xe s
theorem pi_we {tg iter : Expr} : PI X tg iter (WI X tg iter) := ⟨fun pins s σ H R I h => h pins s I⟩
theorem wi_of {tg iter : Expr} {t : TI} (p : PI X tg iter t) {σ : L2.St} {H : Hp} {R : L2.It → Hp → Prop} (h : t σ H R) : WI X tg iter σ H R := fun pins s I => p.run pins s σ H R I h
def SI (C : Ctx) (Cl : Nat → Addr) (X : Cx) (st : Bool) (tg : Expr) (e : It) (x : Expr) : Prop := ∀ ρ h Q σ cs F H (R : L2.It → Hp → Prop), StOk X.K Cl cs F H h → EnvOk X.K Cl cs F H σ ρ → WpI C e ρ h Q → IOk X.K Cl st cs F H Q R → WI X tg x σ H R
theorem i_rng1 {st : Bool} {tg : Expr} {a : E} {id : Str} {p1 pos : Pos} {y : Expr} (O : XOk C T Cl X) (h0 : id = "range") (h1 : glB X.env.scope id = true) (hy : notStar y = true) (ha : SE C Cl X false a y) : SI C Cl X st tg (.rng1 a) (.Call (.Name id p1) [y] [] pos) := fun ρ h Q σ cs F H R S V w p => by
  simp only [WpI] at w
  subst h0
  refine wi_of (pi_range1 (glB_ok h1) (O.blt _ (by decide +kernel)) (pa_cons pe_we pa_nil (star_cons hy _ _)) (star_cons hy _ _)) ?_
  refine ha _ _ _ _ _ _ _ _ S V w fun v1 d1 cs1 F1 H1 h1 x1 S1 r1 q1 => ?_
  split at q1
  · rename_i n
    cases r1.int
    refine ⟨n, rfl, q1.1.1, q1.1.2, p _ _ _ (fun _ => True) (YFn fun i => .int (0 + i)) _ _ _ _ x1 S1 (by rw [List.length_map, List.length_range]; exact walk_range) (fun _ _ _ _ _ _ _ => trivial) ?_ q1.2⟩
    intro i H2 v H3 cs2 F2 h2 d S e c hd _ ⟨y1, y2⟩
    subst y1 y2
    rw [List.getElem?_map] at hd
    obtain ⟨j, hj, rfl⟩ := Option.map_eq_some_iff.mp hd
    have hj' := (List.getElem?_eq_some_iff.mp hj).2
    simp at hj'
    subst hj'
    refine ⟨F2, .refl, S, ?_⟩
    show Rep X.K cs2 F2 (.int (0 + (i : Int))) (.int (i : Int))
    rw [Int.zero_add]
    exact .int _
  · exact q1.elim
theorem i_rng2 {st : Bool} {tg : Expr} {a c : E} {id : Str} {p1 pos : Pos} {y z : Expr} (O : XOk C T Cl X) (h0 : id = "range") (h1 : glB X.env.scope id = true) (hy : notStar y = true) (hz : notStar z = true) (ha : SE C Cl X false a y) (hc : SE C Cl X false c z) :
    SI C Cl X st tg (.rng2 a c) (.Call (.Name id p1) [y, z] [] pos) := fun ρ h Q σ cs F H R S V w p => by
  simp only [WpI] at w
  subst h0
  refine wi_of (pi_range2 (glB_ok h1) (O.blt _ (by decide +kernel)) (pa_cons pe_we (pa_cons pe_we pa_nil (star_cons hz _ _)) (star_cons hy _ _)) (by rw [star_cons hy, star_cons hz]; rfl) (star_cons hz _ _)) ?_
  refine ha _ _ _ _ _ _ _ _ S V w fun v1 d1 cs1 F1 H1 h1 x1 S1 r1 q1 => ?_
  refine hc _ _ _ _ _ _ _ _ S1 (V.step x1) q1 fun v2 d2 cs2 F2 H2 h2 x2 S2 r2 q2 => ?_
  split at q2
  · rename_i i0 n
    cases r1.int
    cases r2.int
    refine ⟨i0, n, rfl, q2.1, p _ _ _ (fun _ => True) (YFn fun i => .int (i0 + i)) _ _ _ _ (x1.trans x2) S2 (by simpa using walk_range) (fun _ _ _ _ _ _ _ => trivial) ?_ q2.2⟩
    intro i H2 v H3 cs2 F2 h2 d S e c hd _ ⟨y1, y2⟩
    subst y1 y2
    rw [List.getElem?_map] at hd
    obtain ⟨j, hj, rfl⟩ := Option.map_eq_some_iff.mp hd
    have hj' := (List.getElem?_eq_some_iff.mp hj).2
    simp at hj'
    subst hj'
    exact ⟨F2, .refl, S, .int _⟩
  · exact q2.elim
theorem i_chars {st : Bool} {tg : Expr} {a : E} {x : Expr} (ha : SE C Cl X false a x) : SI C Cl X st tg (.chars a) x := fun ρ h Q σ cs F H R S V w p => by
  simp only [WpI] at w
  refine wi_of (pi_str pe_we) (ha _ _ _ _ _ _ _ _ S V w fun v1 d1 cs1 F1 H1 h1 x1 S1 r1 q1 => ?_)
  split at q1
  · rename_i z
    cases r1.str
    refine ⟨z, rfl, p _ _ _ (fun _ => True) _ _ _ _ _ x1 S1 (by simpa using walk_str) (fun _ _ _ _ _ _ _ => trivial) ?_ q1⟩
    intro i H2 v H3 cs2 F2 h2 d S e c hd _ ⟨y1, cc, y2, y3⟩
    subst y1 y3
    rw [List.getElem?_map] at hd
    obtain ⟨j, hj, rfl⟩ := Option.map_eq_some_iff.mp hd
    have : z.cps[i]? = some j := by simpa using hj
    rw [y2] at this
    cases this
    exact ⟨F2, .refl, S, .str _⟩
  · exact q1.elim
theorem WpI_seq_vw {i : Nat} {ρ : Env} {h : AHeap} {Q} (w : WpI C (.seq (.vw i)) ρ h Q) : False := by
  simp only [WpI, WpE] at w
/-- a list or a tuple: which of the two shows where it is walked -/
theorem pi_seq {tg iter : Expr} {te : TE} (he : PE X iter te) : PI X tg iter (fun σ H R => te σ H fun x H1 => ∃ a, x = .ref a ∧ (((∃ xs, SqL X.K H1 a xs) ∧ R (Itl X.K a) H1) ∨ ((∃ xs, SqT X.K H1 a xs) ∧ R (Itt X.K a) H1))) := by
  refine ⟨fun pins s σ H R I h => ?_⟩
  refine thn (he.run pins s σ H _ I h) fun v s1 ⟨x, H1, I1, r1, a, e, q⟩ => ?_
  subst e
  rcases q with ⟨⟨xs, hq⟩, q⟩ | ⟨⟨xs, hq⟩, q⟩
  · obtain ⟨its, rv, pl, hz⟩ := I1.list hq
    cases r1
    have fresh : H1 s1.heap.objs.size = none := I1.hok.fresh (Nat.le_refl _)
    refine wpAny_pyIter_list pl.isList ⟨s1.heap.objs.size, [s1.heap.objs.size], _, Itl X.K a, H1, rfl, ?_, turn_list a _, ?_, ?_, q⟩
    · exact I1.kept (t' := s1.toks) fun _ _ z => Heap.get?_push_of_some _ z
    · exact ⟨_, Heap.get?_push_size _ rfl, rfl, rfl⟩
    · intro c hc
      obtain rfl : c = s1.heap.objs.size := by simpa using hc
      exact I1.fpOk (Nat.le_refl _) fresh
  · obtain ⟨its, rv, pl, hz⟩ := I1.tuple hq
    cases r1
    have fresh : H1 s1.heap.objs.size = none := I1.hok.fresh (Nat.le_refl _)
    refine wpAny_pyIter_tuple (show s1.heap.IsTuple a its.toArray from pl) ⟨s1.heap.objs.size, [s1.heap.objs.size], _, Itt X.K a, H1, rfl, ?_, turn_tuple a _, ?_, ?_, q⟩
    · exact I1.kept (t' := s1.toks) fun _ _ z => Heap.get?_push_of_some _ z
    · exact ⟨_, Heap.get?_push_size _ rfl, rfl, rfl⟩
    · intro c hc
      obtain rfl : c = s1.heap.objs.size := by simpa using hc
      exact I1.fpOk (Nat.le_refl _) fresh
theorem i_seq {st : Bool} {tg : Expr} {a : E} {x : Expr} (ha : SE C Cl X false a x) : SI C Cl X st tg (.seq a) x := fun ρ h Q σ cs F H R S V w p => by
  simp only [WpI] at w
  refine wi_of (pi_seq pe_we) (ha _ _ _ _ _ _ _ _ S V w fun v1 d1 cs1 F1 H1 h1 x1 S1 r1 q1 => ?_)
  split at q1
  · rename_i items hv
    have r1' := r1.plain
    rcases viewT_eq hv with e | hv'
    · subst e
      cases r1' with
      | tup g1 g2 =>
        rename_i a vs
        refine ⟨a, rfl, .inr ⟨⟨vs, ex_t S1.sub g1⟩, p _ items _ (fun H => SqT X.K H a vs) (YAt vs) _ _ _ _ x1 S1 (by rw [← g2.length]; exact walk_tup) (fun cs2 F2 H2 h2 rl S2 _ => ?_) ?_ q1⟩⟩
        · have mo : Ex F1 F2 := by
            cases st with
            | true => exact Stp.f rl
            | false => exact rl.1
          exact ex_t S2.sub (ex_t mo g1)
        · intro i H2 v H3 cs2 F2 h2 d S e c hd _ ⟨y1, y2⟩
          subst y1
          obtain ⟨v', e1, r2⟩ := g2.get hd
          rw [y2] at e1
          cases e1
          exact ⟨F2, .refl, S, r2.mono e c⟩
    · obtain ⟨a, vs, e, hq, r⟩ := r1.view S1 hv'
      have stay : ∀ cs2 F2 H2 h2, Ex F1 F2 → (∃ r, cs2 = cs1 ++ r) → StOk X.K Cl cs2 F2 H2 h2 → viewT h2 d1 = some items → ∃ vs2, SqL X.K H2 a vs2 ∧ Reps X.K cs2 F2 vs2 items := by
        intro cs2 F2 H2 h2 m1 m2 S2 hv2
        have r2 : RepB X.K cs2 F2 H2 false v1 d1 := .inl (r1'.mono m1 m2)
        have hv3 : view h2 d1 = some items := by
          rcases viewT_eq hv2 with z | z
          · subst z
            simp [VL.view] at hv'
          · exact z
        obtain ⟨a2, vs2, e2, hq2, rr⟩ := r2.view S2 hv3
        rw [e] at e2
        cases e2
        exact ⟨vs2, hq2, rr⟩
      refine ⟨a, e, .inl ⟨⟨vs, hq⟩, p (Itl X.K a) items _ (fun H => ∃ vs2, SqL X.K H a vs2 ∧ vs2.length = items.length) (fun i H v H' => H' = H ∧ ∀ vs2, SqL X.K H a vs2 → vs2[i]? = some v) _ _ _ _ x1 S1 ?_ (fun cs2 F2 H2 h2 rl S2 hc => ?_) ?_ q1⟩⟩
      · refine ⟨fun i H hi ⟨vs2, g1, g2⟩ => ⟨vs2, vs2[i], g1, by simp [hi, g2]⟩, fun H ⟨vs2, g1, g2⟩ => ⟨vs2, g1, Nat.le_of_eq g2⟩, fun i H v H' hi _ y => y⟩
      · have mo : Ex F1 F2 ∧ ∃ r, cs2 = cs1 ++ r := by
          cases st with
          | true => exact ⟨Stp.f rl, Stp.c rl⟩
          | false => exact rl
        obtain ⟨vs2, g1, g2⟩ := stay cs2 F2 H2 h2 mo.1 mo.2 S2 hc
        exact ⟨vs2, g1, g2.length⟩
      · intro i H2 v H3 cs2 F2 h2 d S2 e c hd hc ⟨y1, y2⟩
        subst y1
        obtain ⟨vs2, g1, g2⟩ := stay cs2 F2 H3 h2 e c S2 hc
        obtain ⟨v', e1, r2⟩ := g2.get hd
        rw [y2 vs2 g1] at e1
        cases e1
        exact ⟨F2, .refl, S2, r2⟩
  · exact q1.elim
theorem i_own {tg : Expr} {i : Nat} {x : Expr} (hag : agVar X.env.scope X.N i x = true) : SI C Cl X true tg (.own i) x := fun ρ h Q σ cs F H R S V w p => by
  unfold agVar at hag
  split at hag
  · rename_i id pos
    simp only [Bool.and_eq_true, decide_eq_true_eq] at hag
    obtain ⟨⟨h1, h2⟩, h3⟩ := hag
    obtain ⟨n1, n2, _⟩ := plainName_ok h3
    simp only [WpI] at w
    split at w
    · rename_i items hd
      obtain ⟨a, e1, e2, e3, vs, e4, r⟩ := V.own i _ hd
      refine wi_of (pi_list (pe_var h1 (visB_ok h2) n1 n2)) ⟨_, e1, a, rfl, ⟨vs, sq_of e4⟩, p _ items _ (fun H => SqL X.K H a vs) (YAt vs) _ _ _ _ .refl S (by rw [← r.length]; exact walk_list) (fun cs2 F2 H2 h2 rl S2 _ => ?_) ?_ w⟩
      · exact sq_of (Stp.k rl _ _ e4 e2)
      · intro j H2 v H3 cs2 F2 h2 d S2 e c hd _ ⟨y1, y2⟩
        subst y1
        obtain ⟨v', g1, r2⟩ := r.get hd
        rw [y2] at g1
        cases g1
        exact ⟨F2, .refl, S2, r2.mono e c⟩
    · exact w.elim
  · cases hag

/-! ### targets -/
def gNames : List Nat → TGs
  | [] => gNil
  | i :: is => gCons (gName i) (gNames is)
def gOf (K : PySem.W.Frag) : Tg → TG
  | .nm i => gName i
  | .tup is => gTup K is.length (gNames is)
/-- a name that may be stored to in this context -/
def Sto (sc0 : Scope) (X : Cx) : Prop := ∀ id, tgN sc0 X.env.scope id = true → Loc X.env.scope id ∧ (X.fn id = true ∨ X.env.scope.names.lookup id = some .local)
theorem pgs_names {sc0 : Scope} (nd : X.N.Nodup) (st : Sto sc0 X) : ∀ {is : List Nat} {es : List Expr}, agNames sc0 X.env.scope X.N is es = true → PGs X es (gNames is) ∧ (assignEach es X.env).length = is.length ∧ (assignEach es X.env).findIdx? (·.1) = none
  | [], [], _ => ⟨pgs_nil, rfl, rfl⟩
  | [], _ :: _, h => by simp [agNames] at h
  | i :: is, [], h => by simp [agNames] at h
  | i :: is, e :: es, h => by
    cases e <;> simp [agNames] at h
    rename_i id pos
    obtain ⟨⟨h1, h2⟩, h3⟩ := h
    obtain ⟨g1, g2, g3⟩ := pgs_names nd st h3
    obtain ⟨s1, s2⟩ := st id h2
    refine ⟨pgs_cons (pg_name nd h1 s1 s2) g1 rfl, ?_, ?_⟩
    · show (assignEach es X.env).length + 1 = is.length + 1
      rw [g2]
    · show ((false, assign (.Name id pos) X.env) :: assignEach es X.env).findIdx? (·.1) = none
      rw [List.findIdx?_cons, g3] <;> rfl
theorem pg_ok {sc0 : Scope} (nd : X.N.Nodup) (calm : X.calm = true) (st : Sto sc0 X) {tg : Tg} {x : Expr} (h : agTg sc0 X.env.scope X.N tg x = true) : PG X x (gOf X.K tg) := by
  cases tg with
  | nm i =>
    cases x <;> simp [agTg] at h
    obtain ⟨s1, s2⟩ := st _ h.2
    exact pg_name nd h.1 s1 s2
  | tup is =>
    cases x <;> simp [agTg] at h
    obtain ⟨g1, g2, g3⟩ := pgs_names nd st h
    exact pg_tup calm g1 g2 g3
theorem sets_ok {ρ' : Env} : ∀ {is : List Nat} {xs : List AV} {vs : List V} {σ : L2.St} {ρ : Env} {R : L2.St → Hp → Prop}, EnvOk K Cl cs F H σ ρ → Reps K cs F vs xs → setsS ρ is xs = some ρ' →
    (∀ σ', EnvOk K Cl cs F H σ' ρ' → (∀ own : List Nat, (∀ i ∈ is, i ∈ own) → wipe σ' own = wipe σ own) → R σ' H) → gNames is vs σ H R
  | [], [], _, σ, ρ, R, V, .nil, e, k => by
    simp [setsS] at e
    subst e
    exact ⟨rfl, k σ V fun _ _ => rfl⟩
  | [], _ :: _, _, _, _, _, _, _, e, _ => by simp [setsS] at e
  | _ :: _, [], _, _, _, _, _, _, e, _ => by simp [setsS] at e
  | i :: is, x :: xs, _, σ, ρ, R, V, .cons r rs, e, k => by
    rename_i v vs
    simp only [setsS] at e
    refine ⟨v, vs, rfl, sets_ok (V.setV r) rs e fun σ' V' hw => k σ' V' fun own ho => ?_⟩
    rw [hw own fun j hj => ho j (List.mem_cons_of_mem _ hj)]
    exact wipe_set (ho i List.mem_cons_self)
where
  wipe_set {σ : L2.St} {i : Nat} {v : Option V} : ∀ {own : List Nat}, i ∈ own → wipe (σ.set i v) own = wipe σ own
    | j :: own, h => by
      unfold wipe
      by_cases hj : i ∈ own
      · rw [wipe_set hj]
      · have e : i = j := by
          rcases List.mem_cons.mp h with e | e
          · exact e
          · exact absurd e hj
        subst e
        have : ∀ (own : List Nat) (σ : L2.St), i ∉ own → (wipe (σ.set i v) own) = (wipe σ own).set i v := by
          intro own
          induction own with
          | nil => intro σ _; rfl
          | cons k own ih =>
            intro σ hk
            unfold wipe
            rw [ih σ fun z => hk (List.mem_cons_of_mem _ z)]
            exact List.set_comm _ _ fun z => hk (z ▸ List.mem_cons_self)
        rw [this own σ hj, List.set_set]
theorem tg_ok {σ : L2.St} {ρ : Env} {tg : Tg} {d : AV} {v : V} {Q : Env → Prop} {R : L2.St → Hp → Prop} (S : StOk K Cl cs F H h) (V : EnvOk K Cl cs F H σ ρ) (r : Rep K cs F v d) (w : tgK tg d ρ Q)
    (k : ∀ σ' ρ', EnvOk K Cl cs F H σ' ρ' → (∀ own : List Nat, (∀ i ∈ tgIds tg, i ∈ own) → wipe σ' own = wipe σ own) → Q ρ' → R σ' H) : gOf K tg v σ H R := by
  cases tg with
  | nm i =>
    exact k _ _ (V.setV r) (fun own ho => sets_ok.wipe_set (ho i (by simp [tgIds]))) w
  | tup is =>
    unfold tgK at w
    simp only at w
    split at w
    · rename_i xs
      split at w
      · rename_i ρ' hs
        cases r with
        | tup g1 g2 =>
          rename_i a vs
          refine ⟨a, vs, rfl, ex_t S.sub g1, ?_, sets_ok V g2 hs fun σ' V' hw => k σ' ρ' V' hw w⟩
          have : ∀ {is : List Nat} {xs : List AV} {ρ : Env}, setsS ρ is xs = some ρ' → xs.length = is.length := by
            intro is
            induction is with
            | nil => intro xs ρ h; cases xs <;> simp [setsS] at h ⊢
            | cons i is ih => intro xs ρ h; cases xs <;> simp [setsS] at h ⊢; exact ih h
          rw [g2.length, this hs]
      · exact w.elim
    · exact w.elim

/-! ### comprehensions -/
def WEb (X : Cx) (scope : Scope) (e : Expr) : TE := fun σ H Q => ∀ (s : Shared) (H0 : Hp) (D : Addr) (cl : List (Str × Addr)) (fp : List Addr), WE (X.blk s H0 scope (compEnvC scope cl D X.env) fp) e σ H Q
def WTb (X : Cx) (scope : Scope) (e : Expr) : TT := fun σ H Q => ∀ (s : Shared) (H0 : Hp) (D : Addr) (cl : List (Str × Addr)) (fp : List Addr), WT (X.blk s H0 scope (compEnvC scope cl D X.env) fp) e σ H Q
/-- a test of a comprehension: none, or one -/
def WCb (X : Cx) (scope : Scope) : List Expr → TT
  | [] => tYes
  | c :: _ => WTb X scope c
theorem sto_blk {X : Cx} {scope : Scope} (s : Shared) (H0 : Hp) (D : Addr) (cl : List (Str × Addr)) (fp : List Addr) : Sto scope (X.blk s H0 scope (compEnvC scope cl D X.env) fp) := fun id h => by
  unfold tgN at h
  simp only [Bool.or_eq_true, Bool.and_eq_true, decide_eq_true_eq] at h
  rcases h with ⟨h1, h2⟩ | ⟨h1, h2⟩
  · exact ⟨.inl h2, .inr h2⟩
  · refine ⟨.inr h2, .inl ?_⟩
    show (scope.names.lookup id == some .cell) = true
    rw [h1]; rfl
theorem wipe_in {i : Nat} : ∀ {own : List Nat} (σ : L2.St), i ∈ own → (wipe σ own)[i]? = if i < σ.length then some none else none
  | j :: own, σ, hi => by
    unfold wipe
    by_cases hj : j = i
    · subst hj
      rw [List.getElem?_set]
      simp [wipe_length]
    · rw [List.getElem?_set_ne hj]
      exact wipe_in σ (by simpa [Ne.symm hj] using hi)
theorem wipe_idem {σ : L2.St} {own : List Nat} : wipe (wipe σ own) own = wipe σ own := by
  apply List.ext_getElem?
  intro i
  by_cases hi : i ∈ own
  · rw [wipe_in _ hi, wipe_in _ hi, wipe_length]
  · rw [wipe_out hi]
def compB (C : Ctx) (elt : E) (tg : Tg) (cond : Oe) (own : List Nat) (ρ : Env) : AV → AHeap → (Option AV → AHeap → Prop) → Prop := fun x h2 R => tgK tg x (wipeS ρ own) fun ρ2 => WpC C cond ρ2 h2 fun k h3 =>
  if k = true then WpE C false elt ρ2 h3 fun y h4 => R (some y) h4 else R none h3
/-- what stands between two turns of a comprehension -/
def CInv (K : PySem.W.Frag) (Cl : Nat → Addr) (cs1 : List Addr) (F1 H1 : Hp) (B : AV → AHeap → (Option AV → AHeap → Prop) → Prop) (chk : AHeap → Prop) (items : List AV) (Q : List AV → AHeap → Prop) (D : Addr) (i : Nat) (H' : Hp) : Prop :=
  ∃ cs2 F2 h2 acc vs, Stp cs1 F1 H1 cs2 F2 H' ∧ StOk K Cl cs2 F2 H' h2 ∧ H' D = some (.lst vs) ∧ Reps K cs2 F2 vs acc ∧ D ∉ cs2 ∧ F2 D = none ∧ acc.length ≤ i ∧ compL B chk (items.drop i) acc h2 Q
theorem n_comp {elt : E} {tg : Tg} {it : It} {cond : Oe} {own : List Nat} {y t i : Expr} {ifs : List Expr} {scope : Scope} {pos : Pos} (O : XOk C T Cl X) (hb : BlkOk X.N X.env.scope scope (ownP X.N own)) (ho : ∀ i ∈ tgIds tg, i ∈ own)
    (ht : agTg scope (relS scope X.env.scope) X.N tg t = true) (hi : SI C Cl X true t it i) (hs : notSet i = true) (he : ∀ s H0 D cl fp, SE C Cl (X.blk s H0 scope (compEnvC scope cl D X.env) fp) false elt y)
    (hc : (ifs = [] ∧ cond = .no) ∨ ∃ c e, ifs = [c] ∧ cond = .so e ∧ ∀ s H0 D cl fp, ST C Cl (X.blk s H0 scope (compEnvC scope cl D X.env) fp) e c) : ∀ ρ h Q σ cs F H R, StOk X.K Cl cs F H h → EnvOk X.K Cl cs F H σ ρ → WpN C (.comp elt tg it cond own) ρ h Q → NOk X.K Cl cs F H Q R →
      tLc (WI X t i) (gOf X.K tg) (WCb X scope ifs) (WEb X scope y) own σ H R := fun ρ h Q σ cs F H R S V w p => by
  simp only [WpN] at w
  unfold tLc
  refine hi _ _ _ _ _ _ _ _ S V w fun J items chk G Y cs1 F1 H1 h1 x1 S1 wk hG hY q1 => ?_
  obtain ⟨hlen, q1⟩ := q1
  intro D hD
  have hF1 : F1 D = none := by
    cases w : F1 D with
    | none => rfl
    | some u => rw [S1.sub _ _ w] at hD; cases hD
  have hc1 : D ∉ cs1 := fun z => by
    obtain ⟨n, hn⟩ := List.mem_iff_getElem?.mp z
    exact (S1.cell n D hn).some hD
  refine lc_it wk (CInv X.K Cl cs1 F1 H1 (compB C elt tg cond own ρ) chk items (fun acc h2 => Q (.lst acc) h2) D) ?_ ?_ ?_ ?_
  · exact ⟨cs1, F1, h1, [], [], .newN hD, S1.newN hD, upd_same, .nil, hc1, hF1, Nat.le_refl _, q1⟩
  · rintro j H' hj ⟨cs2, F2, h2, acc, vs, x2, S2, e1, e2, e3, e4, e5, e6⟩
    refine hG cs2 F2 H' h2 x2 S2 ?_
    cases hd : items.drop j with
    | nil => rw [hd] at e6; exact e6.1
    | cons d r => rw [hd] at e6; exact e6.1
  · rintro j v H' H3 hj ⟨cs2, F2, h2, acc, vs, x2, S2, e1, e2, e3, e4, e5, e6⟩ hy
    rw [List.drop_eq_getElem_cons hj] at e6
    obtain ⟨ck, e6⟩ := e6
    obtain ⟨F3, x3, S3, rv⟩ := hY j H' v H3 cs2 F2 h2 _ S2 x2.f x2.c (List.getElem?_eq_getElem hj) ck hy
    have V3 : EnvOk X.K Cl cs2 F3 H3 σ ρ := V.step ((x1.trans x2).trans x3)
    refine tg_ok S3 (V3.wipe own) rv e6 fun σ4 ρ4 V4 hw e7 => ⟨by rw [hw own ho, wipe_idem], ?_⟩
    have d3 : H3 D = some (.lst vs) := x3.k _ _ e1 e3
    have n3 : F3 D = none := by
      cases w : F3 D with
      | none => rfl
      | some o =>
        have z := x3.n D e4 (by rw [w]; simp)
        rw [e1] at z; cases z
    have x13 : Stp cs1 F1 H1 cs2 F3 H3 := x2.trans x3
    -- the test
    have test : ∀ {R2 : Bool → Hp → Prop}, BOk X.K Cl cs2 F3 H3 (fun k h3 => if k = true then WpE C false elt ρ4 h3 fun y h4 => compL (compB C elt tg cond own ρ) chk (items.drop (j + 1)) (acc ++ [y]) h4 (fun acc h2 => Q (.lst acc) h2) else compL (compB C elt tg cond own ρ) chk (items.drop (j + 1)) acc h3 (fun acc h2 => Q (.lst acc) h2)) R2 → WCb X scope ifs σ4 H3 R2 := by
      intro R2 post
      rcases hc with ⟨rfl, rfl⟩ | ⟨c, e, rfl, rfl, hc⟩
      · simp only [WpC] at e7
        exact post _ _ _ _ _ .refl S3 e7
      · simp only [WpC] at e7
        intro s H0 D' cl fp
        exact hc s H0 D' cl fp _ _ _ _ _ _ _ _ S3 V4 e7 post
    refine test fun k cs4 F4 H4 h4 x4 S4 q4 => ?_
    have d4 : H4 D = some (.lst vs) := x4.k _ _ d3 e3
    have n4 : F4 D = none := by
      cases w : F4 D with
      | none => rfl
      | some o =>
        have z := x4.n D n3 (by rw [w]; simp)
        rw [d3] at z; cases z
    have c4 : D ∉ cs4 := fun z => by
      have := x4.m D z e3
      rw [d3] at this; cases this
    cases k with
    | false =>
      rw [if_neg Bool.false_ne_true] at q4 ⊢
      exact ⟨cs4, F4, h4, acc, vs, x13.trans x4, S4, d4, (e2.mono (x3.trans x4).f (x3.trans x4).c), c4, n4, by omega, q4⟩
    | true =>
      rw [if_pos rfl] at q4 ⊢
      intro s H0 D' cl fp
      refine he s H0 D' cl fp _ _ _ _ _ _ _ _ S4 (V4.step x4) q4 fun v5 d5 cs5 F5 H5 h5 x5 S5 r5 q5 => ?_
      have d5' : H5 D = some (.lst vs) := x5.k _ _ d4 c4
      have n5 : F5 D = none := by
        cases w : F5 D with
        | none => rfl
        | some o =>
          have z := x5.n D n4 (by rw [w]; simp)
          rw [d4] at z; cases z
      have c5 : D ∉ cs5 := fun z => by
        have := x5.m D z c4
        rw [d4] at this; cases this
      have x35 := (x3.trans x4).trans x5
      have lv : vs.length = acc.length := e2.length
      refine ⟨vs, d5', by omega, cs5, F5, h5, acc ++ [d5], vs ++ [v5], ((x13.trans x4).trans x5).chgNew hD, S5.chgN n5 c5, upd_same, (e2.mono x35.f x35.c).append (.cons r5.plain .nil), c5, n5, by rw [List.length_append, List.length_singleton]; omega, q5⟩
  · rintro H' ⟨cs2, F2, h2, acc, vs, x2, S2, e1, e2, e3, e4, e5, e6⟩
    rw [List.drop_of_length_le (Nat.le_refl _)] at e6
    exact p D (.lst acc) cs2 F2 H' h2 (x1.trans x2) S2 (x1.fresh hD) e4 e3 ⟨vs, e1, e2⟩ e6.2
end
end VL

set_option maxRecDepth 100000
set_option maxHeartbeats 4000000
/-! VL: every expression that agrees with the text. -/
namespace VL
open PySem L2 Evl PyProof.Rows PySem.Spec

section
variable {C : Ctx} {T : Tab} {Cl : Nat → Addr}
theorem agEs_all {sc : Scope} {N : List Str} : ∀ {es : Es} {xs : List Expr}, agEs T sc N es xs = true → xs.all notStar = true ∧ (xs = [] → es = .nil)
  | .nil, [], _ => ⟨rfl, fun _ => rfl⟩
  | .nil, _ :: _, h => by simp [agEs] at h
  | .cons e es, [], h => by simp [agEs] at h
  | .cons e es, x :: xs, h => by
    simp only [agEs, Bool.and_eq_true] at h
    refine ⟨?_, fun z => by cases z⟩
    rw [List.all_cons, h.1.2, (agEs_all h.2).1]; rfl
theorem agC_so {sc : Scope} {N : List Str} {e : Oe} {c : Expr} (h : agC T sc N e c = true) : ∃ e', e = .so e' := by
  cases e with
  | no => simp [agC] at h
  | so e => exact ⟨e, rfl⟩
/-- what a comprehension of the text must show -/
structure CompOk (C : Ctx) (T : Tab) (Cl : Nat → Addr) (X : Cx) (elt : E) (tg : Tg) (it : It) (cond : Oe) (own : List Nat) (y t i : Expr) (ifs : List Expr) (scope : Scope) : Prop where
  hb : BlkOk X.N X.env.scope scope (ownP X.N own)
  ho : ∀ i ∈ tgIds tg, i ∈ own
  ht : agTg scope (relS scope X.env.scope) X.N tg t = true
  hi : SI C Cl X true t it i
  hs : notSet i = true
  he : ∀ s H0 D cl fp, SE C Cl (X.blk s H0 scope (compEnvC scope cl D X.env) fp) false elt y
  hc : (ifs = [] ∧ cond = .no) ∨ ∃ c e, ifs = [c] ∧ cond = .so e ∧ ∀ s H0 D cl fp, ST C Cl (X.blk s H0 scope (compEnvC scope cl D X.env) fp) e c
section
variable {X : Cx} {elt : E} {tg : Tg} {it : It} {cond : Oe} {own : List Nat} {y t i : Expr} {ifs : List Expr} {scope : Scope}
theorem CompOk.pg (K : CompOk C T Cl X elt tg it cond own y t i ifs scope) (O : XOk C T Cl X) : ∀ (s : Shared) (H0 : Hp) (D : Addr) (cl : List (Str × Addr)) (fp : List Addr), PG (X.blk s H0 scope (compEnvC scope cl D X.env) fp) t (gOf X.K tg) := fun s H0 D cl fp =>
  pg_ok (X := X.blk s H0 scope (compEnvC scope cl D X.env) fp) O.nd O.calm (sto_blk s H0 D cl fp) K.ht
theorem CompOk.pts (K : CompOk C T Cl X elt tg it cond own y t i ifs scope) : ∀ (s : Shared) (H0 : Hp) (D : Addr) (cl : List (Str × Addr)) (fp : List Addr), PTs (X.blk s H0 scope (compEnvC scope cl D X.env) fp) ifs (WCb X scope ifs) := fun s H0 D cl fp => by
  rcases K.hc with ⟨rfl, _⟩ | ⟨c, e, rfl, _, _⟩
  · exact pts_nil
  · exact pts_one ⟨fun pins s' σ H Q I h => h s H0 D cl fp pins s' I⟩
theorem CompOk.pe (K : CompOk C T Cl X elt tg it cond own y t i ifs scope) : ∀ (s : Shared) (H0 : Hp) (D : Addr) (cl : List (Str × Addr)) (fp : List Addr), PE (X.blk s H0 scope (compEnvC scope cl D X.env) fp) y (WEb X scope y) := fun s H0 D cl fp =>
  ⟨fun pins s' σ H Q I h => h s H0 D cl fp pins s' I⟩
theorem CompOk.reads (K : CompOk C T Cl X elt tg it cond own y t i ifs scope) (O : XOk C T Cl X) : ∀ ρ h Q σ cs F H R, StOk X.K Cl cs F H h → EnvOk X.K Cl cs F H σ ρ → WpN C (.comp elt tg it cond own) ρ h Q → NOk X.K Cl cs F H Q R →
    tLc (WI X t i) (gOf X.K tg) (WCb X scope ifs) (WEb X scope y) ((ownP X.N own).map (·.2)) σ H R := by
  rw [ownP_ids]
  exact n_comp O K.hb K.ho K.ht K.hi K.hs K.he K.hc (pos := ⟨0, 0, 0, 0⟩)
theorem CompOk.sn (K : CompOk C T Cl X elt tg it cond own y t i ifs scope) (O : XOk C T Cl X) {pos : Pos} : SN C Cl X (.comp elt tg it cond own) (.ListComp y [⟨t, i, ifs, 0⟩] scope pos) := fun ρ h Q σ cs F H R S V w p =>
  we_of (pe_lc O.calm O.nd pi_we K.hb (K.pg O) K.pts K.pe (folded_of K.hs _)) (K.reads O ρ h Q σ cs F H R S V w p)
end

mutual
theorem sE : ∀ (e : E) (b : Bool) (x : Expr) (X : Cx), XOk C T Cl X → agE T X.env.scope X.N e x = true → SE C Cl X b e x
  | .var i, b, x, X, O, h => s_var (by simpa only [agE] using h)
  | .vw i, b, x, X, O, h => s_vw (by simpa only [agE] using h)
  | .cint i, b, x, X, O, h => fun ρ h' Q σ cs F H R S V w p => by
    simp only [agE] at h
    split at h
    · have e := of_decide_eq_true h
      subst e
      simp only [WpE] at w
      exact we_of pe_int (p _ _ _ _ _ _ .refl S (.inl (.int i)) w)
    · cases h
  | .cstr i, b, x, X, O, h => fun ρ h' Q σ cs F H R S V w p => by
    simp only [agE] at h
    split at h
    · have e := of_decide_eq_true h
      subst e
      simp only [WpE] at w
      exact we_of pe_str (p _ _ _ _ _ _ .refl S (.inl (.str i)) w)
    · cases h
  | .cbl i, b, x, X, O, h => fun ρ h' Q σ cs F H R S V w p => by
    simp only [agE] at h
    split at h
    · have e := of_decide_eq_true h
      subst e
      simp only [WpE] at w
      exact we_of pe_bl (p _ _ _ _ _ _ .refl S (.inl (.bl i)) w)
    · cases h
  | .cnon, b, x, X, O, h => fun ρ h' Q σ cs F H R S V w p => by
    simp only [agE] at h
    split at h
    · simp only [WpE] at w
      exact we_of pe_non (p _ _ _ _ _ _ .refl S (.inl .non) w)
    · cases h
  | .glob g, b, x, X, O, h => by
    simp only [agE] at h
    split at h
    · simp only [Bool.and_eq_true, decide_eq_true_eq] at h
      exact s_glob O h.1.1 h.1.2 h.2
    · cases h
  | .bin op a c, b, x, X, O, h => by
    simp only [agE] at h
    split at h
    · simp only [Bool.and_eq_true, decide_eq_true_eq] at h
      obtain ⟨⟨rfl, h1⟩, h2⟩ := h
      exact s_bin (sE a false _ X O h1) (sE c false _ X O h2)
    · cases h
  | .neg a, b, x, X, O, h => by
    simp only [agE] at h
    split at h
    · exact s_neg (sE a false _ X O h)
    · cases h
  | .not a, b, x, X, O, h => by
    simp only [agE] at h
    split at h
    · exact s_not (sE a false _ X O h)
    · cases h
  | .cmp op a c, b, x, X, O, h => by
    simp only [agE] at h
    split at h
    · simp only [Bool.and_eq_true, decide_eq_true_eq, Bool.not_eq_true'] at h
      obtain ⟨⟨⟨rfl, h1⟩, h2⟩, h3⟩ := h
      exact s_cmp O (sE a true _ X O h1) (sE c true _ X O h2) h3
    · cases h
  | .chain o1 o2 a c d, b, x, X, O, h => by
    simp only [agE] at h
    split at h
    · simp only [Bool.and_eq_true, decide_eq_true_eq, Bool.not_eq_true'] at h
      obtain ⟨⟨⟨⟨⟨rfl, rfl⟩, h1⟩, h2⟩, h3⟩, h4⟩ := h
      exact s_chain O (sE a false _ X O h1) (sE c false _ X O h2) (sE d false _ X O h3) h4
    · cases h
  | .and a c, b, x, X, O, h => by
    simp only [agE] at h
    split at h
    · simp only [Bool.and_eq_true] at h
      exact s_and (sE a false _ X O h.1) (sE c false _ X O h.2)
    · cases h
  | .or a c, b, x, X, O, h => by
    simp only [agE] at h
    split at h
    · simp only [Bool.and_eq_true] at h
      exact s_or (sE a false _ X O h.1) (sE c false _ X O h.2)
    · cases h
  | .ite c a d, b, x, X, O, h => by
    simp only [agE] at h
    split at h
    · simp only [Bool.and_eq_true] at h
      exact s_ite (sT c _ X O h.1.1) (sE a false _ X O h.1.2) (sE d false _ X O h.2)
    · cases h
  | .tup es, b, x, X, O, h => by
    simp only [agE] at h
    split at h
    · exact s_tup (sEs es _ X O h)
    · cases h
  | .fz n, b, x, X, O, h => s_fz (sN n x X O (by simpa only [agE] using h))
  | .new n, b, x, X, O, h => s_new (sN n x X O (by simpa only [agE] using h))
  | .sub a i, b, x, X, O, h => by
    simp only [agE] at h
    split at h
    · simp only [Bool.and_eq_true] at h
      exact s_sub O (sE a true _ X O h.1.1) (sE i false _ X O h.1.2) h.2
    · cases h
  | .slice a lo hi, b, x, X, O, h => by
    simp only [agE] at h
    split at h
    · simp only [Bool.and_eq_true] at h
      exact s_slice (sE a false _ X O h.1.1) (sO lo _ X O h.1.2) (sO hi _ X O h.2)
    · cases h
  | .call f es, b, x, X, O, h => by
    simp only [agE] at h
    split at h
    · simp only [Bool.and_eq_true, decide_eq_true_eq] at h
      obtain ⟨⟨⟨h0, h1⟩, h2⟩, h3⟩ := h
      obtain ⟨q1, q2⟩ := agEs_all h3
      exact s_call O h0 h1 h2 q1 q2 (sEs es _ X O h3)
    · cases h
  | .blt bt es, b, x, X, O, h => by
    simp only [agE] at h
    split at h
    · simp only [Bool.and_eq_true, decide_eq_true_eq] at h
      obtain ⟨⟨h0, h1⟩, h3⟩ := h
      exact s_blt O h0 h1 (agEs_all h3).1 (sBs es _ X O h3)
    · cases h
  | .isi a t, b, x, X, O, h => by
    simp only [agE] at h
    split at h
    · simp only [Bool.and_eq_true, decide_eq_true_eq] at h
      obtain ⟨⟨⟨⟨⟨⟨h0, h1⟩, h2⟩, h3⟩, h4⟩, h5⟩, h6⟩ := h
      exact s_isi O h0 h1 h2 h3 h6 h5 (sE a true _ X O h4)
    · cases h
  | .smt m o a, b, x, X, O, h => by
    simp only [agE] at h
    split at h
    · simp only [Bool.and_eq_true] at h
      obtain ⟨⟨⟨⟨⟨h0, h1⟩, h2⟩, h3⟩, h4⟩, h5⟩ := h
      exact s_smt h0 (sE o false _ X O h1) (sE a true _ X O h2) h3 h4 h5
    · cases h
  | .attr a f, b, x, X, O, h => by
    simp only [agE] at h
    split at h
    · simp only [Bool.and_eq_true, decide_eq_true_eq] at h
      obtain ⟨⟨rfl, h1⟩, h2⟩ := h
      exact s_attr O (sE a false _ X O h1) h2
    · cases h
  | .mcall o m es, b, x, X, O, h => by
    simp only [agE] at h
    split at h
    · simp only [Bool.and_eq_true, decide_eq_true_eq] at h
      obtain ⟨⟨⟨⟨⟨rfl, h1⟩, h2⟩, h3⟩, h4⟩, h5⟩ := h
      exact s_mcall O (sE o false _ X O h1) h3 h4 (agEs_all h2).1 h5 (agEs_all h2).2 (sEs es _ X O h2)
    · cases h
  | .make c es, b, x, X, O, h => by
    simp only [agE] at h
    split at h
    · simp only [Bool.and_eq_true, decide_eq_true_eq] at h
      obtain ⟨⟨⟨h0, h1⟩, h2⟩, h3⟩ := h
      exact s_make O h0 h1 h2 (agEs_all h3).1 (sEs es _ X O h3)
    · cases h
  | .tru a, b, x, X, O, h => fun ρ h' Q σ cs F H R S V w p => by simp only [WpE] at w
  | .isC a c, b, x, X, O, h => by
    simp only [agE] at h
    split at h
    · simp only [Bool.and_eq_true, decide_eq_true_eq] at h
      obtain ⟨⟨⟨⟨⟨⟨h0, h1⟩, h2⟩, h3⟩, h4⟩, h5⟩, h6⟩ := h
      exact s_isC O h0 h1 h2 h3 h4 h6 (sE a false _ X O h5)
    · cases h
  | .gIn neg a g, b, x, X, O, h => by
    simp only [agE] at h
    split at h
    · simp only [Bool.and_eq_true, decide_eq_true_eq, Bool.not_eq_true'] at h
      obtain ⟨⟨⟨⟨⟨h0, h1⟩, h2⟩, h3⟩, h4⟩, h5⟩ := h
      exact s_gIn O h0 h2 h3 h4 h5 (sE a false _ X O h1)
    · cases h
  | .gGet g a, b, x, X, O, h => by
    simp only [agE] at h
    split at h
    · simp only [Bool.and_eq_true, decide_eq_true_eq] at h
      obtain ⟨⟨⟨⟨h0, h1⟩, h2⟩, h3⟩, h4⟩ := h
      exact s_gGet O h0 h1 h2 h4 (sE a false _ X O h3)
    · cases h
  | .idx l a, b, x, X, O, h => by
    simp only [agE] at h
    split at h
    · simp only [Bool.and_eq_true, decide_eq_true_eq] at h
      obtain ⟨⟨⟨⟨⟨h0, h1⟩, h2⟩, h3⟩, h4⟩, h5⟩ := h
      exact s_idx h0 (sE l true _ X O h1) (sE a false _ X O h2) h3 h4 h5
    · cases h
  | .revT a, b, x, X, O, h => by
    simp only [agE] at h
    split at h
    · exact s_revT (sE a false _ X O h)
    · cases h
theorem sT : ∀ (e : E) (x : Expr) (X : Cx), XOk C T Cl X → agE T X.env.scope X.N e x = true → ST C Cl X e x
  | .and a c, x, X, O, h => by
    simp only [agE] at h
    split at h
    · simp only [Bool.and_eq_true] at h
      exact s_andT (sT a _ X O h.1) (sT c _ X O h.2)
    · cases h
  | .or a c, x, X, O, h => by
    simp only [agE] at h
    split at h
    · simp only [Bool.and_eq_true] at h
      exact s_orT (sT a _ X O h.1) (sT c _ X O h.2)
    · cases h
  | .not a, x, X, O, h => by
    simp only [agE] at h
    split at h
    · exact s_notT (sT a _ X O h)
    · cases h
  | .cmp op a c, x, X, O, h => by
    simp only [agE] at h
    split at h
    · simp only [Bool.and_eq_true, decide_eq_true_eq, Bool.not_eq_true'] at h
      obtain ⟨⟨⟨rfl, h1⟩, h2⟩, h3⟩ := h
      exact s_cmpT O (sE a true _ X O h1) (sE c true _ X O h2) h3
    · cases h
  | .chain o1 o2 a c d, x, X, O, h => by
    simp only [agE] at h
    split at h
    · simp only [Bool.and_eq_true, decide_eq_true_eq, Bool.not_eq_true'] at h
      obtain ⟨⟨⟨⟨⟨rfl, rfl⟩, h1⟩, h2⟩, h3⟩, h4⟩ := h
      exact s_chainT O (sE a false _ X O h1) (sE c false _ X O h2) (sE d false _ X O h3) h4
    · cases h
  | .tru a, x, X, O, h => by
    simp only [agE, Bool.and_eq_true] at h
    exact s_truT (sE a false _ X O h.1) h.2
  | .cbl k, x, X, O, h => fun ρ h' Q σ cs F H R S V w p => by
    simp only [agE] at h
    split at h
    · have e := of_decide_eq_true h
      subst e
      simp only [WpT] at w
      exact wt_of (pt_truth pe_bl (plainT_ok rfl _)) ⟨_, rfl, p _ _ _ _ _ .refl S w⟩
    · cases h
  | .gIn neg a g, x, X, O, h => by
    simp only [agE] at h
    split at h
    · simp only [Bool.and_eq_true, decide_eq_true_eq, Bool.not_eq_true'] at h
      obtain ⟨⟨⟨⟨⟨h0, h1⟩, h2⟩, h3⟩, h4⟩, h5⟩ := h
      exact s_gInT O h0 h2 h3 h4 h5 (sE a false _ X O h1)
    · cases h
  | .isC _ _, _, _, _, _ => fun ρ h' Q σ cs F H R S V w p => by simp only [WpT] at w
  | .gGet _ _, _, _, _, _ => fun ρ h' Q σ cs F H R S V w p => by simp only [WpT] at w
  | .idx _ _, _, _, _, _ => fun ρ h' Q σ cs F H R S V w p => by simp only [WpT] at w
  | .revT _, _, _, _, _ => fun ρ h' Q σ cs F H R S V w p => by simp only [WpT] at w
  | .var _, _, _, _, _ => fun ρ h' Q σ cs F H R S V w p => by simp only [WpT] at w
  | .vw _, _, _, _, _ => fun ρ h' Q σ cs F H R S V w p => by simp only [WpT] at w
  | .cint _, _, _, _, _ => fun ρ h' Q σ cs F H R S V w p => by simp only [WpT] at w
  | .cstr _, _, _, _, _ => fun ρ h' Q σ cs F H R S V w p => by simp only [WpT] at w
  | .cnon, _, _, _, _ => fun ρ h' Q σ cs F H R S V w p => by simp only [WpT] at w
  | .glob _, _, _, _, _ => fun ρ h' Q σ cs F H R S V w p => by simp only [WpT] at w
  | .bin _ _ _, _, _, _, _ => fun ρ h' Q σ cs F H R S V w p => by simp only [WpT] at w
  | .neg _, _, _, _, _ => fun ρ h' Q σ cs F H R S V w p => by simp only [WpT] at w
  | .ite _ _ _, _, _, _, _ => fun ρ h' Q σ cs F H R S V w p => by simp only [WpT] at w
  | .tup _, _, _, _, _ => fun ρ h' Q σ cs F H R S V w p => by simp only [WpT] at w
  | .fz _, _, _, _, _ => fun ρ h' Q σ cs F H R S V w p => by simp only [WpT] at w
  | .new _, _, _, _, _ => fun ρ h' Q σ cs F H R S V w p => by simp only [WpT] at w
  | .sub _ _, _, _, _, _ => fun ρ h' Q σ cs F H R S V w p => by simp only [WpT] at w
  | .slice _ _ _, _, _, _, _ => fun ρ h' Q σ cs F H R S V w p => by simp only [WpT] at w
  | .call _ _, _, _, _, _ => fun ρ h' Q σ cs F H R S V w p => by simp only [WpT] at w
  | .blt _ _, _, _, _, _ => fun ρ h' Q σ cs F H R S V w p => by simp only [WpT] at w
  | .isi _ _, _, _, _, _ => fun ρ h' Q σ cs F H R S V w p => by simp only [WpT] at w
  | .smt _ _ _, _, _, _, _ => fun ρ h' Q σ cs F H R S V w p => by simp only [WpT] at w
  | .attr _ _, _, _, _, _ => fun ρ h' Q σ cs F H R S V w p => by simp only [WpT] at w
  | .mcall _ _ _, _, _, _, _ => fun ρ h' Q σ cs F H R S V w p => by simp only [WpT] at w
  | .make _ _, _, _, _, _ => fun ρ h' Q σ cs F H R S V w p => by simp only [WpT] at w
theorem sEs : ∀ (es : Es) (xs : List Expr) (X : Cx), XOk C T Cl X → agEs T X.env.scope X.N es xs = true → SA C Cl X es xs
  | .nil, xs, X, O, h => by
    simp only [agEs] at h
    split at h
    · exact s_nil
    · cases h
  | .cons e es, xs, X, O, h => by
    simp only [agEs] at h
    split at h
    · simp only [Bool.and_eq_true] at h
      exact s_cons (sE e false _ X O h.1.1) (sEs es _ X O h.2) h.1.2
    · cases h
theorem sBs : ∀ (es : Es) (xs : List Expr) (X : Cx), XOk C T Cl X → agEs T X.env.scope X.N es xs = true → SB C Cl X es xs
  | .nil, xs, X, O, h => by
    simp only [agEs] at h
    split at h
    · exact s_nilB
    · cases h
  | .cons e es, xs, X, O, h => by
    simp only [agEs] at h
    split at h
    · simp only [Bool.and_eq_true] at h
      exact s_consB (sE e true _ X O h.1.1) (sBs es _ X O h.2) h.1.2
    · cases h
theorem sO : ∀ (e : Oe) (x : Option Expr) (X : Cx), XOk C T Cl X → agO T X.env.scope X.N e x = true → SO C Cl X e x
  | .no, x, X, O, h => by
    simp only [agO] at h
    split at h
    · exact s_no
    · cases h
  | .so e, x, X, O, h => by
    simp only [agO] at h
    split at h
    · exact s_so (sE e false _ X O h)
    · cases h
theorem sC : ∀ (e : Oe) (c : Expr) (e' : E), e = .so e' → ∀ (X : Cx), XOk C T Cl X → agC T X.env.scope X.N e c = true → ST C Cl X e' c
  | .no, c, e', q, X, O, h => by cases q
  | .so e, c, e', q, X, O, h => by
    have q2 : e = e' := by injection q
    rw [← q2]
    exact sT e c X O (by simpa only [agC] using h)
theorem sN : ∀ (n : Nw) (x : Expr) (X : Cx), XOk C T Cl X → agN T X.env.scope X.N n x = true → SN C Cl X n x
  | .lst es, x, X, O, h => by
    simp only [agN] at h
    split at h
    · exact n_lst (sEs es _ X O h)
    · cases h
  | .comp elt tg it cond own, x, X, O, h => by
    simp only [agN] at h
    split at h
    · rename_i y t i ifs a scope pos
      simp only [Bool.and_eq_true, decide_eq_true_eq] at h
      obtain ⟨⟨⟨⟨⟨⟨⟨rfl, hb⟩, ho⟩, ht⟩, hi⟩, hs⟩, he⟩, hc⟩ := h
      have K : CompOk C T Cl X elt tg it cond own y t i ifs scope := by
        refine ⟨blkOk_by hb, fun j hj => by simpa using List.all_eq_true.mp ho j hj, ht, sI it true t i X O hi (fun _ => rfl), hs, fun s H0 D cl fp => sE elt false y _ (O.blk s H0 scope cl D fp) he, ?_⟩
        split at hc
        · split at hc
          · exact .inl ⟨rfl, rfl⟩
          · cases hc
        · rename_i c
          obtain ⟨e', q1⟩ := agC_so hc
          exact .inr ⟨c, e', rfl, q1, fun s H0 D cl fp => sC cond c e' q1 _ (O.blk s H0 scope cl D fp) hc⟩
        · cases hc
      exact K.sn O
    · cases h
  | .slice a lo hi, x, X, O, h => by
    simp only [agN] at h
    split at h
    · simp only [Bool.and_eq_true] at h
      exact n_slice (sE a true _ X O h.1.1) (sO lo _ X O h.1.2) (sO hi _ X O h.2)
    · cases h
  | .listOf a, x, X, O, h => by
    simp only [agN] at h
    split at h
    · simp only [Bool.and_eq_true, decide_eq_true_eq] at h
      exact n_list O h.1.1.1 h.1.1.2 h.2 (sE a true _ X O h.1.2)
    · cases h
  | .cat a c, x, X, O, h => by
    simp only [agN] at h
    split at h
    · simp only [Bool.and_eq_true, decide_eq_true_eq] at h
      obtain ⟨⟨rfl, h1⟩, h2⟩ := h
      exact n_cat (sE a true _ X O h1) (sE c true _ X O h2)
    · cases h
  | .rep a c, x, X, O, h => by
    simp only [agN] at h
    split at h
    · simp only [Bool.and_eq_true, decide_eq_true_eq] at h
      obtain ⟨⟨rfl, h1⟩, h2⟩ := h
      exact n_rep (sE a true _ X O h1) (sE c false _ X O h2)
    · cases h
  | .rev a, x, X, O, h => by
    simp only [agN] at h
    split at h
    · exact n_rev (sE a true _ X O h)
    · cases h
  | .dct1 k v, x, X, O, h => by
    simp only [agN] at h
    split at h
    · simp only [Bool.and_eq_true] at h
      exact n_dct1 (sE k false _ X O h.1) (sE v false _ X O h.2)
    · cases h
  | .split o a, x, X, O, h => by
    simp only [agN] at h
    split at h
    · simp only [Bool.and_eq_true, decide_eq_true_eq] at h
      obtain ⟨⟨⟨⟨⟨h0, h1⟩, h2⟩, h3⟩, h4⟩, h5⟩ := h
      exact n_split h0 (sE o false _ X O h1) (sE a false _ X O h2) h3 h4 h5
    · cases h
theorem sI : ∀ (it : It) (st : Bool) (tg x : Expr) (X : Cx), XOk C T Cl X → agI T X.env.scope X.N it x = true → ((∃ i, it = .own i) → st = true) → SI C Cl X st tg it x
  | .rng1 a, st, tg, x, X, O, h, _ => by
    simp only [agI] at h
    split at h
    · simp only [Bool.and_eq_true, decide_eq_true_eq] at h
      exact i_rng1 O h.1.1.1 h.1.1.2 h.2 (sE a false _ X O h.1.2)
    · cases h
  | .rng2 a c, st, tg, x, X, O, h, _ => by
    simp only [agI] at h
    split at h
    · simp only [Bool.and_eq_true, decide_eq_true_eq] at h
      obtain ⟨⟨⟨⟨⟨h0, h1⟩, h2⟩, h3⟩, h4⟩, h5⟩ := h
      exact i_rng2 O h0 h1 h3 h5 (sE a false _ X O h2) (sE c false _ X O h4)
    · cases h
  | .seq a, st, tg, x, X, O, h, _ => i_seq (sE a false _ X O (by simpa only [agI] using h))
  | .own i, st, tg, x, X, O, h, hst => by
    have e := hst ⟨i, rfl⟩
    subst e
    exact i_own (by simpa only [agI] using h)
  | .chars a, st, tg, x, X, O, h, _ => i_chars (sE a false _ X O (by simpa only [agI] using h))
end
end
end VL

set_option maxRecDepth 100000
set_option maxHeartbeats 4000000
/-! VL: statements, defs. -/
namespace VL
open PySem L2 Evl PyProof.Rows PySem.Spec

/-! ### agreement -/
def notComp : Expr → Bool
  | .ListComp _ _ _ _ => false
  | .SetComp _ _ _ _ => false
  | .DictComp _ _ _ _ _ => false
  | _ => true
def notTup : Expr → Bool
  | .Tuple _ _ _ => false
  | _ => true
def compN : E → Option Nw
  | .fz (.comp a b c d e) => some (.comp a b c d e)
  | .new (.comp a b c d e) => some (.comp a b c d e)
  | _ => none
def isCompN : Nw → Bool
  | .comp _ _ _ _ _ => true
  | _ => false
def agApp (x : Expr) : Option (Expr × Expr) := match x with
  | .Call (.Attribute o nm apos) [y] [] cpos => if (decide (nm = "append") && notSup o && (apos.endLine == cpos.line) && notStar y) = true then some (o, y) else none
  | _ => none
mutual
def agS (T : Tab) (sc : Scope) (N : List Str) : S → Stmt → Bool
  | .asg tg e, st => match st with
    | .Assign [t] x _ => agTg sc sc N tg t && agE T sc N e x && (match tg with
      | .nm _ => notComp x || (compN e).isSome
      | .tup _ => notTup x && notComp x)
    | _ => false
  | .asgO i n, st => match st with
    | .Assign [t] x _ => agTg sc sc N (.nm i) t && agN T sc N n x && (notComp x || isCompN n)
    | _ => false
  | .frz _, _ => false
  | .par _ _ _ _, _ => false
  | .aug i op e, st => match st with
    | .AugAssign (.Name id _) o x _ => decide (N[i]? = some id) && tgN sc sc id && decide (op = o) && (decide (op = .Add) || decide (op = .Sub)) && agE T sc N e x
    | _ => false
  | .app i e, st => match st with
    | .Expr x _ => match agApp x with
      | some (o, y) => agVar sc N i o && agE T sc N e y
      | none => false
    | _ => false
  | .appE o e, st => match st with
    | .Expr x _ => match agApp x with
      | some (o', y) => agE T sc N o o' && agE T sc N e y
      | none => false
    | _ => false
  | .put i k e, st => match st with
    | .Assign [.Subscript o k' _] x _ => agVar sc N i o && agE T sc N k k' && agE T sc N e x && notSlice k'
    | _ => false
  | .putE o k e, st => match st with
    | .Assign [.Subscript o' k' _] x _ => agE T sc N o o' && agE T sc N k k' && agE T sc N e x && notSlice k'
    | _ => false
  | .fld o f e, st => match st with
    | .Assign [.Attribute o' g _] x _ => decide (f = g) && agE T sc N o o' && agE T sc N e x
    | _ => false
  | .expr e, st => match st with
    | .Expr x _ => agE T sc N e x && notComp x
    | _ => false
  | .ret e, st => match st with
    | .Return (some x) _ => agE T sc N e x
    | _ => false
  | .retN, st => match st with
    | .Return none _ => true
    | _ => false
  | .ite c a b, st => match st with
    | .If x p q _ => agE T sc N c x && agSs T sc N a p && agSs T sc N b q
    | _ => false
  | .wh c b, st => match st with
    | .While x p [] _ => agE T sc N c x && agSs T sc N b p
    | _ => false
  | .for tg it b, st => match st with
    | .For t x p [] _ => agTg sc sc N tg t && agI T sc N it x && notSet x && (match it with | .own _ => false | _ => true) && agSs T sc N b p
    | _ => false
  | .pass, st => match st with
    | .Pass _ => true
    | _ => false
  | .brk, st => match st with
    | .Break _ => true
    | _ => false
  | .cont, st => match st with
    | .Continue _ => true
    | _ => false
  | .bad, _ => true
  | .rse c e, st => match st with
    | .Raise (some (.Call (.Name x _) [a] [] _)) none _ => decide (T.ename c = some x) && glB sc x && plainName x && notStar a && agE T sc N e a
    | _ => false
def agSs (T : Tab) (sc : Scope) (N : List Str) : Ss → List Stmt → Bool
  | .nil, st => match st with
    | [] => true
    | _ => false
  | .cons s r, st => match s with
    | .frz _ => agSs T sc N r st
    | s => match st with
      | x :: xs => agS T sc N s x && agSs T sc N r xs
      | [] => false
end

/-! ### what stands between statements: base of the innermost loop (csb, Fb), the def's entry (cs0, F0, H0) -/
structure Nt (K : PySem.W.Frag) (Cl : Nat → Addr) (csb : List Addr) (Fb : Hp) (cs0 : List Addr) (F0 H0 : Hp) (cs : List Addr) (F H : Hp) (h : AHeap) (σ : L2.St) (ρ : Env) : Prop where
  S : StOk K Cl cs F H h
  V : EnvOk K Cl cs F H σ ρ
  x : Stp cs0 F0 H0 cs F H
  o : ∀ i c a, getS ρ i = .own c → σ[i]? = some (some (.ref a)) → H0 a = none
  y : Ex Fb F ∧ ∃ r, cs = csb ++ r
structure DOk (X : Cx) (Cl : Nat → Addr) (csb : List Addr) (Fb : Hp) (cs0 : List Addr) (F0 H0 : Hp) (D : Kt) (D' : Ends) : Prop where
  nx : ∀ cs F H h σ ρ, Nt X.K Cl csb Fb cs0 F0 H0 cs F H h σ ρ → D.nx ρ h → D'.nx σ H
  rt : ∀ v d cs F H h, Stp cs0 F0 H0 cs F H → StOk X.K Cl cs F H h → Rep X.K cs F v d → D.rt d h → D'.rt v H
  bk : ∀ cs F H h σ ρ, Nt X.K Cl csb Fb cs0 F0 H0 cs F H h σ ρ → D.bk ρ h → D'.bk σ H
  ct : ∀ cs F H h σ ρ, Nt X.K Cl csb Fb cs0 F0 H0 cs F H h σ ρ → D.ct ρ h → D'.ct σ H
  ex : ∃ W : WX, Takes X W ∧ ∀ c n cs F H h σ ρ, Nt X.K Cl csb Fb cs0 F0 H0 cs F H h σ ρ → D.ex c n h → ∀ dd, H dd = none → W (.ref (Cl c)) (some dd) σ (upd H dd (.xd [("row", .int n)]))
/-- a class whose exceptions keep a row -/
structure ExcM (X : Cx) (x : Str) (C : Addr) : Prop where
  mg : X.mg x = some (.ref C)
  ox : OexC X.K C
  row : PySem.W.findIn X.K (.ref C) "row" = some none
  ini : ∃ fI k fd, PySem.W.findIn X.K (.ref C) "__init__" = some (some (.ref fI)) ∧ PySem.W.typeIn X.K (.ref fI) = some (.type "function") ∧ FnOk X.prog X.w X.K X.mg X.base CX0 k fI fd ["self", "row"] (spRow X.K) ∧ Room (k + 1) X.A ∧ Binds X.K fd ["self", "row"] []
structure SOk (C : Ctx) (T : Tab) (Cl : Nat → Addr) (X : Cx) : Prop extends XOk C T Cl X where
  exc : ∀ c x, T.ename c = some x → ExcM X x (Cl c)
  pass : PassesOwn (model X.prog X.w) X.A X.env X.xe
  sto : Sto X.env.scope X
def WS (X : Cx) (st : Stmt) : TS := fun D σ H => ∀ pins s, Inv X pins σ H s → wpAny (model X.prog X.w) X.A (exec st X.env) (SP X pins D) X.xe s
def WSs (X : Cx) (st : List Stmt) : TS := fun D σ H => ∀ pins s, Inv X pins σ H s → wpAny (model X.prog X.w) X.A (execs st X.env) (SP X pins D) X.xe s
section
variable {X : Cx}
theorem ps_we {e : Stmt} : PS X e (WS X e) := ⟨fun pins s σ H D I h => h pins s I⟩
theorem pss_we {e : List Stmt} : PSs X e (WSs X e) := ⟨fun pins s σ H D I h => h pins s I⟩
theorem ws_of {e : Stmt} {t : TS} (p : PS X e t) {σ : L2.St} {H : Hp} {D : Ends} (h : t D σ H) : WS X e D σ H := fun pins s I => p.run pins s σ H D I h
theorem wss_of {e : List Stmt} {t : TS} (p : PSs X e t) {σ : L2.St} {H : Hp} {D : Ends} (h : t D σ H) : WSs X e D σ H := fun pins s I => p.run pins s σ H D I h
end
section
variable (C : Ctx) (Cl : Nat → Addr)
def SS (X : Cx) (s : S) (st : Stmt) : Prop := ∀ csb Fb cs0 F0 H0 D D' ρ h σ cs F H, DOk X Cl csb Fb cs0 F0 H0 D D' → Nt X.K Cl csb Fb cs0 F0 H0 cs F H h σ ρ → WpS C s D ρ h → WS X st D' σ H
def SSs (X : Cx) (s : Ss) (st : List Stmt) : Prop := ∀ csb Fb cs0 F0 H0 D D' ρ h σ cs F H, DOk X Cl csb Fb cs0 F0 H0 D D' → Nt X.K Cl csb Fb cs0 F0 H0 cs F H h σ ρ → WpSs C s D ρ h → WSs X st D' σ H
end
section
variable {C : Ctx} {T : Tab} {Cl : Nat → Addr} {X : Cx} {K : PySem.W.Frag} {csb cs0 cs cs' : List Addr} {Fb F0 H0 F F' H H' : Hp} {h h' : AHeap} {σ σ' : L2.St} {ρ ρ' : Env}
theorem Nt.step (n : Nt K Cl csb Fb cs0 F0 H0 cs F H h σ ρ) (x : Stp cs F H cs' F' H') (S : StOk K Cl cs' F' H' h') : Nt K Cl csb Fb cs0 F0 H0 cs' F' H' h' σ ρ :=
  ⟨S, n.V.step x, n.x.trans x, n.o, n.y.1.trans x.f, by
    obtain ⟨r, e⟩ := n.y.2
    obtain ⟨r2, e2⟩ := x.c
    exact ⟨r ++ r2, by rw [e2, e, List.append_assoc]⟩⟩
theorem Nt.setV (n : Nt K Cl csb Fb cs0 F0 H0 cs F H h σ ρ) {i : Nat} {v : L2.V} {d : AV} (r : Rep K cs F v d) : Nt K Cl csb Fb cs0 F0 H0 cs F H h (σ.set i (some v)) (setS ρ i (.val d)) :=
  ⟨n.S, n.V.setV r, n.x, fun j c a h1 h2 => by
    by_cases hj : i = j
    · subst hj
      by_cases hi : i < ρ.length
      · rw [getS_set_same hi] at h1; cases h1
      · rw [setS_out (by omega)] at h1
        exact absurd (getS_lt (ρ := ρ) (i := i) (by rw [h1]; simp)) hi
    · rw [getS_set_ne hj] at h1
      rw [List.getElem?_set_ne hj] at h2
      exact n.o j c a h1 h2, n.y⟩
theorem upd_self {H : Hp} {a : Addr} {o : HO} (e : H a = some o) : upd H a o = H := by
  funext b
  unfold upd
  split
  · rename_i q; rw [q, e]
  · rfl
theorem set_self {σ : L2.St} {i : Nat} {v : Option V} (e : σ[i]? = some v) : σ.set i v = σ := by
  apply List.ext_getElem?
  intro j
  by_cases hj : i = j
  · subst hj
    rw [List.getElem?_set_self (List.getElem?_eq_some_iff.mp e).1, e]
  · rw [List.getElem?_set_ne hj]
/-- a slot's own cell -/
theorem Nt.setO (n : Nt K Cl csb Fb cs0 F0 H0 cs F H h σ ρ) {i : Nat} {a : Addr} {c : Cell} {o : HO} (n0 : H0 a = none) (n1 : a ∉ cs) (n2 : F a = none) (r : COk K Cl cs F (upd H a o) a c)
    (old : ∀ j c', j ≠ i → getS ρ j = .own c' → σ[j]? ≠ some (some (.ref a))) : Nt K Cl csb Fb cs0 F0 H0 cs F (upd H a o) h (σ.set i (some (.ref a))) (setS ρ i (.own c)) :=
  ⟨n.S.chgN n2 n1, n.V.setO n1 n2 r old, n.x.chgNew n0, fun j c a' h1 h2 => by
    by_cases hj : i = j
    · subst hj
      by_cases hi : i < ρ.length
      · rw [List.getElem?_set_self (by rw [← n.V.len]; exact hi)] at h2
        cases h2
        exact n0
      · rw [setS_out (by omega)] at h1
        exact absurd (getS_lt (ρ := ρ) (i := i) (by rw [h1]; simp)) hi
    · rw [getS_set_ne hj] at h1
      rw [List.getElem?_set_ne hj] at h2
      exact n.o j c a' h1 h2, n.y⟩
/-- a slot's own cell becomes a value -/
theorem Nt.frz (n : Nt K Cl csb Fb cs0 F0 H0 cs F H h σ ρ) {i : Nat} {c : Cell} {d : AV} (e : getS ρ i = .own c) (q : (∃ xs, c = .lst xs ∧ d = .lst xs) ∨ ∃ xs, c = .dct xs ∧ d = .dct xs) : ∃ F', Nt K Cl csb Fb cs0 F0 H0 cs F' H h σ (setS ρ i (.val d)) := by
  obtain ⟨a, e1, n1, n2, r⟩ := n.V.own i c e
  have n0 := n.o i c a e e1
  have core : ∀ o, H a = some o → Rep K cs (upd F a o) (.ref a) d → ∃ F', Nt K Cl csb Fb cs0 F0 H0 cs F' H h σ (setS ρ i (.val d)) := by
    intro o ho rd
    have ex : Ex F (upd F a o) := Ex.new n2
    refine ⟨upd F a o, ?_⟩
    have hi : i < ρ.length := getS_lt (by rw [e]; simp)
    have hs : i < σ.length := by rw [← n.V.len]; exact hi
    refine ⟨n.S.freeze n2 n1 ho, ⟨by rw [setS_length]; exact n.V.len, fun j d' h1 => ?_, fun j c' h1 => ?_, fun j k c1 c2 b ne h1 h2 h3 => ?_⟩, ⟨n.x.f.trans ex, n.x.c, n.x.k, n.x.d, fun b q1 q2 => ?_, n.x.m⟩, fun j c' b h1 h2 => ?_, n.y.1.trans ex, n.y.2⟩
    · by_cases hj : i = j
      · subst hj
        rw [getS_set_same hi] at h1
        cases h1
        exact ⟨_, e1, rd⟩
      · rw [getS_set_ne hj] at h1
        obtain ⟨v, g1, g2⟩ := n.V.val j d' h1
        exact ⟨v, g1, g2.mono ex ⟨[], by simp⟩⟩
    · have hj : i ≠ j := fun z => by subst z; rw [getS_set_same hi] at h1; cases h1
      rw [getS_set_ne hj] at h1
      obtain ⟨b, g1, g2, g3, g4⟩ := n.V.own j c' h1
      refine ⟨b, g1, g2, ?_, g4.mono ex ⟨[], by simp⟩ fun _ z => z⟩
      rw [upd_ne]
      · exact g3
      · intro z
        subst z
        exact n.V.dis i j c c' b hj e h1 e1 g1
    · have h1' : i ≠ j := fun z => by subst z; rw [getS_set_same hi] at h1; cases h1
      have h2' : i ≠ k := fun z => by subst z; rw [getS_set_same hi] at h2; cases h2
      rw [getS_set_ne h1'] at h1
      rw [getS_set_ne h2'] at h2
      exact n.V.dis j k c1 c2 b ne h1 h2 h3
    · by_cases hb : b = a
      · subst hb; exact n0
      · rw [upd_ne hb] at q2
        exact n.x.n b q1 q2
    · have hj : i ≠ j := fun z => by subst z; rw [getS_set_same hi] at h1; cases h1
      rw [getS_set_ne hj] at h1
      exact n.o j c' b h1 h2
  rcases q with ⟨xs, rfl, rfl⟩ | ⟨xs, rfl, rfl⟩
  · obtain ⟨vs, g1, g2⟩ := r
    exact core _ g1 (.lst upd_same (g2.mono (Ex.new n2) ⟨[], by simp⟩))
  · obtain ⟨vs, g1, g2⟩ := r
    exact core _ g1 (.dct upd_same (g2.mono (Ex.new n2) ⟨[], by simp⟩))
theorem DOk.seq {D : Kt} {D' : Ends} {A : Env → AHeap → Prop} {A' : L2.St → Hp → Prop} (d : DOk X Cl csb Fb cs0 F0 H0 D D') (k : ∀ cs F H h σ ρ, Nt X.K Cl csb Fb cs0 F0 H0 cs F H h σ ρ → A ρ h → A' σ H) :
    DOk X Cl csb Fb cs0 F0 H0 { D with nx := A } { D' with nx := A' } := ⟨k, d.rt, d.bk, d.ct, d.ex⟩

/-! ### each statement -/
theorem swaps_plain {x : Expr} (hx : notComp x = true) (t : Option Expr) (l : Nat) (env : PySem.Env) : swapsWith x t l env = pure false := by
  cases x <;> first | rfl | cases hx
theorem swaps_other {x t : Expr} (ht : ∀ id p, t ≠ .Name id p) (l : Nat) (env : PySem.Env) : swapsWith x (some t) l env = pure false := by
  cases x <;> first | rfl | (cases t <;> first | rfl | exact absurd rfl (ht _ _))
def swB (sc scope : Scope) (id : Str) (pl xl : Nat) : Bool := decide (sc.names.lookup id = some .local) && (pl == xl) && !(scope.names.any fun (n, k) => n == id && (k == .local || k == .cell))
theorem sw_false {elt : Expr} {gs : List Comprehension} {scope : Scope} {pos py : Pos} {y : Str} {l : Nat} {env : PySem.Env} (hk : env.scope.kind = .function) (h : swB env.scope scope y py.line pos.line = false) :
    swapsWith (.ListComp elt gs scope pos) (some (.Name y py)) l env = pure false := by
  have hb : env.blockKind = .function := by unfold Env.blockKind; rw [hk]; rfl
  unfold swapsWith
  unfold swB at h
  have ky : (env.kindOf y == some .local) = decide (env.scope.names.lookup y = some .local) := by
    show (env.scope.names.lookup y == some .local) = _
    cases q : env.scope.names.lookup y with
    | none => rfl
    | some k => cases k <;> rfl
  simp only [hb, ky, Expr.pos]
  show pure ((ScopeKind.function == ScopeKind.function && decide (env.scope.names.lookup y = some .local) && (py.line == pos.line)) && !(scope.names.any fun (n, k) => n == y && (k == .local || k == .cell))) = pure false
  have : (ScopeKind.function == ScopeKind.function) = true := rfl
  rw [this, Bool.true_and, h]
/-- a comprehension given to a name -/
theorem comp_set {elt : E} {tg : Tg} {it : It} {cond : Oe} {own : List Nat} {y t i : Expr} {ifs : List Expr} {scope : Scope} {pos spos p' : Pos} {id : Str} {j : Nat} (O : SOk C T Cl X) (Kp : CompOk C T Cl X elt tg it cond own y t i ifs scope)
    (hj : X.N[j]? = some id) (hid : tgN X.env.scope X.env.scope id = true) {ρ : Env} {h : AHeap} {Q : Cell → AHeap → Prop} {D : Ends} (S : StOk X.K Cl cs F H h) (V : EnvOk X.K Cl cs F H σ ρ) (hk : X.env.scope.kind = .function) (w : WpN C (.comp elt tg it cond own) ρ h Q)
    (p : NOk X.K Cl cs F H Q (fun v H1 => D.nx (σ.set j (some v)) H1)) : WS X (.Assign [.Name id p'] (.ListComp y [⟨t, i, ifs, 0⟩] scope pos) spos) D σ H := by
  obtain ⟨s1, s2⟩ := O.sto id hid
  cases hs : swB X.env.scope scope id p'.line pos.line with
  | false => exact ws_of (ps_set O.nd hj s1 pe_we (sw_false hk hs) s2) (Kp.sn O.toXOk _ _ _ _ _ _ _ _ S V w p)
  | true =>
    unfold swB at hs
    simp only [Bool.and_eq_true, decide_eq_true_eq, Bool.not_eq_true'] at hs
    exact ws_of (ps_setLc O.calm O.nd hj hs.1.1 (sw_true hk hs.1.1 hs.1.2 hs.2) pi_we Kp.hb (Kp.pg O.toXOk) Kp.pts Kp.pe (folded_of Kp.hs _)) (Kp.reads O.toXOk _ _ _ _ _ _ _ _ S V w p)
theorem comp_of {elt : E} {tg : Tg} {it : It} {cond : Oe} {own : List Nat} {x : Expr} (O : XOk C T Cl X) (h : agN T X.env.scope X.N (.comp elt tg it cond own) x = true) :
    ∃ y t i ifs scope pos, x = .ListComp y [⟨t, i, ifs, 0⟩] scope pos ∧ CompOk C T Cl X elt tg it cond own y t i ifs scope := by
  simp only [agN] at h
  split at h
  · rename_i y t i ifs a scope pos
    simp only [Bool.and_eq_true, decide_eq_true_eq] at h
    obtain ⟨⟨⟨⟨⟨⟨⟨rfl, hb⟩, ho⟩, ht⟩, hi⟩, hs⟩, he⟩, hc⟩ := h
    refine ⟨y, t, i, ifs, scope, pos, rfl, blkOk_by hb, fun j hj => by simpa using List.all_eq_true.mp ho j hj, ht, sI it true t i X O hi (fun _ => rfl), hs, fun s H0 D cl fp => sE elt false y _ (O.blk s H0 scope cl D fp) he, ?_⟩
    split at hc
    · split at hc
      · exact .inl ⟨rfl, rfl⟩
      · cases hc
    · rename_i c
      obtain ⟨e', q1⟩ := agC_so hc
      exact .inr ⟨c, e', rfl, q1, fun s H0 D cl fp => sC cond c e' q1 _ (O.blk s H0 scope cl D fp) hc⟩
    · cases hc
  · cases h
theorem st_asg {tg : Tg} {e : E} {st : Stmt} (O : SOk C T Cl X) (hk : X.env.scope.kind = .function) (hag : agS T X.env.scope X.N (.asg tg e) st = true) : SS C Cl X (.asg tg e) st := fun csb Fb cs0 F0 H0 D D' ρ h σ cs F H d n w => by
  simp only [agS] at hag
  split at hag
  · rename_i t x pos
    simp only [Bool.and_eq_true] at hag
    obtain ⟨⟨ht, he⟩, hx⟩ := hag
    simp only [WpS] at w
    cases tg with
    | nm i =>
      simp only [agTg] at ht
      split at ht
      · rename_i id p'
        simp only [Bool.and_eq_true, decide_eq_true_eq] at ht
        obtain ⟨s1, s2⟩ := O.sto id ht.2
        have fin : EOk X.K Cl false cs F H (fun x h1 => tgK (.nm i) x ρ fun ρ' => D.nx ρ' h1) (fun v H1 => D'.nx (σ.set i (some v)) H1) := fun v d2 cs2 F2 H2 h2 y S r q =>
          d.nx _ _ _ _ _ _ ((n.step y S).setV r.plain) q
        simp only [Bool.or_eq_true] at hx
        rcases hx with hx | hx
        · exact ws_of (ps_set O.nd ht.1 s1 pe_we (swaps_plain hx _ _ _) s2) (sE e false x X O.toXOk he _ _ _ _ _ _ _ _ n.S n.V w fin)
        · cases hc : compN e with
          | none => rw [hc] at hx; cases hx
          | some n0 =>
            unfold compN at hc
            split at hc
            · cases hc
              simp only [agE] at he
              obtain ⟨y, t', i', ifs, scope, pos', rfl, Kp⟩ := comp_of O.toXOk he
              simp only [WpE] at w
              exact comp_set O Kp ht.1 ht.2 n.S n.V hk w (NOk.fz fin)
            · cases hc
              simp only [agE] at he
              obtain ⟨y, t', i', ifs, scope, pos', rfl, Kp⟩ := comp_of O.toXOk he
              simp only [WpE] at w
              exact comp_set O Kp ht.1 ht.2 n.S n.V hk w (NOk.new fin)
            · cases hc
      · cases ht
    | tup is =>
      simp only [Bool.and_eq_true] at hx
      have hw : swappedStores [t] x X.env = pure none := by
        cases t <;> first | (simp [agTg] at ht; done) | (cases x <;> first | rfl | cases hx.1)
      have hs : swapsWithSole [t] x pos.line X.env = pure false := swaps_plain hx.2 _ _ _
      refine ws_of (ps_asg pe_we (pg_ok O.nd O.calm O.sto ht) hs hw (by cases t <;> first | (simp [agTg] at ht; done) | rfl)) (sE e false x X O.toXOk he _ _ _ _ _ _ _ _ n.S n.V w fun v d2 cs2 F2 H2 h2 y S r q => ?_)
      have n2 := n.step y S
      -- the names are set one after another
      unfold tgK at q
      simp only at q
      split at q
      · rename_i xs
        split at q
        · rename_i ρ' hs2
          have r := r.plain
          cases r with
          | tup g1 g2 =>
            rename_i a vs
            have hl : ∀ {is : List Nat} {xs : List AV} {ρ : Env}, setsS ρ is xs = some ρ' → xs.length = is.length := by
              intro is
              induction is with
              | nil => intro xs ρ h; cases xs <;> simp [setsS] at h ⊢
              | cons i is ih => intro xs ρ h; cases xs <;> simp [setsS] at h ⊢; exact ih h
            refine ⟨a, vs, rfl, ex_t S.sub g1, by rw [g2.length, hl hs2], ?_⟩
            have go : ∀ {is : List Nat} {xs : List AV} {vs : List V} {σ : L2.St} {ρ : Env}, Nt X.K Cl csb Fb cs0 F0 H0 cs2 F2 H2 h2 σ ρ → Reps X.K cs2 F2 vs xs → setsS ρ is xs = some ρ' → gNames is vs σ H2 D'.nx := by
              intro is
              induction is with
              | nil =>
                intro xs vs σ ρ n r e
                cases r with
                | nil => simp [setsS] at e; subst e; exact ⟨rfl, d.nx _ _ _ _ _ _ n q⟩
                | cons _ _ => simp [setsS] at e
              | cons i is ih =>
                intro xs vs σ ρ n r e
                cases r with
                | nil => simp [setsS] at e
                | cons r rs =>
                  simp only [setsS] at e
                  exact ⟨_, _, rfl, ih (n.setV r) rs e⟩
            exact go n2 g2 hs2
        · exact q.elim
      · exact q.elim
  · cases hag
theorem own_old (V : EnvOk K Cl cs F H σ ρ) {i : Nat} {c : Cell} {a : Addr} (e : getS ρ i = .own c) (q : σ[i]? = some (some (.ref a))) : ∀ j c', j ≠ i → getS ρ j = .own c' → σ[j]? ≠ some (some (.ref a)) := fun j c' hj h1 =>
  V.dis i j c c' a (Ne.symm hj) e h1 q
theorem st_asgO {i : Nat} {m : Nw} {st : Stmt} (O : SOk C T Cl X) (hk : X.env.scope.kind = .function) (hag : agS T X.env.scope X.N (.asgO i m) st = true) : SS C Cl X (.asgO i m) st := fun csb Fb cs0 F0 H0 D D' ρ h σ cs F H d n w => by
  simp only [agS] at hag
  split at hag
  · rename_i t x pos
    simp only [Bool.and_eq_true] at hag
    obtain ⟨⟨ht, he⟩, hx⟩ := hag
    simp only [WpS] at w
    simp only [agTg] at ht
    split at ht
    · rename_i id p'
      simp only [Bool.and_eq_true, decide_eq_true_eq] at ht
      obtain ⟨s1, s2⟩ := O.sto id ht.2
      have fin : NOk X.K Cl cs F H (fun c h1 => D.nx (setS ρ i (.own c)) h1) (fun v H1 => D'.nx (σ.set i (some v)) H1) := fun a c cs2 F2 H2 h2 y S n1 n2 n3 r q => by
        have hs : H2 a ≠ none := r.some
        have n' := n.step y S
        cases ho : H2 a with
        | none => exact absurd ho hs
        | some o =>
          have e : upd H2 a o = H2 := upd_self ho
          have z := n'.setO (i := i) (o := o) (n.x.fresh n1) n3 n2 (by rw [e]; exact r) fun j c' hj h1 h2 => by
            obtain ⟨b, g1, _, _, g4⟩ := n.V.own j c' h1
            rw [g1] at h2
            cases h2
            exact g4.some n1
          rw [e] at z
          exact d.nx _ _ _ _ _ _ z q
      simp only [Bool.or_eq_true] at hx
      rcases hx with hx | hx
      · exact ws_of (ps_set O.nd ht.1 s1 pe_we (swaps_plain hx _ _ _) s2) (sN m x X O.toXOk he _ _ _ _ _ _ _ _ n.S n.V w fin)
      · cases m with
        | comp a b c e f =>
          obtain ⟨y, t', i', ifs, scope, pos', rfl, Kp⟩ := comp_of O.toXOk he
          exact comp_set O Kp ht.1 ht.2 n.S n.V hk w fin
        | _ => cases hx
    · cases ht
  · cases hag
theorem st_aug {i : Nat} {op : Operator} {e : E} {st : Stmt} (O : SOk C T Cl X) (hag : agS T X.env.scope X.N (.aug i op e) st = true) : SS C Cl X (.aug i op e) st := fun csb Fb cs0 F0 H0 D D' ρ h σ cs F H d n w => by
  simp only [agS] at hag
  split at hag
  · rename_i id p' o x pos
    simp only [Bool.and_eq_true, Bool.or_eq_true, decide_eq_true_eq] at hag
    obtain ⟨⟨⟨⟨h1, h2⟩, rfl⟩, h4⟩, h5⟩ := hag
    obtain ⟨s1, s2⟩ := O.sto id h2
    simp only [WpS] at w
    split at w
    · rename_i x0 hx0
      obtain ⟨v0, e0, r0⟩ := n.V.val i x0 hx0
      have fin : ∀ {f : Int → Int → Int}, (∀ x y Q, augK op x y Q → ∃ a b, x = .int a ∧ y = .int b ∧ Q (.int (f a b))) → tAug i (WE X x) (ipI f) D' σ H := by
        intro f hf
        refine ⟨v0, e0, sE e false x X O.toXOk h5 _ _ _ _ _ _ _ _ n.S n.V w fun v1 d1 cs1 F1 H1 h1 x1 S1 r1 q1 => ?_⟩
        obtain ⟨a, b, rfl, rfl, q⟩ := hf _ _ _ q1
        have := r1.int
        subst this
        cases r0
        exact ⟨a, b, rfl, rfl, d.nx _ _ _ _ _ _ ((n.step x1 S1).setV (.int _)) q⟩
      rcases h4 with rfl | rfl
      · refine ws_of (ps_aug O.nd h1 s1 pe_we ip_add s2) (fin fun x y Q q => ?_)
        cases x <;> cases y <;> first | exact ⟨_, _, rfl, rfl, q⟩ | exact q.elim
      · refine ws_of (ps_aug O.nd h1 s1 pe_we ip_sub s2) (fin fun x y Q q => ?_)
        cases x <;> cases y <;> first | exact ⟨_, _, rfl, rfl, q⟩ | exact q.elim
    · exact w.elim
  · cases hag
theorem app_ps {o y : Expr} {x : Expr} {pos : Pos} {to : TE} (hx : agApp x = some (o, y)) (ho : PE X o to) : PS X (.Expr x pos) (tDrop (tBM X.K "list" rAppend to (tCons (WE X y) tNil))) := by
  unfold agApp at hx
  split at hx
  · rename_i o' nm apos y' cpos
    split at hx
    · rename_i hc
      cases hx
      simp only [Bool.and_eq_true, decide_eq_true_eq] at hc
      obtain ⟨⟨⟨rfl, h2⟩, h3⟩, h4⟩ := hc
      refine ps_expr (pe_bm PySem.F.plainAttrs_list PySem.F.slot_list_append PySem.F.type_list_append mt_append ho (pa_cons pe_we pa_nil (star_cons h4 _ _)) (base_of h2 _ _) ?_ h3 (star_cons h4 _ _) rfl) rfl
      rw [star_cons h4]
      rfl
    · cases hx
  · cases hx
theorem st_app {i : Nat} {e : E} {st : Stmt} (O : SOk C T Cl X) (hag : agS T X.env.scope X.N (.app i e) st = true) : SS C Cl X (.app i e) st := fun csb Fb cs0 F0 H0 D D' ρ h σ cs F H d n w => by
  simp only [agS] at hag
  split at hag
  · rename_i x pos
    split at hag
    · rename_i o y hx
      simp only [Bool.and_eq_true] at hag
      obtain ⟨ha, he⟩ := hag
      unfold agVar at ha
      split at ha
      · rename_i id p'
        simp only [Bool.and_eq_true, decide_eq_true_eq] at ha
        obtain ⟨⟨h1, h2⟩, h3⟩ := ha
        obtain ⟨n1, n2, _⟩ := plainName_ok h3
        simp only [WpS] at w
        have po : PE X (.Name id p') (fun σ H Q => ∃ v, σ[i]? = some (some v) ∧ Q v H) := pe_var h1 (visB_ok h2) n1 n2
        split at w
        · rename_i xs hc
          obtain ⟨a, e1, m1, m2, vs, e2, r⟩ := n.V.own i _ hc
          have n0 := n.o i _ a hc e1
          refine ws_of (app_ps hx po) ⟨_, e1, .inl ⟨rfl, vs, sq_of e2⟩, ?_⟩
          refine sE e false y X O.toXOk he _ _ _ _ _ _ _ _ n.S n.V w fun v1 d1 cs1 F1 H1 h1 x1 S1 r1 q1 => ?_
          have nn := n.step x1 S1
          have e2' : H1 a = some (.lst vs) := x1.k _ _ e2 m1
          have m1' : a ∉ cs1 := fun z => by have := x1.m a z m1; rw [e2] at this; cases this
          have m2' : F1 a = none := by
            cases w : F1 a with
            | none => rfl
            | some o =>
              have z := x1.n a m2 (by rw [w]; simp)
              rw [e2] at z; cases z
          refine ⟨a, vs, v1, rfl, rfl, e2', by rw [r.length]; exact q1.1, ?_⟩
          have z := nn.setO (i := i) (o := .lst (vs ++ [v1])) (c := .lst (xs ++ [d1])) n0 m1' m2' ⟨_, upd_same, (r.mono x1.f x1.c).append (.cons r1.plain .nil)⟩ (own_old nn.V hc e1)
          rw [set_self e1] at z
          exact d.nx _ _ _ _ _ _ z q1.2
        · exact w.elim
      · cases ha
    · cases hag
  · cases hag
theorem Nt.cellSet (n : Nt K Cl csb Fb cs0 F0 H0 cs F H h σ ρ) {m : Nat} {a : Addr} {c : Cell} {o : HO} (e : cs[m]? = some a) (r : COk K Cl cs F (upd H a o) a c) : Nt K Cl csb Fb cs0 F0 H0 cs F (upd H a o) (h.set m c) σ ρ := by
  have x2 : Stp cs F H cs F (upd H a o) := Stp.chg (List.mem_of_getElem? e)
  exact ⟨n.S.cellSet e r, n.V.step x2, n.x.trans x2, n.o, n.y⟩
theorem st_appE {o e : E} {st : Stmt} (O : SOk C T Cl X) (hag : agS T X.env.scope X.N (.appE o e) st = true) : SS C Cl X (.appE o e) st := fun csb Fb cs0 F0 H0 D D' ρ h σ cs F H d n w => by
  simp only [agS] at hag
  split at hag
  · rename_i x pos
    split at hag
    · rename_i o' y hx
      simp only [Bool.and_eq_true] at hag
      simp only [WpS] at w
      refine ws_of (app_ps hx pe_we) (sE o false o' X O.toXOk hag.1 _ _ _ _ _ _ _ _ n.S n.V w fun v1 d1 cs1 F1 H1 h1 x1 S1 r1 q1 => ?_)
      have n1 := n.step x1 S1
      split at q1
      · rename_i m
        split at q1
        · rename_i xs0 hc0
          have r1 := r1.plain
          cases r1 with
          | adr g1 =>
            rename_i a
            obtain ⟨vs0, g2, g3⟩ := cell_at S1 g1 hc0
            refine ⟨.inl ⟨rfl, vs0, sq_of g2⟩, ?_⟩
            refine sE e false y X O.toXOk hag.2 _ _ _ _ _ _ _ _ S1 n1.V q1 fun v2 d2 cs2 F2 H2 h2 x2 S2 r2 q2 => ?_
            have n2 := n1.step x2 S2
            unfold appC at q2
            split at q2
            · rename_i xs hc
              have g1' : cs2[m]? = some a := let ⟨_, q⟩ := x2.c; get_pre q g1
              obtain ⟨vs, k1, k2⟩ := cell_at S2 g1' hc
              refine ⟨a, vs, v2, rfl, rfl, k1, by rw [k2.length]; exact q2.1, ?_⟩
              exact d.nx _ _ _ _ _ _ (n2.cellSet g1' (show COk X.K Cl cs2 F2 _ a (.lst (xs ++ [d2])) from ⟨_, upd_same, k2.append (.cons r2.plain .nil)⟩)) q2.2
            · exact q2.elim
        · exact q1.elim
      · exact q1.elim
    · cases hag
  · cases hag
/-- o[k] = v by its weakest reading -/
def PSW (X : Cx) : TSet := fun o i v H Q => ∀ (pins : List (Addr × Obj)) (s : Shared) (σ : L2.St) (ov iv u : Value), Inv X pins σ H s → RelV o ov → RelV i iv → RelV v u → wpAny (model X.prog X.w) X.A (setItem ov iv u) (fun _ s' => ∃ H', Inv X pins σ H' s' ∧ Q H') X.xe s
theorem psw_ok : PSet X (PSW X) := fun pins s σ H o i v ov iv u Q I r1 r2 r3 h => h pins s σ ov iv u I r1 r2 r3
theorem psw_of {t : TSet} (p : PSet X t) {o i v : V} {H : Hp} {Q : Hp → Prop} (h : t o i v H Q) : PSW X o i v H Q := fun pins s σ ov iv u I r1 r2 r3 => p pins s σ H o i v ov iv u Q I r1 r2 r3 h
theorem set_dict (hu : X.A.units + 1 < cLine) : PSet X (fun o i v H Q => ∃ a H', o = .ref a ∧ DPut H a i v H' ∧ Q H') := by
  intro pins s σ H o i v ov iv u Q I r1 r2 r3 h
  obtain ⟨a, H', rfl, g, q⟩ := h
  cases r1
  exact d_setItem hu I g r2 r3 fun s' I' => ⟨H', I', q⟩
theorem putC_ok (hu : X.A.units + 1 < cLine) {a : Addr} {c : Cell} {k d : AV} {i v : V} {Q : Cell → Prop} {R : Hp → Prop} {b : Bool} (r : COk X.K Cl cs F H a c) (rk : RepB X.K cs F H b i k) (rv : Rep X.K cs F v d) (q : putC c k d Q)
    (p : ∀ o c', COk X.K Cl cs F (upd H a o) a c' → Q c' → R (upd H a o)) : PSW X (.ref a) i v H R := by
  unfold putC at q
  split at q
  · rename_i xs
    obtain ⟨vs, e1, e2⟩ := r
    split at q
    · cases rk.int
      split at q
      · rename_i j hj
        rw [← e2.length] at hj
        exact psw_of set_list ⟨a, vs, _, j, rfl, rfl, e1, hj, p _ (.lst (xs.set j d)) ⟨_, upd_same, e2.set rv j⟩ q⟩
      · exact q.elim
    · exact q.elim
  · rename_i kvs
    obtain ⟨us, e1, e2⟩ := r
    split at q
    · rename_i kk hk
      cases rk.key hk
      refine psw_of (set_dict hu) ⟨a, _, rfl, .k e1 ?_, p _ (.dct (putD kvs kk d)) ⟨_, upd_same, e2.put rv⟩ q.2⟩
      rw [e2.length, sizeLine_eq]
      have := q.1
      omega
    · exact q.elim
  · exact q.elim
theorem put_ps {o k x : Expr} {to : TE} {pk pos : Pos} (ho : PE X o to) (hk : notSlice k = true) : PS X (.Assign [.Subscript o k pk] x pos) (tAsg (WE X x) (gSub to (WE X k) (PSW X))) := by
  refine ps_asg pe_we (pg_sub ho pe_we psw_ok ?_) ?_ ?_
  · intro _
    cases k <;> first | rfl | cases hk
  · show swapsWith x (some (.Subscript o k pk)) pos.line X.env = pure false
    exact swaps_other (t := .Subscript o k pk) (fun _ _ z => by cases z) _ _
  · cases x <;> rfl
theorem st_put {i : Nat} {k e : E} {st : Stmt} (O : SOk C T Cl X) (hag : agS T X.env.scope X.N (.put i k e) st = true) : SS C Cl X (.put i k e) st := fun csb Fb cs0 F0 H0 D D' ρ h σ cs F H d n w => by
  simp only [agS] at hag
  split at hag
  · rename_i o k' pk x pos
    simp only [Bool.and_eq_true] at hag
    obtain ⟨⟨⟨ha, hk⟩, he⟩, hns⟩ := hag
    unfold agVar at ha
    split at ha
    · rename_i id p'
      simp only [Bool.and_eq_true, decide_eq_true_eq] at ha
      obtain ⟨⟨h1, h2⟩, h3⟩ := ha
      obtain ⟨n1, n2, _⟩ := plainName_ok h3
      simp only [WpS] at w
      split at w
      · rename_i c hc
        obtain ⟨a, e1, m1, m2, r⟩ := n.V.own i _ hc
        have n0 := n.o i _ a hc e1
        refine ws_of (put_ps (pe_var h1 (visB_ok h2) n1 n2) hns) (sE e false x X O.toXOk he _ _ _ _ _ _ _ _ n.S n.V w fun v1 d1 cs1 F1 H1 h1 x1 S1 r1 q1 => ?_)
        refine ⟨_, e1, ?_⟩
        refine sE k false k' X O.toXOk hk _ _ _ _ _ _ _ _ S1 (n.V.step x1) q1 fun v2 d2 cs2 F2 H2 h2 x2 S2 r2 q2 => ?_
        have x12 := x1.trans x2
        have nn := n.step x12 S2
        have hs := r.some
        have m1' : a ∉ cs2 := fun z => hs (x12.m a z m1)
        have m2' : F2 a = none := by
          cases w : F2 a with
          | none => rfl
          | some o => exact absurd (x12.n a m2 (by rw [w]; simp)) hs
        have r' : COk X.K Cl cs2 F2 H2 a c := r.mono x12.f x12.c fun o ho => x12.k a o ho m1
        refine putC_ok (by have := O.units; omega) r' r2 (r1.plain.mono x2.f x2.c) q2 fun o c' g1 g2 => ?_
        have z := nn.setO (i := i) (o := o) (c := c') n0 m1' m2' g1 (own_old nn.V hc e1)
        rw [set_self e1] at z
        exact d.nx _ _ _ _ _ _ z g2
      · exact w.elim
    · cases ha
  · cases hag
theorem st_putE {o k e : E} {st : Stmt} (O : SOk C T Cl X) (hag : agS T X.env.scope X.N (.putE o k e) st = true) : SS C Cl X (.putE o k e) st := fun csb Fb cs0 F0 H0 D D' ρ h σ cs F H d n w => by
  simp only [agS] at hag
  split at hag
  · rename_i o' k' pk x pos
    simp only [Bool.and_eq_true] at hag
    obtain ⟨⟨⟨ho, hk⟩, he⟩, hns⟩ := hag
    simp only [WpS] at w
    refine ws_of (put_ps pe_we hns) (sE e false x X O.toXOk he _ _ _ _ _ _ _ _ n.S n.V w fun v1 d1 cs1 F1 H1 h1 x1 S1 r1 q1 => ?_)
    refine sE o false o' X O.toXOk ho _ _ _ _ _ _ _ _ S1 (n.V.step x1) q1 fun v2 d2 cs2 F2 H2 h2 x2 S2 r2 q2 => ?_
    refine sE k false k' X O.toXOk hk _ _ _ _ _ _ _ _ S2 ((n.V.step x1).step x2) q2 fun v3 d3 cs3 F3 H3 h3 x3 S3 r3 q3 => ?_
    split at q3
    · rename_i m
      have r2 := r2.plain
      cases r2 with
      | adr g1 =>
        rename_i a
        have g1' : cs3[m]? = some a := let ⟨_, q⟩ := x3.c; get_pre q g1
        have x23 := x2.trans x3
        exact putC_ok (by have := O.units; omega) (S3.cell m a g1') r3 (r1.plain.mono x23.f x23.c) q3 fun o c' k1 k2 =>
          d.nx _ _ _ _ _ _ ((n.step ((x1.trans x2).trans x3) S3).cellSet g1' k1) k2
    · exact q3.elim
  · cases hag

theorem st_fld {o e : E} {f : Str} {st : Stmt} (O : SOk C T Cl X) (hag : agS T X.env.scope X.N (.fld o f e) st = true) : SS C Cl X (.fld o f e) st := fun csb Fb cs0 F0 H0 D D' ρ h σ cs F H d n w => by
  simp only [agS] at hag
  split at hag
  · rename_i o' g pk x pos
    simp only [Bool.and_eq_true, decide_eq_true_eq] at hag
    obtain ⟨⟨rfl, ho⟩, he⟩ := hag
    simp only [WpS] at w
    refine ws_of (ps_fld pe_we pe_we (swaps_other (t := .Attribute o' f pk) (fun _ _ z => by cases z) _ _)) (sE e false x X O.toXOk he _ _ _ _ _ _ _ _ n.S n.V w fun v1 d1 cs1 F1 H1 h1 x1 S1 r1 q1 => ?_)
    refine sE o false o' X O.toXOk ho _ _ _ _ _ _ _ _ S1 (n.V.step x1) q1 fun v2 d2 cs2 F2 H2 h2 x2 S2 r2 q2 => ?_
    split at q2
    · rename_i m
      split at q2
      · rename_i c fs hc
        obtain ⟨hf, hl, q2⟩ := q2
        obtain ⟨a, rfl, e2⟩ := Rep.adr_inv r2.plain
        obtain ⟨dx, fvs, e3, r⟩ := obj_at S2 e2 hc
        refine ⟨a, Cl c, dx, fvs, rfl, e3, (O.fld c f hf).1, (O.fld c f hf).2, by rw [r.length]; exact hl, ?_⟩
        exact d.nx _ _ _ _ _ _ ((n.step (x1.trans x2) S2).cellSet e2 (show COk X.K Cl cs2 F2 _ a (.obj c (putFA f d1 fs)) from ⟨dx, _, upd_same, r.put (r1.plain.mono x2.f x2.c)⟩)) q2
      · exact q2.elim
    · exact q2.elim
  · cases hag
theorem st_ite {c : E} {a b : Ss} {x : Expr} {p q : List Stmt} {pos : Pos} (O : SOk C T Cl X) (hc : agE T X.env.scope X.N c x = true) (ha : SSs C Cl X a p) (hb : SSs C Cl X b q) : SS C Cl X (.ite c a b) (.If x p q pos) := fun csb Fb cs0 F0 H0 D D' ρ h σ cs F H d n w => by
  simp only [WpS] at w
  refine ws_of (ps_if pt_we pss_we pss_we) (sT c x X O.toXOk hc _ _ _ _ _ _ _ _ n.S n.V w fun k cs1 F1 H1 h1 x1 S1 q1 => ?_)
  cases k with
  | true =>
    rw [if_pos rfl] at q1 ⊢
    exact ha _ _ _ _ _ _ _ _ _ _ _ _ _ d (n.step x1 S1) q1
  | false =>
    rw [if_neg Bool.false_ne_true] at q1 ⊢
    exact hb _ _ _ _ _ _ _ _ _ _ _ _ _ d (n.step x1 S1) q1
theorem st_wh {c : E} {b : Ss} {x : Expr} {p : List Stmt} {pos : Pos} (O : SOk C T Cl X) (hc : agE T X.env.scope X.N c x = true) (hb : SSs C Cl X b p) : SS C Cl X (.wh c b) (.While x p [] pos) := fun csb Fb cs0 F0 H0 D D' ρ h σ cs F H d n w => by
  simp only [WpS] at w
  obtain ⟨Wv, ⟨m0, w0⟩, turn⟩ := w
  refine ws_of (ps_while O.pass pt_we pss_we) ⟨fun m σ H => ∃ cs F h ρ, Nt X.K Cl csb Fb cs0 F0 H0 cs F H h σ ρ ∧ Wv m ρ h, ⟨m0, cs, F, h, ρ, n, w0⟩, ?_⟩
  rintro m σ' H' ⟨cs', F', h', ρ', n', w'⟩
  refine sT c x X O.toXOk hc _ _ _ _ _ _ _ _ n'.S n'.V (turn m ρ' h' w') fun k cs1 F1 H1 h1 x1 S1 q1 => ?_
  cases k with
  | true =>
    rw [if_pos rfl] at q1 ⊢
    refine ⟨fun σ H => ∃ m', m' < m ∧ ∃ cs F h ρ, Nt X.K Cl csb Fb cs0 F0 H0 cs F H h σ ρ ∧ Wv m' ρ h, fun σ2 H2 hq => hq, ?_⟩
    refine hb _ _ _ _ _ { D with nx := fun ρ' h' => ∃ m', m' < m ∧ Wv m' ρ' h', ct := fun ρ' h' => ∃ m', m' < m ∧ Wv m' ρ' h', bk := D.nx } _ _ _ _ _ _ _ ⟨?_, d.rt, d.nx, ?_, d.ex⟩ (n'.step x1 S1) q1
    · rintro cs2 F2 H2 h2 σ2 ρ2 n2 ⟨m', hm, w2⟩
      exact ⟨m', hm, cs2, F2, h2, ρ2, n2, w2⟩
    · rintro cs2 F2 H2 h2 σ2 ρ2 n2 ⟨m', hm, w2⟩
      exact ⟨m', hm, cs2, F2, h2, ρ2, n2, w2⟩
  | false =>
    rw [if_neg Bool.false_ne_true] at q1 ⊢
    exact d.nx _ _ _ _ _ _ (n'.step x1 S1) q1
theorem Nt.base (n : Nt K Cl csb Fb cs0 F0 H0 cs F H h σ ρ) : Nt K Cl cs F cs0 F0 H0 cs F H h σ ρ := ⟨n.S, n.V, n.x, n.o, fun _ _ z => z, [], by simp⟩
theorem Nt.unbase {cs1 : List Addr} {F1 : Hp} (n : Nt K Cl cs1 F1 cs0 F0 H0 cs F H h σ ρ) (y : Ex Fb F1 ∧ ∃ r, cs1 = csb ++ r) : Nt K Cl csb Fb cs0 F0 H0 cs F H h σ ρ := ⟨n.S, n.V, n.x, n.o, y.1.trans n.y.1, by
  obtain ⟨r, e⟩ := n.y.2
  obtain ⟨r2, e2⟩ := y.2
  exact ⟨r2 ++ r, by rw [e, e2, List.append_assoc]⟩⟩
theorem nt_tg {σ : L2.St} {ρ : Env} {tg : Tg} {d : AV} {v : L2.V} {Q : Env → Prop} {R : L2.St → Hp → Prop} (n : Nt K Cl csb Fb cs0 F0 H0 cs F H h σ ρ) (r : Rep K cs F v d) (w : tgK tg d ρ Q)
    (k : ∀ σ' ρ', Nt K Cl csb Fb cs0 F0 H0 cs F H h σ' ρ' → Q ρ' → R σ' H) : gOf K tg v σ H R := by
  cases tg with
  | nm i => exact k _ _ (n.setV r) w
  | tup is =>
    unfold tgK at w
    simp only at w
    split at w
    · rename_i xs
      split at w
      · rename_i ρ' hs2
        cases r with
        | tup g1 g2 =>
          rename_i a vs
          have hl : ∀ {is : List Nat} {xs : List AV} {ρ : Env}, setsS ρ is xs = some ρ' → xs.length = is.length := by
            intro is
            induction is with
            | nil => intro xs ρ h; cases xs <;> simp [setsS] at h ⊢
            | cons i is ih => intro xs ρ h; cases xs <;> simp [setsS] at h ⊢; exact ih h
          refine ⟨a, vs, rfl, ex_t n.S.sub g1, by rw [g2.length, hl hs2], ?_⟩
          have go : ∀ {is : List Nat} {xs : List AV} {vs : List L2.V} {σ : L2.St} {ρ : Env}, Nt K Cl csb Fb cs0 F0 H0 cs F H h σ ρ → Reps K cs F vs xs → setsS ρ is xs = some ρ' → gNames is vs σ H R := by
            intro is
            induction is with
            | nil =>
              intro xs vs σ ρ n r e
              cases r with
              | nil => simp [setsS] at e; subst e; exact ⟨rfl, k _ _ n w⟩
              | cons _ _ => simp [setsS] at e
            | cons i is ih =>
              intro xs vs σ ρ n r e
              cases r with
              | nil => simp [setsS] at e
              | cons r rs =>
                simp only [setsS] at e
                exact ⟨_, _, rfl, ih (n.setV r) rs e⟩
          exact go n g2 hs2
      · exact w.elim
    · exact w.elim
theorem st_for {tg : Tg} {it : It} {b : Ss} {t x : Expr} {p : List Stmt} {pos : Pos} (O : SOk C T Cl X) (ht : agTg X.env.scope X.env.scope X.N tg t = true) (hi : agI T X.env.scope X.N it x = true) (hs : notSet x = true) (ho : ∀ i, it ≠ .own i)
    (hb : SSs C Cl X b p) : SS C Cl X (.for tg it b) (.For t x p [] pos) := fun csb Fb cs0 F0 H0 D D' ρ h σ cs F H d n w => by
  simp only [WpS] at w
  refine ws_of (ps_for O.pass O.calm pi_we (pg_ok O.nd O.calm O.sto ht) pss_we (folded_of hs _)) ?_
  refine sI it false t x X O.toXOk hi (fun ⟨i, e⟩ => absurd e (ho i)) _ _ _ _ _ _ _ _ n.S n.V w fun J items chk G Y cs1 F1 H1 h1 x1 S1 wk hG hY q1 => ?_
  have n1 := n.step x1 S1
  refine for_it wk (fun i σ' H' => ∃ cs2 F2 h2 ρ2, Nt X.K Cl cs1 F1 cs0 F0 H0 cs2 F2 H' h2 σ' ρ2 ∧ forL (fun x D ρ h => tgK tg x ρ fun ρ' => WpSs C b D ρ' h) chk D (items.drop i) ρ2 h2) ?_ ?_ ?_ ?_
  · exact ⟨cs1, F1, h1, ρ, n1.base, q1⟩
  · rintro i σ' H' hi ⟨cs2, F2, h2, ρ2, n2, q2⟩
    refine hG cs2 F2 H' h2 n2.y n2.S ?_
    cases hd : items.drop i with
    | nil => rw [hd] at q2; exact q2.1
    | cons z r => rw [hd] at q2; exact q2.1
  · rintro i v σ' H' H3 hi ⟨cs2, F2, h2, ρ2, n2, q2⟩ hy
    rw [List.drop_eq_getElem_cons hi] at q2
    obtain ⟨ck, q2⟩ := q2
    obtain ⟨F3, x3, S3, rv⟩ := hY i H' v H3 cs2 F2 h2 _ n2.S n2.y.1 n2.y.2 (List.getElem?_eq_getElem hi) ck hy
    have n3 := n2.step x3 S3
    refine nt_tg n3 rv q2 fun σ4 ρ4 n4 q4 => ?_
    refine hb _ _ _ _ _ { D with nx := forL (fun x D ρ h => tgK tg x ρ fun ρ' => WpSs C b D ρ' h) chk D (items.drop (i + 1)), ct := forL (fun x D ρ h => tgK tg x ρ fun ρ' => WpSs C b D ρ' h) chk D (items.drop (i + 1)), bk := D.nx } _ _ _ _ _ _ _ ⟨?_, d.rt, ?_, ?_, d.ex.imp fun W z => ⟨z.1, fun c n cs F H h σ ρ n5 => z.2 c n cs F H h σ ρ (n5.unbase n1.y)⟩⟩ n4 q4
    · intro cs5 F5 H5 h5 σ5 ρ5 n5 q5
      exact ⟨cs5, F5, h5, ρ5, n5, q5⟩
    · intro cs5 F5 H5 h5 σ5 ρ5 n5 q5
      exact d.nx _ _ _ _ _ _ (n5.unbase n1.y) q5
    · intro cs5 F5 H5 h5 σ5 ρ5 n5 q5
      exact ⟨cs5, F5, h5, ρ5, n5, q5⟩
  · rintro σ' H' ⟨cs2, F2, h2, ρ2, n2, q2⟩
    rw [List.drop_of_length_le (Nat.le_refl _)] at q2
    exact d.nx _ _ _ _ _ _ (n2.unbase n1.y) q2.2
end

/-! ### raise -/
section
variable {C : Ctx} {T : Tab} {Cl : Nat → Addr} {X : Cx}
theorem upd_twice {H : Hp} {a : Addr} {o o2 : HO} : upd (upd H a o) a o2 = upd H a o2 := by
  funext b
  unfold upd
  split <;> rfl
theorem st_rse {c : Nat} {e : E} {st : Stmt} (O : SOk C T Cl X) (hag : agS T X.env.scope X.N (.rse c e) st = true) : SS C Cl X (.rse c e) st := fun csb Fb cs0 F0 H0 D D' ρ h σ cs F H d n w => by
  simp only [agS] at hag
  split at hag
  · rename_i x p a cpos pos
    simp only [Bool.and_eq_true, decide_eq_true_eq] at hag
    obtain ⟨⟨⟨⟨h1, h2⟩, h3⟩, h4⟩, h5⟩ := hag
    have M := O.exc c x h1
    obtain ⟨fI, k, fd, i1, i2, F1, room, bnd⟩ := M.ini
    obtain ⟨W, tk, hW⟩ := d.ex
    have ha : PA X [a] (tCons (WE X a) tNil) := pa_cons pe_we pa_nil (star_cons h4 _ _)
    have P1 := pmk_oex (p := p) (pos := cpos) (CX := CX0) M.ox i1 i2 F1 room bnd (dvs := []) .nil (fun _ _ _ _ _ _ _ z => False.elim z) (glB_ok h2) M.mg ha (plainName_ok h3).1 (star_cons h4 _ _) rfl
    refine ws_of (ps_raise O.calm tk P1) ?_
    simp only [WpS] at w
    refine sE e false a X O.toXOk h5 _ _ _ _ _ _ _ _ n.S n.V w fun v1 d1 cs1 F1 H1 h1 x1 S1 r1 q1 => ?_
    split at q1
    · rename_i z
      cases r1.int
      refine ⟨by simp, fun a0 ha0 => ?_⟩
      refine ⟨a0, Cl c, z, by simp, M.ox, M.row, upd_same, fun dx hdx hne => ⟨rfl, dx, [("row", .int z)], upd_same, ?_, ?_, ?_⟩⟩
      · rw [upd_ne hne, upd_same]
      · rw [upd_ne hne] at hdx; exact hdx
      · rw [upd_ne hne] at hdx
        have e2 : upd (del (upd (upd (upd H1 a0 (exo a0 (Cl c) none)) dx (exd dx [("row", .int z)])) a0 (exo a0 (Cl c) (some dx))) a0) dx (.xd [("row", .int z)]) = upd H1 dx (.xd [("row", .int z)]) := by
          funext b
          by_cases hb : b = dx
          · subst hb; rw [upd_same, upd_same]
          · rw [upd_ne hb, upd_ne hb]
            by_cases hc : b = a0
            · subst hc; rw [del_same, ha0]
            · rw [del_ne hc, upd_ne hc, upd_ne hb, upd_ne hc]
        have := hW c z _ _ _ _ _ _ (n.step x1 S1) q1 dx hdx
        rw [← e2] at this
        exact this
    · exact q1.elim
  · cases hag
end

/-! ### every statement that agrees -/
section
variable {C : Ctx} {T : Tab} {Cl : Nat → Addr} {X : Cx}
theorem agSs_cons {sc : Scope} {N : List Str} {s : S} {r : Ss} {st : List Stmt} (h : agSs T sc N (.cons s r) st = true) : (∃ i, s = .frz i ∧ agSs T sc N r st = true) ∨ ∃ x xs, st = x :: xs ∧ agS T sc N s x = true ∧ agSs T sc N r xs = true := by
  cases s with
  | frz i => exact .inl ⟨i, rfl, by simpa only [agSs] using h⟩
  | _ =>
    right
    cases st with
    | nil => simp [agSs] at h
    | cons x xs =>
      simp only [agSs, Bool.and_eq_true] at h
      exact ⟨_, _, rfl, h.1, h.2⟩
mutual
theorem sS (O : SOk C T Cl X) (hk : X.env.scope.kind = .function) : ∀ (s : S) (st : Stmt), agS T X.env.scope X.N s st = true → SS C Cl X s st
  | .asg tg e, st, h => st_asg O hk h
  | .asgO i n, st, h => st_asgO O hk h
  | .frz i, st, h => by simp [agS] at h
  | .par _ _ _ _, st, h => by simp [agS] at h
  | .aug i op e, st, h => st_aug O h
  | .app i e, st, h => st_app O h
  | .appE o e, st, h => st_appE O h
  | .put i k e, st, h => st_put O h
  | .putE o k e, st, h => st_putE O h
  | .fld o f e, st, h => st_fld O h
  | .expr e, st, h => fun csb Fb cs0 F0 H0 D D' ρ h' σ cs F H d n w => by
    simp only [agS] at h
    split at h
    · simp only [Bool.and_eq_true] at h
      simp only [WpS] at w
      exact ws_of (ps_expr pe_we (swaps_plain h.2 _ _ _)) (sE e false _ X O.toXOk h.1 _ _ _ _ _ _ _ _ n.S n.V w fun v1 d1 cs1 F1 H1 h1 x1 S1 r1 q1 => d.nx _ _ _ _ _ _ (n.step x1 S1) q1)
    · cases h
  | .ret e, st, h => fun csb Fb cs0 F0 H0 D D' ρ h' σ cs F H d n w => by
    simp only [agS] at h
    split at h
    · simp only [WpS] at w
      exact ws_of (ps_ret pe_we) (sE e false _ X O.toXOk h _ _ _ _ _ _ _ _ n.S n.V w fun v1 d1 cs1 F1 H1 h1 x1 S1 r1 q1 => d.rt _ _ _ _ _ _ (n.x.trans x1) S1 r1.plain q1)
    · cases h
  | .retN, st, h => fun csb Fb cs0 F0 H0 D D' ρ h' σ cs F H d n w => by
    simp only [agS] at h
    split at h
    · simp only [WpS] at w
      exact ws_of ps_retN (d.rt _ _ _ _ _ _ n.x n.S .non w)
    · cases h
  | .ite c a b, st, h => by
    simp only [agS] at h
    split at h
    · simp only [Bool.and_eq_true] at h
      exact st_ite O h.1.1 (sSs O hk a _ h.1.2) (sSs O hk b _ h.2)
    · cases h
  | .wh c b, st, h => by
    simp only [agS] at h
    split at h
    · simp only [Bool.and_eq_true] at h
      exact st_wh O h.1 (sSs O hk b _ h.2)
    · cases h
  | .for tg it b, st, h => by
    simp only [agS] at h
    split at h
    · simp only [Bool.and_eq_true] at h
      obtain ⟨⟨⟨⟨h1, h2⟩, h3⟩, h4⟩, h5⟩ := h
      refine st_for O h1 h2 h3 ?_ (sSs O hk b _ h5)
      intro i e
      subst e
      cases h4
    · cases h
  | .pass, st, h => fun csb Fb cs0 F0 H0 D D' ρ h' σ cs F H d n w => by
    simp only [agS] at h
    split at h
    · simp only [WpS] at w
      exact ws_of ps_pass (d.nx _ _ _ _ _ _ n w)
    · cases h
  | .brk, st, h => fun csb Fb cs0 F0 H0 D D' ρ h' σ cs F H d n w => by
    simp only [agS] at h
    split at h
    · simp only [WpS] at w
      exact ws_of ps_break (d.bk _ _ _ _ _ _ n w)
    · cases h
  | .cont, st, h => fun csb Fb cs0 F0 H0 D D' ρ h' σ cs F H d n w => by
    simp only [agS] at h
    split at h
    · simp only [WpS] at w
      exact ws_of ps_continue (d.ct _ _ _ _ _ _ n w)
    · cases h
  | .bad, st, h => fun csb Fb cs0 F0 H0 D D' ρ h' σ cs F H d n w => by
    simp only [WpS] at w
  | .rse c e, st, h => st_rse O h
theorem sSs (O : SOk C T Cl X) (hk : X.env.scope.kind = .function) : ∀ (s : Ss) (st : List Stmt), agSs T X.env.scope X.N s st = true → SSs C Cl X s st
  | .nil, st, h => fun csb Fb cs0 F0 H0 D D' ρ h' σ cs F H d n w => by
    simp only [agSs] at h
    split at h
    · simp only [WpSs] at w
      exact wss_of pss_nil (d.nx _ _ _ _ _ _ n w)
    · cases h
  | .cons s r, st, h => fun csb Fb cs0 F0 H0 D D' ρ h' σ cs F H d n w => by
    simp only [WpSs] at w
    rcases agSs_cons h with ⟨i, rfl, h⟩ | ⟨x, xs, rfl, h1, h2⟩
    · simp only [WpS] at w
      split at w
      · rename_i xs hx
        obtain ⟨F', n'⟩ := n.frz hx (.inl ⟨xs, rfl, rfl⟩)
        exact sSs O hk r st h _ _ _ _ _ _ _ _ _ _ _ _ _ d n' w
      · rename_i xs hx
        obtain ⟨F', n'⟩ := n.frz hx (.inr ⟨xs, rfl, rfl⟩)
        exact sSs O hk r st h _ _ _ _ _ _ _ _ _ _ _ _ _ d n' w
      · exact w.elim
    · refine wss_of (pss_cons ps_we pss_we) (sS O hk s _ h1 _ _ _ _ _ _ { D' with nx := WSs X _ D' } _ _ _ _ _ _ (d.seq fun cs2 F2 H2 h2' σ2 ρ2 n2 q2 => ?_) n w)
      exact sSs O hk r _ h2 _ _ _ _ _ _ _ _ _ _ _ _ _ d n2 q2
end
end
end VL

set_option maxRecDepth 100000
set_option maxHeartbeats 4000000
/-! VL: defs that try a call. -/
namespace VL
open PySem L2 Evl PyProof.Rows PySem.Spec
/-! ### what a clause lays -/
inductive Grow : Hp → Hp → Prop where
  | refl {H : Hp} : Grow H H
  | new {H H' : Hp} {p : Addr} {o : HO} : Grow H H' → H' p = none → Grow H (upd H' p o)
theorem Grow.trans {H H' H'' : Hp} (g : Grow H H') (k : Grow H' H'') : Grow H H'' := by
  induction k with
  | refl => exact g
  | new _ h ih => exact .new ih h
theorem Grow.keep {H H' : Hp} (g : Grow H H') {b : Addr} {o : HO} (e : H b = some o) : H' b = some o := by
  induction g with
  | refl => exact e
  | @new H' p o' _ h ih =>
    have : b ≠ p := fun z => by subst z; rw [ih] at h; cases h
    rw [upd_ne this]; exact ih
theorem Grow.step {K : PySem.W.Frag} {Cl : Nat → Addr} {cs : List Addr} {F H H' : Hp} {h : AHeap} (g : Grow H H') (S : StOk K Cl cs F H h) : StOk K Cl cs F H' h ∧ Stp cs F H cs F H' := by
  induction g with
  | refl => exact ⟨S, .refl⟩
  | new _ hp ih => exact ⟨ih.1.newN hp, ih.2.trans (Stp.newN hp)⟩
/-! ### agreement -/
def agEv (sc : Scope) (N : List Str) (i : Nat) (x : Expr) : Bool := match x with
  | .Name id _ => decide (N[i]? = some id) && decide (sc.names.lookup id = some .local) && plainName id
  | _ => false
def agXs (T : Tab) (sc : Scope) : List Nat → List Expr → Bool
  | [], xs => match xs with
    | [] => true
    | _ => false
  | d :: ds, xs => match xs with
    | .Name id _ :: r => decide (T.xname d = some id) && glB sc id && plainName id && agXs T sc ds r
    | _ => false
def agHB (T : Tab) (sc : Scope) (N : List Str) (i : Nat) : HB → Expr → Bool
  | .isC d, x => match x with
    | .Call (.Name id _) [y, .Name id2 _] [] _ => decide (id = "isinstance") && glB sc id && agEv sc N i y && notStar y && decide (T.xname d = some id2) && glB sc id2 && plainName id2
    | _ => false
  | .isT ds, x => match x with
    | .Call (.Name id _) [y, .Tuple xs _ _] [] _ => decide (id = "isinstance") && glB sc id && agEv sc N i y && notStar y && agXs T sc ds xs && decide (ds.length < 100)
    | _ => false
  | .isVE, x => match x with
    | .Call (.Name id _) [y, .Name id2 _] [] _ => decide (id = "isinstance") && glB sc id && agEv sc N i y && notStar y && decide (id2 = "ValueError") && glB sc id2
    | _ => false
  | .row, x => match x with
    | .Call (.Name id _) [.Attribute y f _, .Name id2 _] [] _ => decide (id = "isinstance") && glB sc id && agEv sc N i y && notSup y && decide (f = "row") && decide (id2 = "bool") && glB sc id2
    | _ => false
  | .and a b, x => match x with
    | .BoolOp .And (y :: z :: rest) p => agHB T sc N i a y && agHB T sc N i b (tail2 .And z p rest)
    | _ => false
  | .or a b, x => match x with
    | .BoolOp .Or (y :: z :: rest) p => agHB T sc N i a y && agHB T sc N i b (tail2 .Or z p rest)
    | _ => false
  | .not a, x => match x with
    | .UnaryOp .Not y _ => agHB T sc N i a y
    | _ => false
def agRow (sc : Scope) (N : List Str) (i : Nat) (x : Expr) : Bool := match x with
  | .Attribute y f _ => agEv sc N i y && notSup y && decide (f = "row")
  | _ => false
def agHE (T : Tab) (sc : Scope) (N : List Str) (i : Nat) : HE → Expr → Bool
  | .non, x => match x with
    | .Constant .none _ _ => true
    | _ => false
  | .bl b, x => match x with
    | .Constant (.bool j) _ _ => decide (b = j)
    | _ => false
  | .row, x => agRow sc N i x
  | .hb b, x => agHB T sc N i b x
  | .pair z, x => match x with
    | .Tuple [.Constant (.str y) _ _, w] _ _ => decide (z = y) && agRow sc N i w && notStar w
    | _ => false
def agGs (T : Tab) (sc : Scope) (N : List Str) (i : Nat) (fin : Option HE) : List (HB × HE) → List Stmt → Bool
  | [], st => match fin with
    | none => match st with
      | [] => true
      | _ => false
    | some e => match st with
      | [.Return (some x) _] => agHE T sc N i e x
      | _ => false
  | (b, e) :: r, st => match st with
    | .If t [.Return (some x) _] [] _ :: st' => agHB T sc N i b t && agHE T sc N i e x && agGs T sc N i fin r st'
    | _ => false
/-- what the written part says of a caught class -/
structure Cau (K : PySem.W.Frag) (P : Prg) (Cl : Nat → Addr) (c : Nat) : Prop where
  D : ExcD K (Cl c)
  F : XfC K (Cl c)
  row : PySem.W.findIn K (.ref (Cl c)) "row" = some none
  ve : PySem.W.kitOne K (.ref (Cl c)) (.type "ValueError") = some true
  sub : ∀ d b, P.sub.lookup (c, d) = some b → PySem.W.kitOne K (.ref (Cl c)) (.ref (Cl d)) = some b
section
variable {T : Tab} {Cl : Nat → Addr} {X : Cx} {P : Prg} {a dd : Addr} {oe : Obj} {pn : List (Addr × Obj)} {c i : Nat} {n : Int}
theorem agXs_ok (hx : ∀ d x, T.xname d = some x → X.mg x = some (.ref (Cl d))) : ∀ (ds : List Nat) (xs : List Expr), agXs T X.env.scope ds xs = true →
    ∃ t : TA, PA (X.suite a ((a, oe) :: pn)) xs t ∧ ∀ σ H Q, Q (ds.map fun d => V.ref (Cl d)) H → t σ H Q
  | [], xs, h => by
    simp only [agXs] at h
    split at h
    · exact ⟨_, pa_nil, fun σ H Q q => q⟩
    · cases h
  | d :: ds, xs, h => by
    simp only [agXs] at h
    split at h
    · rename_i id p xs
      simp only [Bool.and_eq_true, decide_eq_true_eq] at h
      obtain ⟨⟨⟨h1, h2⟩, h3⟩, h4⟩ := h
      obtain ⟨t, pt, ht⟩ := agXs_ok hx ds xs h4
      have p1 : PE (X.suite a ((a, oe) :: pn)) (.Name id p) (tC (.ref (Cl d))) := pe_glob (X := X.suite a ((a, oe) :: pn)) (glB_ok (X := X.suite a ((a, oe) :: pn)) h2) (hx d id h1) rfl (plainName_ok h3).1
      exact ⟨_, pa_cons p1 pt rfl, fun σ H Q q => ht _ _ _ q⟩
    · cases h
theorem agEv_ok {y : Expr} (h : agEv X.env.scope X.N i y = true) : PE (X.suite a ((a, oe) :: pn)) y (tVar i) := by
  unfold agEv at h
  split at h
  · rename_i id p
    simp only [Bool.and_eq_true, decide_eq_true_eq] at h
    obtain ⟨⟨h1, h2⟩, h3⟩ := h
    obtain ⟨n1, n2, _⟩ := plainName_ok h3
    exact pe_var (X := X.suite a ((a, oe) :: pn)) h1 (visB_ok (by unfold visB; rw [h2])) n1 n2
  · cases h
theorem any_kit (C : Cau X.K P Cl c) : ∀ (ds : List Nat) (k : Bool), hbV.anyT P c ds = some k → PySem.W.kitAny X.K (.ref (Cl c)) (ds.map fun d => Value.ref (Cl d)) = some k
  | [], k, h => h
  | d :: ds, k, h => by
    unfold hbV.anyT at h
    rw [List.map_cons]
    unfold PySem.W.kitAny
    split at h
    · rename_i e
      rw [C.sub d true e]; exact h
    · rename_i e
      rw [C.sub d false e]; exact any_kit C ds k h
    · cases h
theorem cls_all : ∀ ds : List Nat, Paired ClsV (ds.map fun d => V.ref (Cl d)) (ds.map fun d => Value.ref (Cl d))
  | [] => .nil
  | d :: ds => .cons (.own _) (cls_all ds)
/-- what a clause's tests need -/
structure Bf (T : Tab) (Cl : Nat → Addr) (X : Cx) : Prop where
  blt : ∀ x, x ∈ bltNames → X.mg x = none
  ve : X.mg "ValueError" = none
  xn : ∀ d x, T.xname d = some x → X.mg x = some (.ref (Cl d))
def leafB : HB → Bool
  | .and _ _ => false
  | .or _ _ => false
  | .not _ => false
  | _ => true
theorem hb_leaf (B : Bf T Cl X) (C : Cau X.K P Cl c) (hz : Zc (.ref (Cl c)) (some dd) oe) (hf : ∃ vs, oe.data = .fields vs) {σ : L2.St} {H : Hp} {Q : VK} (hσ : σ[i]? = some (some (.ref a))) (hd : H dd = some (.xd [("row", .int n)])) :
    ∀ (b : HB) (x : Expr) (k : Bool), leafB b = true → agHB T X.env.scope X.N i b x = true → hbV P c b = some k → (∀ H', Grow H H' → Q (.bl k) H') → WE (X.suite a ((a, oe) :: pn)) x σ H Q
  | .isC d, x, k, _, h, hk, q => by
    simp only [agHB] at h
    split at h
    · rename_i id p1 y id2 p2 pos
      simp only [Bool.and_eq_true, decide_eq_true_eq] at h
      obtain ⟨⟨⟨⟨⟨⟨rfl, h1⟩, h2⟩, hs⟩, h3⟩, h4⟩, h5⟩ := h
      have pt : PE (X.suite a ((a, oe) :: pn)) (.Name id2 p2) (tC (.ref (Cl d))) := pe_glob (X := X.suite a ((a, oe) :: pn)) (glB_ok (X := X.suite a ((a, oe) :: pn)) h4) (B.xn d id2 h3) rfl (plainName_ok h5).1
      exact we_of (pe_callB (X := X.suite a ((a, oe) :: pn)) (call_isX C.D hz hf) (glB_ok (X := X.suite a ((a, oe) :: pn)) h1) (B.blt _ (by decide +kernel)) (by decide +kernel) (pa_cons (agEv_ok h2) (pa_cons pt pa_nil) (star_cons hs _ _)) (by decide +kernel) (by decide +kernel) (star_cons hs _ _))
        ⟨_, hσ, _, .ref (Cl d), k, _, rfl, fun u r => r, C.sub d k hk, hd, q _ .refl⟩
    · cases h
  | .isT ds, x, k, _, h, hk, q => by
    simp only [agHB] at h
    split at h
    · rename_i id p1 y xs tk tp pos
      simp only [Bool.and_eq_true, decide_eq_true_eq] at h
      obtain ⟨⟨⟨⟨⟨rfl, h1⟩, h2⟩, hs⟩, h3⟩, h4⟩ := h
      obtain ⟨t, pt, ht⟩ := agXs_ok (oe := oe) (pn := pn) (a := a) B.xn ds xs h3
      refine we_of (pe_callB (X := X.suite a ((a, oe) :: pn)) (call_isXT C.D hz hf) (glB_ok (X := X.suite a ((a, oe) :: pn)) h1) (B.blt _ (by decide +kernel)) (by decide +kernel) (pa_cons (agEv_ok h2) (pa_cons (pe_tup pt) pa_nil rfl) (star_cons hs _ _)) (by decide +kernel) (by decide +kernel) (star_cons hs _ _))
        ⟨_, hσ, ht _ _ _ ⟨by rw [List.length_map, sizeLine_eq]; omega, fun p hp => ?_⟩⟩
      have ne : dd ≠ p := fun z => by subst z; rw [hd] at hp; cases hp
      exact ⟨p, _, _, k, _, rfl, upd_same, cls_all ds, any_kit C ds k hk, by rw [upd_ne ne]; exact hd, q _ (.new .refl hp)⟩
    · cases h
  | .isVE, x, k, _, h, hk, q => by
    simp only [agHB] at h
    split at h
    · rename_i id p1 y id2 p2 pos
      simp only [Bool.and_eq_true, decide_eq_true_eq] at h
      obtain ⟨⟨⟨⟨⟨rfl, h1⟩, h2⟩, hs⟩, rfl⟩, h4⟩ := h
      have pt : PE (X.suite a ((a, oe) :: pn)) (.Name "ValueError" p2) (tC (.ty "ValueError")) := pe_bltn (X := X.suite a ((a, oe) :: pn)) (u := .type "ValueError") (glB_ok (X := X.suite a ((a, oe) :: pn)) h4) B.ve (by decide +kernel) rfl (by decide +kernel) (by decide +kernel)
      unfold hbV at hk
      cases hk
      exact we_of (pe_callB (X := X.suite a ((a, oe) :: pn)) (call_isX C.D hz hf) (glB_ok (X := X.suite a ((a, oe) :: pn)) h1) (B.blt _ (by decide +kernel)) (by decide +kernel) (pa_cons (agEv_ok h2) (pa_cons pt pa_nil) (star_cons hs _ _)) (by decide +kernel) (by decide +kernel) (star_cons hs _ _))
        ⟨_, hσ, _, .type "ValueError", true, _, rfl, fun u r => (ClsV.ty _).eq r, C.ve, hd, q _ .refl⟩
    · cases h
  | .row, x, k, _, h, hk, q => by
    simp only [agHB] at h
    split at h
    · rename_i id p1 y f pf id2 p2 pos
      simp only [Bool.and_eq_true, decide_eq_true_eq] at h
      obtain ⟨⟨⟨⟨⟨⟨rfl, h1⟩, h2⟩, hs⟩, rfl⟩, rfl⟩, h4⟩ := h
      have pt : PE (X.suite a ((a, oe) :: pn)) (.Name "bool" p2) (tC (.ty "bool")) := pe_bltn (X := X.suite a ((a, oe) :: pn)) (u := .type "bool") (glB_ok (X := X.suite a ((a, oe) :: pn)) h4) (B.blt _ (by decide +kernel)) (by decide +kernel) rfl (by decide +kernel) (by decide +kernel)
      unfold hbV at hk
      cases hk
      exact we_of (pe_callB (X := X.suite a ((a, oe) :: pn)) call_isi (glB_ok (X := X.suite a ((a, oe) :: pn)) h1) (B.blt _ (by decide +kernel)) (by decide +kernel) (pa_cons (pe_xf C.F C.row hz hf (agEv_ok h2) (base_of hs _ _)) (pa_cons pt pa_nil) rfl) (by decide +kernel) (by decide +kernel) rfl)
        ⟨_, hσ, rfl, rfl, dd, _, .int n, rfl, hd, rfl, ⟨.int n, .ty "bool", .type "int", .type "bool", false, rfl, .ty "bool", .base (.int _), kit_ty (by decide +kernel), q _ .refl⟩⟩
    · cases h
theorem hb_e (B : Bf T Cl X) (C : Cau X.K P Cl c) (hz : Zc (.ref (Cl c)) (some dd) oe) (hf : ∃ vs, oe.data = .fields vs) :
    ∀ (b : HB) (x : Expr) (k : Bool), agHB T X.env.scope X.N i b x = true → hbV P c b = some k → ∀ {σ : L2.St} {H : Hp} {Q : VK}, σ[i]? = some (some (.ref a)) → H dd = some (.xd [("row", .int n)]) → (∀ H', Grow H H' → Q (.bl k) H') → WE (X.suite a ((a, oe) :: pn)) x σ H Q
  | .isC d, x, k, h, hk, σ, H, Q, hσ, hd, q => hb_leaf B C hz hf hσ hd (.isC d) x k rfl h hk q
  | .isT d, x, k, h, hk, σ, H, Q, hσ, hd, q => hb_leaf B C hz hf hσ hd (.isT d) x k rfl h hk q
  | .isVE, x, k, h, hk, σ, H, Q, hσ, hd, q => hb_leaf B C hz hf hσ hd .isVE x k rfl h hk q
  | .row, x, k, h, hk, σ, H, Q, hσ, hd, q => hb_leaf B C hz hf hσ hd .row x k rfl h hk q
  | .and u v, x, k, h, hk, σ, H, Q, hσ, hd, q => by
    simp only [agHB] at h
    split at h
    · rename_i y z rest p
      simp only [Bool.and_eq_true] at h
      unfold hbV at hk
      split at hk
      · rename_i e
        refine we_of (pe_and pe_we (pe_two (y := y) pe_we)) (hb_e B C hz hf u y true h.1 e hσ hd fun H1 g1 => ⟨true, rfl, ?_⟩)
        rw [if_pos rfl]
        exact hb_e B C hz hf v _ k h.2 hk hσ (g1.keep hd) fun H2 g2 => q _ (g1.trans g2)
      · rename_i e
        cases hk
        refine we_of (pe_and pe_we (pe_two (y := y) pe_we)) (hb_e B C hz hf u y false h.1 e hσ hd fun H1 g1 => ⟨false, rfl, ?_⟩)
        rw [if_neg Bool.false_ne_true]
        exact q _ g1
      · cases hk
    · cases h
  | .or u v, x, k, h, hk, σ, H, Q, hσ, hd, q => by
    simp only [agHB] at h
    split at h
    · rename_i y z rest p
      simp only [Bool.and_eq_true] at h
      unfold hbV at hk
      split at hk
      · rename_i e
        cases hk
        refine we_of (pe_or pe_we (pe_two (y := y) pe_we)) (hb_e B C hz hf u y true h.1 e hσ hd fun H1 g1 => ⟨true, rfl, ?_⟩)
        rw [if_pos rfl]
        exact q _ g1
      · rename_i e
        refine we_of (pe_or pe_we (pe_two (y := y) pe_we)) (hb_e B C hz hf u y false h.1 e hσ hd fun H1 g1 => ⟨false, rfl, ?_⟩)
        rw [if_neg Bool.false_ne_true]
        exact hb_e B C hz hf v _ k h.2 hk hσ (g1.keep hd) fun H2 g2 => q _ (g1.trans g2)
      · cases hk
    · cases h
  | .not u, x, k, h, hk, σ, H, Q, hσ, hd, q => by
    simp only [agHB] at h
    split at h
    · rename_i y p
      unfold hbV at hk
      obtain ⟨k', e, rfl⟩ := Option.map_eq_some_iff.mp hk
      exact we_of (pe_not pe_we) (hb_e B C hz hf u y k' h e hσ hd fun H1 g1 => ⟨k', rfl, q _ g1⟩)
    · cases h
theorem leaf_plain : ∀ (b : HB) (x : Expr) (sc : Scope) (N : List Str), leafB b = true → agHB T sc N i b x = true → plainT x = true
  | .isC d, x, sc, N, _, h => by simp only [agHB] at h; split at h <;> first | rfl | cases h
  | .isT d, x, sc, N, _, h => by simp only [agHB] at h; split at h <;> first | rfl | cases h
  | .isVE, x, sc, N, _, h => by simp only [agHB] at h; split at h <;> first | rfl | cases h
  | .row, x, sc, N, _, h => by simp only [agHB] at h; split at h <;> first | rfl | cases h
theorem hb_lt (B : Bf T Cl X) (C : Cau X.K P Cl c) (hz : Zc (.ref (Cl c)) (some dd) oe) (hf : ∃ vs, oe.data = .fields vs) {σ : L2.St} {H : Hp} {Q : Bool → Hp → Prop} (hσ : σ[i]? = some (some (.ref a))) (hd : H dd = some (.xd [("row", .int n)]))
    (b : HB) (x : Expr) (k : Bool) (hl : leafB b = true) (h : agHB T X.env.scope X.N i b x = true) (hk : hbV P c b = some k) (q : ∀ H', Grow H H' → Q k H') : WT (X.suite a ((a, oe) :: pn)) x σ H Q :=
  wt_of (pt_truth pe_we (plainT_ok (leaf_plain b x _ _ hl h) _)) (hb_leaf B C hz hf hσ hd b x k hl h hk fun H' g => ⟨k, rfl, q H' g⟩)
theorem hb_t (B : Bf T Cl X) (C : Cau X.K P Cl c) (hz : Zc (.ref (Cl c)) (some dd) oe) (hf : ∃ vs, oe.data = .fields vs) :
    ∀ (b : HB) (x : Expr) (k : Bool), agHB T X.env.scope X.N i b x = true → hbV P c b = some k → ∀ {σ : L2.St} {H : Hp} {Q : Bool → Hp → Prop}, σ[i]? = some (some (.ref a)) → H dd = some (.xd [("row", .int n)]) → (∀ H', Grow H H' → Q k H') → WT (X.suite a ((a, oe) :: pn)) x σ H Q
  | .isC d, x, k, h, hk, σ, H, Q, hσ, hd, q => hb_lt B C hz hf hσ hd (.isC d) x k rfl h hk q
  | .isT d, x, k, h, hk, σ, H, Q, hσ, hd, q => hb_lt B C hz hf hσ hd (.isT d) x k rfl h hk q
  | .isVE, x, k, h, hk, σ, H, Q, hσ, hd, q => hb_lt B C hz hf hσ hd .isVE x k rfl h hk q
  | .row, x, k, h, hk, σ, H, Q, hσ, hd, q => hb_lt B C hz hf hσ hd .row x k rfl h hk q
  | .and u v, x, k, h, hk, σ, H, Q, hσ, hd, q => by
    simp only [agHB] at h
    split at h
    · rename_i y z rest p
      simp only [Bool.and_eq_true] at h
      have hzz : PW (X.suite a ((a, oe) :: pn)) (.BoolOp .And (z :: rest) p) (WT (X.suite a ((a, oe) :: pn)) (tail2 .And z p rest)) := by
        cases rest with
        | nil => exact pw_and1 pt_we
        | cons w r => exact pw_of pt_we
      unfold hbV at hk
      split at hk
      · rename_i e
        refine wt_of (pw_and pt_we hzz).pt (hb_t B C hz hf u y true h.1 e hσ hd fun H1 g1 => ?_)
        rw [if_pos rfl]
        exact hb_t B C hz hf v _ k h.2 hk hσ (g1.keep hd) fun H2 g2 => q _ (g1.trans g2)
      · rename_i e
        cases hk
        refine wt_of (pw_and pt_we hzz).pt (hb_t B C hz hf u y false h.1 e hσ hd fun H1 g1 => ?_)
        rw [if_neg Bool.false_ne_true]
        exact q _ g1
      · cases hk
    · cases h
  | .or u v, x, k, h, hk, σ, H, Q, hσ, hd, q => by
    simp only [agHB] at h
    split at h
    · rename_i y z rest p
      simp only [Bool.and_eq_true] at h
      have hzz : PW (X.suite a ((a, oe) :: pn)) (.BoolOp .Or (z :: rest) p) (WT (X.suite a ((a, oe) :: pn)) (tail2 .Or z p rest)) := by
        cases rest with
        | nil => exact pw_or1 pt_we
        | cons w r => exact pw_of pt_we
      unfold hbV at hk
      split at hk
      · rename_i e
        cases hk
        refine wt_of (pw_or pt_we hzz).pt (hb_t B C hz hf u y true h.1 e hσ hd fun H1 g1 => ?_)
        rw [if_pos rfl]
        exact q _ g1
      · rename_i e
        refine wt_of (pw_or pt_we hzz).pt (hb_t B C hz hf u y false h.1 e hσ hd fun H1 g1 => ?_)
        rw [if_neg Bool.false_ne_true]
        exact hb_t B C hz hf v _ k h.2 hk hσ (g1.keep hd) fun H2 g2 => q _ (g1.trans g2)
      · cases hk
    · cases h
  | .not u, x, k, h, hk, σ, H, Q, hσ, hd, q => by
    simp only [agHB] at h
    split at h
    · rename_i y p
      unfold hbV at hk
      obtain ⟨k', e, rfl⟩ := Option.map_eq_some_iff.mp hk
      exact wt_of (pt_not pt_we) (hb_t B C hz hf u y k' h e hσ hd fun H1 g1 => q _ g1)
    · cases h
/-- a value that a clause returns -/
def Rt (H H' : Hp) (v : V) (d : AV) : Prop := (Grow H H' ∧ ∀ K cs F, Rep K cs F v d) ∨ ∃ H0 p vs ds, Grow H H0 ∧ H0 p = none ∧ H' = upd H0 p (.tup vs) ∧ v = .ref p ∧ d = .tup ds ∧ ∀ K cs F, Reps K cs F vs ds
theorem row_e (B : Bf T Cl X) (C : Cau X.K P Cl c) (hz : Zc (.ref (Cl c)) (some dd) oe) (hf : ∃ vs, oe.data = .fields vs) {σ : L2.St} {H : Hp} {Q : VK} {x : Expr} (h : agRow X.env.scope X.N i x = true) (hσ : σ[i]? = some (some (.ref a))) (hd : H dd = some (.xd [("row", .int n)]))
    (q : Q (.int n) H) : WE (X.suite a ((a, oe) :: pn)) x σ H Q := by
  unfold agRow at h
  split at h
  · rename_i y f pf
    simp only [Bool.and_eq_true, decide_eq_true_eq] at h
    obtain ⟨⟨h2, hs⟩, rfl⟩ := h
    exact we_of (pe_xf C.F C.row hz hf (agEv_ok h2) (base_of hs _ _)) ⟨_, hσ, rfl, rfl, dd, _, .int n, rfl, hd, rfl, q⟩
  · cases h
theorem he_e (B : Bf T Cl X) (C : Cau X.K P Cl c) (hz : Zc (.ref (Cl c)) (some dd) oe) (hf : ∃ vs, oe.data = .fields vs) {σ : L2.St} {H : Hp} {Q : VK} (hσ : σ[i]? = some (some (.ref a))) (hd : H dd = some (.xd [("row", .int n)])) :
    ∀ (e : HE) (x : Expr) (d : AV), agHE T X.env.scope X.N i e x = true → heV P c n e = some d → (∀ v H', Rt H H' v d → Q v H') → WE (X.suite a ((a, oe) :: pn)) x σ H Q
  | .non, x, d, h, hk, q => by
    simp only [agHE] at h
    split at h
    · cases hk
      exact we_of pe_non (q _ _ (.inl ⟨.refl, fun _ _ _ => .non⟩))
    · cases h
  | .bl b, x, d, h, hk, q => by
    simp only [agHE] at h
    split at h
    · cases hk
      have e := of_decide_eq_true h
      subst e
      exact we_of pe_bl (q _ _ (.inl ⟨.refl, fun _ _ _ => .bl _⟩))
    · cases h
  | .row, x, d, h, hk, q => by
    cases hk
    exact row_e B C hz hf h hσ hd (q _ _ (.inl ⟨.refl, fun _ _ _ => .int _⟩))
  | .hb b, x, d, h, hk, q => by
    obtain ⟨k, e, rfl⟩ := Option.map_eq_some_iff.mp hk
    exact hb_e B C hz hf b x k h e hσ hd fun H' g => q _ _ (.inl ⟨g, fun _ _ _ => .bl _⟩)
  | .pair z, x, d, h, hk, q => by
    simp only [agHE] at h
    split at h
    · rename_i y j p w p2 p3
      simp only [Bool.and_eq_true, decide_eq_true_eq] at h
      obtain ⟨⟨rfl, h2⟩, h3⟩ := h
      cases hk
      refine we_of (pe_tup (pa_cons pe_str (pa_cons pe_we pa_nil (star_cons h3 _ _)) rfl)) ?_
      refine row_e B C hz hf h2 hσ hd ⟨(show (2 : Nat) ≤ sizeLine by rw [sizeLine_eq]; decide), fun p hp => q _ _ (.inr ⟨H, p, _, _, .refl, hp, rfl, rfl, rfl, fun _ _ _ => .cons (.str _) (.cons (.int _) .nil)⟩)⟩
    · cases h
theorem gs_ok (B : Bf T Cl X) (C : Cau X.K P Cl c) (hz : Zc (.ref (Cl c)) (some dd) oe) (hf : ∃ vs, oe.data = .fields vs) {σ : L2.St} {D : Ends} {t : TryF} {out : AV} {H0 : Hp} (hσ : σ[i]? = some (some (.ref a)))
    (hrt : ∀ v H', Rt H0 H' v out → D.rt v H') (hnx : ∀ H', Grow H0 H' → t.aft = some out → D.nx σ H') :
    ∀ (gs : List (HB × HE)) (st : List Stmt) (H : Hp), Grow H0 H → H dd = some (.xd [("row", .int n)]) → agGs T X.env.scope X.N i t.fin gs st = true → gsV P c n t gs = some out → WSs (X.suite a ((a, oe) :: pn)) st D σ H
  | [], st, H, g, hd, h, hk => by
    unfold agGs at h
    unfold gsV at hk
    split at h
    · rename_i ef
      rw [ef] at hk
      split at h
      · exact wss_of pss_nil (hnx H g hk)
      · cases h
    · rename_i e ef
      rw [ef] at hk
      split at h
      · rename_i x pos
        refine wss_of (pss_cons (ps_ret pe_we) pss_nil) ?_
        refine he_e B C hz hf hσ hd e x out h hk fun v H' r => hrt v H' ?_
        rcases r with ⟨g2, r⟩ | ⟨H1, p, vs, ds, g2, r⟩
        · exact .inl ⟨g.trans g2, r⟩
        · exact .inr ⟨H1, p, vs, ds, g.trans g2, r⟩
      · cases h
  | (b, e) :: r, st, H, g, hd, h, hk => by
    unfold agGs at h
    split at h
    · rename_i tx x p1 p2 st'
      simp only [Bool.and_eq_true] at h
      obtain ⟨⟨h1, h2⟩, h3⟩ := h
      unfold gsV at hk
      refine wss_of (pss_cons (ps_if pt_we (pss_cons (ps_ret pe_we) pss_nil) pss_nil) pss_we) ?_
      split at hk
      · rename_i eb
        refine hb_t B C hz hf b tx true h1 eb hσ hd fun H1 g1 => ?_
        rw [if_pos rfl]
        refine he_e B C hz hf hσ (g1.keep hd) e x out h2 hk fun v H' r => hrt v H' ?_
        rcases r with ⟨g2, r⟩ | ⟨H1, p, vs, ds, g2, r⟩
        · exact .inl ⟨(g.trans g1).trans g2, r⟩
        · exact .inr ⟨H1, p, vs, ds, (g.trans g1).trans g2, r⟩
      · rename_i eb
        refine hb_t B C hz hf b tx false h1 eb hσ hd fun H1 g1 => ?_
        rw [if_neg Bool.false_ne_true]
        exact gs_ok B C hz hf hσ hrt hnx r st' H1 (g.trans g1) (g1.keep hd) h3 hk
      · cases hk
    · cases h
end
/-! ### the def that tries -/
/-- what a def that an exception may leave keeps -/
def spX (K : PySem.W.Frag) (Cl : Nat → Addr) (call : List AV → AHeap → (AV → AHeap → Prop) → (Nat → Int → AHeap → Prop) → Prop) : Sp := fun vs H Q E => ∃ cs F h ds Qa Ea, StOk K Cl cs F H h ∧ Reps K cs F vs ds ∧ call ds h Qa Ea ∧
  (∀ v d cs' F' H' h', Stp cs F H cs' F' H' → StOk K Cl cs' F' H' h' → Rep K cs' F' v d → Qa d h' → Q v H') ∧
  (∀ c n cs' F' H' h', Stp cs F H cs' F' H' → StOk K Cl cs' F' H' h' → Ea c n h' → ∀ dd, H' dd = none → E (.ref (Cl c)) (some dd) (upd H' dd (.xd [("row", .int n)])))
def agAT (sc : Scope) (N : List Str) : List AT → List Expr → Bool
  | [], xs => match xs with
    | [] => true
    | _ => false
  | .v i :: r, xs => match xs with
    | y :: ys => agVar sc N i y && notStar y && agAT sc N r ys
    | _ => false
  | .s z :: r, xs => match xs with
    | .Constant (.str y) _ _ :: ys => decide (z = y) && agAT sc N r ys
    | _ => false
def tAT : List AT → TA
  | [] => tNil
  | .v i :: r => tCons (tVar i) (tAT r)
  | .s z :: r => tCons (tC (.str z)) (tAT r)
def agAft (d : Option AV) (st : List Stmt) : Bool := match d with
  | some .non => match st with
    | [.Return (some (.Constant .none _ _)) _] => true
    | [] => true
    | _ => false
  | some (.bl b) => match st with
    | [.Return (some (.Constant (.bool j) _ _)) _] => decide (b = j)
    | _ => false
  | _ => false
def agTry (T : Tab) (sc : Scope) (N : List Str) (t : TryF) : List Stmt → Bool
  | .Try [.Expr (.Call (.Name xg _) (e :: es) [] cpos) _] [.ExceptHandler (some (.Name xc _)) (some xn) (b₀ :: suite) _] [] [] _ :: aft => decide (t.ok = none) && decide (T.fname t.g = some xg) && glB sc xg && plainName xg && agAT sc N t.args (e :: es) &&
    decide (T.xname t.c = some xc) && glB sc xc && plainName xc && decide (N[t.i]? = some xn) && decide (sc.names.lookup xn = some .local) && agGs T sc N t.i t.fin t.gs (b₀ :: suite) && agAft t.aft aft
  | _ => false
section
variable {T : Tab} {Cl : Nat → Addr} {X : Cx} {P : Prg}
theorem agAT_ok : ∀ {ts : List AT} {xs : List Expr}, agAT X.env.scope X.N ts xs = true → PA X xs (tAT ts) ∧ xs.all notStar = true
  | [], xs, h => by
    unfold agAT at h
    split at h
    · exact ⟨pa_nil, rfl⟩
    · cases h
  | .v i :: r, xs, h => by
    unfold agAT at h
    split at h
    · rename_i y ys
      simp only [Bool.and_eq_true] at h
      obtain ⟨⟨h1, h2⟩, h3⟩ := h
      obtain ⟨p, q⟩ := agAT_ok h3
      unfold agVar at h1
      split at h1
      · rename_i id p'
        simp only [Bool.and_eq_true, decide_eq_true_eq] at h1
        obtain ⟨⟨k1, k2⟩, k3⟩ := h1
        obtain ⟨n1, n2, _⟩ := plainName_ok k3
        exact ⟨pa_cons (pe_var k1 (visB_ok k2) n1 n2) p (star_cons h2 _ _), by rw [List.all_cons, h2, q]; rfl⟩
      · cases h1
    · cases h
  | .s z :: r, xs, h => by
    unfold agAT at h
    split at h
    · rename_i y j p' ys
      simp only [Bool.and_eq_true, decide_eq_true_eq] at h
      obtain ⟨rfl, h3⟩ := h
      obtain ⟨p, q⟩ := agAT_ok h3
      exact ⟨pa_cons pe_str p rfl, by rw [List.all_cons, q]; rfl⟩
    · cases h
theorem tAT_ok {K : PySem.W.Frag} {cs : List Addr} {F H : Hp} {vs0 : List V} {ds : List AV} {σ : L2.St} (rs : Reps K cs F vs0 ds) (hσ : ∀ (i : Nat) (v : L2.V), vs0[i]? = some v → σ[i]? = some (some v)) : ∀ {ts : List AT} {xs : List AV} {Q : List V → Hp → Prop}, argV ds ts = some xs →
    (∀ vs, Reps K cs F vs xs → Q vs H) → tAT ts σ H Q
  | [], xs, Q, h, q => by
    cases h
    exact q [] .nil
  | .v i :: r, xs, Q, h, q => by
    unfold argV at h
    split at h
    · rename_i d xs' h1 h2
      cases h
      obtain ⟨v, e1, e2⟩ := rs.get h1
      exact ⟨v, hσ i v e1, tAT_ok rs hσ h2 fun vs r => q _ (.cons e2 r)⟩
    · cases h
  | .s z :: r, xs, Q, h, q => by
    obtain ⟨xs', h2, rfl⟩ := Option.map_eq_some_iff.mp h
    show tAT r σ H fun vs H1 => Q (.str z :: vs) H1
    exact tAT_ok (Q := fun vs H1 => Q (.str z :: vs) H1) rs hσ h2 fun vs r => q _ (.cons (.str _) r)
theorem aft_ok {d : Option AV} {st : List Stmt} (h : agAft d st = true) : ∃ d', d = some d' ∧ ∃ v, (∀ K cs F, Rep K cs F v d') ∧ PSs X st (fun D σ H => (D.rt v H ∧ (v = .non → D.nx σ H))) := by
  unfold agAft at h
  split at h
  · split at h
    · exact ⟨_, rfl, .non, fun _ _ _ => .non, ⟨fun pins s σ H D I z => (pss_cons (ps_ret pe_non) pss_nil).run pins s σ H D I z.1⟩⟩
    · exact ⟨_, rfl, .non, fun _ _ _ => .non, ⟨fun pins s σ H D I z => pss_nil.run pins s σ H D I (z.2 rfl)⟩⟩
    · cases h
  · split at h
    · have e := of_decide_eq_true h
      subst e
      exact ⟨_, rfl, .bl _, fun _ _ _ => .bl _, ⟨fun pins s σ H D I z => (pss_cons (ps_ret pe_bl) pss_nil).run pins s σ H D I z.1⟩⟩
    · cases h
  · cases h
/-- the statement and what stands behind it, where no exception leaves -/
theorem try_ok {t : TryF} {st : List Stmt} {kg : Nat} {ag : Addr} {fdg : FuncData} {psg : List Str} {call : List AV → AHeap → (AV → AHeap → Prop) → (Nat → Int → AHeap → Prop) → Prop} (B : Bf T Cl X) (nd : X.N.Nodup) (gd : X.A.guards = some []) (hs : X.stack = X.env :: X.outer) (hf : X.env.frame = some X.env.locals)
    (hx : ∀ e s, ¬ X.xe e s) (h : agTry T X.env.scope X.N t st = true) (hC : ∀ c b, P.sub.lookup (c, t.c) = some b → Cau X.K P Cl c) (hE : ∀ c, P.sub.lookup (c, t.c) = some true → PySem.W.exmOne X.K (.ref (Cl c)) (.ref (Cl t.c)) = some true)
    (hg : ∀ xg, T.fname t.g = some xg → X.mg xg = some (.ref ag) ∧ PySem.W.keepIn X.K (.ref ag) = true) (F : FnGX X.prog X.w X.K X.mg X.base kg ag fdg psg (spX X.K Cl call)) (room : Room kg X.A) (bnd : Binds X.K fdg psg [])
    {cs : List Addr} {F0 H : Hp} {hp : AHeap} {vs0 : List L2.V} {ds xs : List AV} {σ : L2.St} {D : Ends} {Q : AV → AHeap → Prop} (S : StOk X.K Cl cs F0 H hp) (rs : Reps X.K cs F0 vs0 ds) (hσ : ∀ (i : Nat) (v : L2.V), vs0[i]? = some v → σ[i]? = some (some v)) (hl : σ.length = X.N.length)
    (ha : argV ds t.args = some xs) (w : call xs hp (fun v h2 => match okV t v with
      | some d => Q d h2
      | none => False) (fun c n h2 => match tryV P c n t with
      | some d => Q d h2
      | none => False))
    (hnx : ∀ cs' F' H' h' σ', Stp cs F0 H cs' F' H' → StOk X.K Cl cs' F' H' h' → Q .non h' → D.nx σ' H')
    (hrt : ∀ v d cs' F' H' h', Stp cs F0 H cs' F' H' → StOk X.K Cl cs' F' H' h' → Rep X.K cs' F' v d → Q d h' → D.rt v H') : WSs X st D σ H := by
  unfold agTry at h
  split at h
  · rename_i xg p1 e es cpos p2 xc p3 xn b₀ suite p4 p5 aft
    simp only [Bool.and_eq_true, decide_eq_true_eq] at h
    obtain ⟨⟨⟨⟨⟨⟨⟨⟨⟨⟨⟨h0, h1⟩, h2⟩, h3⟩, h4⟩, h5⟩, h6⟩, h7⟩, h8⟩, h9⟩, h10⟩, h11⟩ := h
    obtain ⟨d', ed, va, ra, pa⟩ := aft_ok (X := X) h11
    obtain ⟨mg, kp⟩ := hg xg h1
    have tk : Takes X (fun _ _ _ _ => False) := fun u s' ⟨_, _, _, _, _, _, _, _, _, _, _, _, _, _, _, _, z⟩ => z.elim
    obtain ⟨pargs, pst⟩ := agAT_ok h4
    have hst : notStar e = true := by rw [List.all_cons, Bool.and_eq_true] at pst; exact pst.1
    have hes : es.all notStar = true := by rw [List.all_cons, Bool.and_eq_true] at pst; exact pst.2
    have T1 := ps_try_as (X := X) (x := xc) (n := xn) (c := .ref (Cl t.c)) (i := t.i) (body := [.Expr (.Call (.Name xg p1) (e :: es) [] cpos) p2]) (suite := suite) (b₀ := b₀) (np := p3) (pos := p5) (pos' := p4)
      (tb := fun W => tSeq (tDrop (fun σ H Q => tAT t.args σ H fun vs H1 => spX X.K Cl call vs H1 Q fun c d H' => W c d σ H')) tNext)
      (ts := fun a cls d D σ H => ∃ c n dd out, cls = .ref (Cl c) ∧ d = some dd ∧ Cau X.K P Cl c ∧ H dd = some (.xd [("row", .int n)]) ∧ σ[t.i]? = some (some (.ref a)) ∧ gsV P c n t t.gs = some out ∧ (∀ v H', Rt H H' v out → D.rt v H') ∧ (∀ H', Grow H H' → t.aft = some out → D.nx σ H'))
      (Wout := fun _ _ _ _ => False) hs hf nd h8 h9 ⟨glB_ok h6, (plainName_ok h7).1, .inl (B.xn _ _ h5)⟩ tk
      (fun W pn xe tk2 po => pss_cons (ps_expr (FnGX.call (X := X.tr pn xe) F gd room (glB_ok (X := X.tr pn xe) h2) mg kp bnd tk2 (show PA (X.tr pn xe) (e :: es) (tAT t.args) from (agAT_ok (X := X.tr pn xe) h4).1) (plainName_ok h3).1 (star_cons hst _ _) (star_all hes _ _)) rfl) pss_nil)
      (fun a oe cls d pn hz hfv => ⟨fun pins s σ H D I ⟨c, n, dd, out, e1, e2, C, e3, e4, e5, e6, e7⟩ => by
        subst e1 e2
        exact gs_ok B C hz hfv e4 e6 e7 t.gs (b₀ :: suite) H .refl e3 h10 e5 pins s I⟩)
    refine wss_of (pss_cons T1 pa) ?_
    show tAT t.args σ H fun vs H1 => _
    refine tAT_ok rs hσ ha fun vs rv => ?_
    refine ⟨cs, F0, hp, xs, _, _, S, rv, w, ?_, ?_⟩
    · intro v d cs' F' H' h' x' S' r' q'
      unfold okV at q'
      rw [h0, ed] at q'
      exact ⟨hrt va d' cs' F' H' h' x' S' (ra _ _ _) q', fun z => by
        subst z
        have := ra X.K cs' F'
        cases this
        exact hnx _ _ _ _ _ x' S' q'⟩
    · intro c n cs' F' H' h' x' S' q' dd hdd
      have q2 : ∃ out, tryV P c n t = some out ∧ Q out h' := by
        cases ho : tryV P c n t with
        | none => rw [ho] at q'; exact q'.elim
        | some out => rw [ho] at q'; exact ⟨out, rfl, q'⟩
      obtain ⟨out, ho, q3⟩ := q2
      unfold tryV at ho
      split at ho
      · rename_i es2
        refine ⟨true, hE c es2, fun _ a ha2 => ?_, fun z => by cases z⟩
        have hi : t.i < σ.length := by rw [hl]; exact (List.getElem?_eq_some_iff.mp h8).1
        refine ⟨c, n, dd, out, rfl, rfl, hC c true es2, upd_same, List.getElem?_set_self hi, ho, ?_, ?_⟩
        · intro v H'' r
          have S1 : StOk X.K Cl cs' F' (upd H' dd (.xd [("row", .int n)])) h' := S'.newN hdd
          have x1 : Stp cs' F' H' cs' F' (upd H' dd (.xd [("row", .int n)])) := Stp.newN hdd
          rcases r with ⟨g, r⟩ | ⟨H0, p, vs2, ds2, g, hp0, rfl, rfl, rfl, r⟩
          · obtain ⟨S2, x2⟩ := g.step S1
            exact hrt v out _ _ _ _ ((x'.trans x1).trans x2) S2 (r _ _ _) q3
          · obtain ⟨S2, x2⟩ := g.step S1
            exact hrt _ _ _ _ _ _ (((x'.trans x1).trans x2).trans (Stp.newF S2 hp0)) (S2.newF hp0) (.tup (ex_t (fun _ _ z => z) (.inl (.inl upd_same))) (r _ _ _)) q3
        · intro H'' g ea
          have S1 : StOk X.K Cl cs' F' (upd H' dd (.xd [("row", .int n)])) h' := S'.newN hdd
          have x1 : Stp cs' F' H' cs' F' (upd H' dd (.xd [("row", .int n)])) := Stp.newN hdd
          obtain ⟨S2, x2⟩ := g.step S1
          rw [ed] at ea
          cases ea
          exact ⟨hrt va _ _ _ _ _ ((x'.trans x1).trans x2) S2 (ra _ _ _) q3, fun z => by
            subst z
            have := ra X.K cs' F'
            cases this
            exact hnx _ _ _ _ _ ((x'.trans x1).trans x2) S2 q3⟩
      · cases ho
  · cases h
end
end VL

set_option maxRecDepth 100000
set_option maxHeartbeats 4000000
/-! VL: a program's defs keep what the transformers say; the end of a law. -/
namespace VL
open PySem L2 Evl PyProof.Rows PySem.Spec

/-! ### the scope of a def, by one check -/
def scB (N ps : List Str) (sc : Scope) : Bool :=
  (match sc.kind with | .function => true | _ => false) && !sc.isCoroutine && !sc.isGenerator && decide N.Nodup && decide (N.take ps.length = ps) && ps.all (fun x => locB sc x) && sc.names.all (fun y => decide (y.2 ≠ .free))
theorem scB_ok {N ps : List Str} {sc : Scope} (h : scB N ps sc = true) : FnScope N ps sc := by
  unfold scB at h
  simp only [Bool.and_eq_true, Bool.not_eq_true', decide_eq_true_eq, List.all_eq_true] at h
  obtain ⟨⟨⟨⟨⟨⟨h1, h2⟩, h3⟩, h4⟩, h5⟩, h6⟩, h7⟩ := h
  refine ⟨?_, h2, h3, h4, h5, fun x hx => ?_, fun y hy => h7 y hy⟩
  · split at h1
    · assumption
    · cases h1
  · rcases locB_ok (h6 x hx) with q | q
    · exact .inl q
    · exact .inr q
/-- a def of the text and what it is in our syntax -/
structure FnT where
  name : Str
  st : Stmt
  N : List Str
  ps : List Str
def agF (T : Tab) (t : FnT) (F : Fn) : Bool := scB t.N t.ps (defScope t.st) && agSs T (defScope t.st) t.N F.body (defBody t.st) && decide (t.N.length = F.ns) && decide (t.ps.length = F.np)

/-- a def that tries, of the text and in our syntax -/
def agTF (T : Tab) (t : FnT) (y : TryF) : Bool := scB t.N t.ps (defScope t.st) && agTry T (defScope t.st) t.N y (defBody t.st) && decide (t.N.length = y.ns) && decide (t.ps.length = y.np) && y.args.all fun a => match a with
  | .v i => decide (i < y.np)
  | .s _ => true
/-- a class of exceptions in the written part -/
structure ExcP (K : PySem.W.Frag) (mg : Str → Option Value) (x : Str) (C : Addr) : Prop where
  mg : mg x = some (.ref C)
  ox : OexC K C
  row : PySem.W.findIn K (.ref C) "row" = some none
  ini : ∃ fI fd nm qn st, PySem.W.findIn K (.ref C) "__init__" = some (some (.ref fI)) ∧ PySem.W.typeIn K (.ref fI) = some (.type "function") ∧ Fun K nm qn st fI fd ∧ FnScope ["self", "row"] ["self", "row"] (defScope st) ∧ Vis (defScope st) "self" ∧ Vis (defScope st) "row" ∧ isRowInit (defBody st) = true ∧ Binds K fd ["self", "row"] []
structure PFacts (w : World) (P : Prg) (T : Tab) (Cl : Nat → Addr) (ts : Nat → Option FnT) (K : PySem.W.Frag) (mg : Str → Option Value) : Prop where
  blt : ∀ x, x ∈ bltNames → mg x = none
  glob : ∀ g d, P.glob.lookup g = some d → ∃ u v, mg (T.gname g) = some u ∧ RelV v u ∧ ∀ cs F, Rep K cs F v d
  fn : ∀ f F, P.fns.lookup f = some F → ∃ t a fd qual, ts f = some t ∧ Fun K t.name qual t.st a fd ∧ agF T t F = true ∧ Binds K fd t.ps [] ∧ ∀ x, T.fname f = some x → mg x = some (.ref a) ∧ PySem.W.keepIn K (.ref a) = true
  fnm : ∀ f x, T.fname f = some x → (∃ F, P.fns.lookup f = some F) ∨ ∃ t, P.tryf.lookup f = some t
  cls : ∀ c x, T.cname c = some x → ∃ f F t a fd qual, P.init.lookup c = some f ∧ P.fns.lookup f = some F ∧ ts f = some t ∧ Fun K t.name qual t.st a fd ∧ agF T t F = true ∧ Binds K fd t.ps [] ∧ mg x = some (.ref (Cl c)) ∧ Mk K (Cl c) a
  mth : ∀ c m f, P.meth.lookup (c, m) = some f → ∃ F t a fd qual, P.fns.lookup f = some F ∧ ts f = some t ∧ Fun K t.name qual t.st a fd ∧ agF T t F = true ∧ Binds K fd t.ps [] ∧ Cls K (Cl c) ∧ Meth K (Cl c) m a
  fld : ∀ c f, P.flds.contains (c, f) = true → Cls K (Cl c) ∧ NoAttr K (Cl c) f
  gdc : ∀ g x, T.dname g = some x → ∃ kvs d, P.gdct.lookup g = some kvs ∧ mg x = some (.ref d) ∧ GDict K w d kvs
  isc : ∀ c x, T.iname c = some x → mg x = some (.ref (Cl c)) ∧ C8.InsC K (Cl c)
  exc : ∀ c x, T.ename c = some x → ExcP K mg x (Cl c)
  tfn : ∀ f t, P.tryf.lookup f = some t → P.fns.lookup f = none ∧ mg "ValueError" = none ∧ (∃ x F, T.fname t.g = some x ∧ P.fns.lookup t.g = some F) ∧ (∀ c, P.sub.lookup (c, t.c) = some true → PySem.W.exmOne K (.ref (Cl c)) (.ref (Cl t.c)) = some true) ∧
    ∃ tt a fd qual, ts f = some tt ∧ Fun K tt.name qual tt.st a fd ∧ agTF T tt t = true ∧ Binds K fd tt.ps [] ∧ ∀ x, T.fname f = some x → mg x = some (.ref a) ∧ PySem.W.keepIn K (.ref a) = true
  cau : ∀ c d b, P.sub.lookup (c, d) = some b → Cau K P Cl c
  xnm : ∀ d x, T.xname d = some x → mg x = some (.ref (Cl d))

section
variable {prog : Program} {w : World} {K : PySem.W.Frag} {mg : Str → Option Value} {base : Heap} {P : Prg} {T : Tab} {Cl : Nat → Addr} {ts : Nat → Option FnT}
theorem getS_start {ds : List AV} : ∀ {vs : List V} {cs : List Addr} {F : Hp} {k i : Nat} {d : AV}, Reps K cs F vs ds → getS (ds.map Slot.val ++ List.replicate k Slot.no) i = .val d → ∃ v, vs[i]? = some v ∧ Rep K cs F v d := by
  induction ds with
  | nil =>
    intro vs cs F k i d r h
    have : ∀ (k i : Nat), getS (List.replicate k Slot.no) i = .no := by
      intro k
      induction k with
      | zero => intro i; rfl
      | succ k ih => intro i; cases i with
        | zero => rfl
        | succ i => exact ih i
    rw [List.map_nil, List.nil_append, this] at h
    cases h
  | cons x ds ih =>
    intro vs cs F k i d r h
    cases r with
    | cons r rs =>
      cases i with
      | zero => cases h; exact ⟨_, rfl, r⟩
      | succ i =>
        obtain ⟨v, h1, h2⟩ := ih (i := i) rs h
        exact ⟨v, by simpa using h1, h2⟩
theorem getS_startO {ds : List AV} : ∀ {k i : Nat} {c : Cell}, getS (ds.map Slot.val ++ List.replicate k Slot.no) i ≠ .own c := by
  induction ds with
  | nil =>
    intro k
    induction k with
    | zero => intro i c h; cases h
    | succ k ih => intro i c h; cases i with
      | zero => cases h
      | succ i => exact ih h
  | cons x ds ih =>
    intro k i c h
    cases i with
    | zero => cases h
    | succ i => exact ih h
theorem env_start {cs : List Addr} {F H : Hp} {N : List Str} {vs : List V} {ds : List AV} {ns : Nat} (hn : N.length = ns) (hl : vs.length ≤ N.length) (r : Reps K cs F vs ds) : EnvOk K Cl cs F H (L2.start N vs) (ds.map Slot.val ++ List.replicate (ns - ds.length) Slot.no) where
  len := by
    unfold L2.start
    simp only [List.length_append, List.length_map, List.length_replicate]
    rw [r.length, hn]
  val := fun i d h => by
    obtain ⟨v, h1, h2⟩ := getS_start r h
    refine ⟨v, ?_, h2⟩
    unfold L2.start
    rw [List.getElem?_append_left (by simpa using (List.getElem?_eq_some_iff.mp h1).1), List.getElem?_map, h1]
    rfl
  own := fun i c h => absurd h getS_startO
  dis := fun i j c c' a _ h => absurd h getS_startO
/-- what stands around a def's body -/
theorem sok_of {X : Cx} {n k : Nat} (hF : PFacts X.w P T Cl ts X.K X.mg) (nd : X.N.Nodup) (calm : X.calm = true) (gd : X.A.guards = some []) (room : Room (k + 2) X.A)
    (all : ∀ (f : Nat) (t : FnT) (a : Addr) (fd : FuncData) (qual : Str), ts f = some t → Fun X.K t.name qual t.st a fd → ((∃ F, P.fns.lookup f = some F ∧ agF T t F = true) ∨ (∃ y, P.fns.lookup f = none ∧ P.tryf.lookup f = some y ∧ agTF T t y = true)) → FnG X.prog X.w X.K X.mg X.base k a fd t.ps (spOf X.K Cl (ctxOf P (callN P n)) f))
    (pass : PassesOwn (model X.prog X.w) X.A X.env X.xe) (sto : Sto X.env.scope X) : SOk (ctxOf P (callN P n)) T Cl X := by
  refine ⟨⟨nd, calm, ?_, gd, hF.blt, hF.glob, fun g x hg => ?_, fun c x hx => ?_, fun c m g hx => ?_, hF.fld, hF.gdc, hF.isc⟩, fun c x hx => ?_, pass, sto⟩
  · have := room.un
    omega
  · rcases hF.fnm g x hg with ⟨G, hG⟩ | ⟨y, hy⟩
    · obtain ⟨t', a', fd', qual', e1, e2, e3, e4, e5⟩ := hF.fn g G hG
      exact ⟨k, a', fd', t'.ps, all g t' a' fd' qual' e1 e2 (.inl ⟨G, hG, e3⟩), room.mono (by omega), (e5 x hg).1, (e5 x hg).2, e4⟩
    · obtain ⟨e0, _, _, _, t', a', fd', qual', e1, e2, e3, e4, e5⟩ := hF.tfn g y hy
      exact ⟨k, a', fd', t'.ps, all g t' a' fd' qual' e1 e2 (.inr ⟨y, e0, hy, e3⟩), room.mono (by omega), (e5 x hg).1, (e5 x hg).2, e4⟩
  · obtain ⟨g, G, t', a', fd', qual', e0, hG, e1, e2, e3, e4, e5, e6⟩ := hF.cls c x hx
    exact ⟨g, k, a', fd', t'.ps, e0, all g t' a' fd' qual' e1 e2 (.inl ⟨G, hG, e3⟩), room.mono (by omega), e5, e6, e4⟩
  · obtain ⟨G, t', a', fd', qual', hG, e1, e2, e3, e4, e5, e6⟩ := hF.mth c m g hx
    exact ⟨k, a', fd', t'.ps, all g t' a' fd' qual' e1 e2 (.inl ⟨G, hG, e3⟩), room.mono (by omega), e5, e6, e4⟩
  · have E := hF.exc c x hx
    obtain ⟨fI, fd, nm, qn, st, i1, i2, i3, i4, i5, i6, i7, i8⟩ := E.ini
    exact ⟨E.mg, E.ox, E.row, fI, 1, fd, i1, i2, row_init i3 i4 i5 i6 i7, room.mono (by omega), i8⟩
theorem sto_of {prog : Program} {CX : CXT} {N : List Str} {qual : Str} {st : Stmt} {a : Addr} {cdv : Value} {A : Around} {outer : List PySem.Env} {s : Shared} {H : Hp} {E : XK} :
    Sto (defScope st) (cxOf CX prog w K mg base N qual (defScope st) a cdv A outer s H E) := fun id hid => by
  unfold tgN at hid
  simp only [Bool.or_eq_true, Bool.and_eq_true, decide_eq_true_eq] at hid
  rcases hid with hid | hid
  · exact ⟨.inl hid.1, .inl rfl⟩
  · exact ⟨.inr hid.1, .inl rfl⟩
theorem start_get {N : List Str} {vs : List L2.V} {i : Nat} {v : L2.V} (h : vs[i]? = some v) : (L2.start N vs)[i]? = some (some v) := by
  unfold L2.start
  rw [List.getElem?_append_left (by simpa using (List.getElem?_eq_some_iff.mp h).1), List.getElem?_map, h]
  rfl
theorem start_len {N : List Str} {vs : List L2.V} (h : vs.length ≤ N.length) : (L2.start N vs).length = N.length := by
  unfold L2.start
  simp only [List.length_append, List.length_map, List.length_replicate]
  omega
theorem scope_len {t : FnT} {vs : List L2.V} {np : Nat} (sc : FnScope t.N t.ps (defScope t.st)) (e : vs.length = np) (h4 : t.ps.length = np) : vs.length ≤ t.N.length := by
  have := congrArg List.length sc.pre
  rw [List.length_take] at this
  omega
/-- a def whose exceptions are told -/
theorem fn_x {n : Nat} (hF : PFacts w P T Cl ts K mg) (all : ∀ (f : Nat) (t : FnT) (a : Addr) (fd : FuncData) (qual : Str), ts f = some t → Fun K t.name qual t.st a fd → ((∃ F, P.fns.lookup f = some F ∧ agF T t F = true) ∨ (∃ y, P.fns.lookup f = none ∧ P.tryf.lookup f = some y ∧ agTF T t y = true)) → FnG prog w K mg base (4 * n) a fd t.ps (spOf K Cl (ctxOf P (callN P n)) f))
    {f : Nat} {F : Fn} {t : FnT} {a : Addr} {fd : FuncData} {qual : Str} (hf : P.fns.lookup f = some F) (hfun : Fun K t.name qual t.st a fd) (hag : agF T t F = true) : FnGX prog w K mg base (4 * n + 3) a fd t.ps (spX K Cl (bodyW P (callN P n) f)) := by
  unfold agF at hag
  simp only [Bool.and_eq_true, decide_eq_true_eq] at hag
  obtain ⟨⟨⟨h1, h2⟩, h3⟩, h4⟩ := hag
  have sc := scB_ok h1
  have call : ∀ ds h Qa Ea, bodyW P (callN P n) f ds h Qa Ea → ds.length = F.np ∧ WpSs (ctxOf P (callN P n)) F.body { nx := fun _ h => Qa .non h, rt := Qa, ex := Ea } (startS F ds) h := fun ds h Qa Ea z => by
    unfold bodyW at z
    rw [hf] at z
    exact z
  refine FnGX.of_body (k := 4 * n + 2) hfun sc (fun vs H Q E ⟨cs, F', h, ds, Qa, Ea, _, r, z, _⟩ => ?_) (fun cdv A outer s H vs Q E hgd hr ⟨cs, F', h, ds, Qa, Ea, S, r, z, k, kx⟩ => ?_)
  · rw [r.length, (call _ _ _ _ z).1, h4]
  · obtain ⟨z1, z2⟩ := call _ _ _ _ z
    have hN : vs.length ≤ t.N.length := scope_len sc (r.length.trans z1) h4
    refine ⟨WSs _ (defBody t.st), pss_we, ?_⟩
    have O : SOk (ctxOf P (callN P n)) T Cl (cxOf (L2.CX prog w) prog w K mg base t.N qual (defScope t.st) a cdv A outer s H E) :=
      sok_of hF sc.nd rfl hgd hr all PassesOwn.leaving sto_of
    refine sSs O sc.kind F.body (defBody t.st) h2 cs F' cs F' H { nx := fun _ h => Qa .non h, rt := Qa, ex := Ea } _ (startS F ds) h (L2.start t.N vs) cs F' H ⟨?_, ?_, ?_, ?_, (fun cls d _ H => E cls d H), takes_of rfl rfl rfl rfl, ?_⟩ ⟨S, ?_, .refl, ?_, fun _ _ z => z, [], by simp⟩ z2
    · intro cs2 F2 H2 h2 σ2 ρ2 n2 q2
      exact k _ _ _ _ _ _ n2.x n2.S .non q2
    · intro v d cs2 F2 H2 h2 x2 S2 r2 q2
      exact k _ _ _ _ _ _ x2 S2 r2 q2
    · intro cs2 F2 H2 h2 σ2 ρ2 n2 q2
      exact q2.elim
    · intro cs2 F2 H2 h2 σ2 ρ2 n2 q2
      exact q2.elim
    · intro c n cs2 F2 H2 h2 σ2 ρ2 n2 q2 dd hdd
      exact kx _ _ _ _ _ _ n2.x n2.S q2 dd hdd
    · exact env_start h3 hN r
    · intro i c a' hh
      exact absurd hh getS_startO
/-- every def, to any depth -/
theorem fn_any (hF : PFacts w P T Cl ts K mg) : ∀ (n f : Nat) (t : FnT) (a : Addr) (fd : FuncData) (qual : Str), ts f = some t → Fun K t.name qual t.st a fd → ((∃ F, P.fns.lookup f = some F ∧ agF T t F = true) ∨ (∃ y, P.fns.lookup f = none ∧ P.tryf.lookup f = some y ∧ agTF T t y = true)) →
    FnG prog w K mg base (4 * n) a fd t.ps (spOf K Cl (ctxOf P (callN P n)) f)
  | 0, f, t, a, fd, qual, ht, hfun, hag =>
    ⟨fun vs H Q E ⟨_, _, _, _, _, _, _, z, _⟩ => (show False from z).elim, fun A outer s H args us vs Q E _ _ _ _ _ ⟨_, _, _, _, _, _, _, z, _⟩ => (show False from z).elim⟩
  | n + 1, f, t, a, fd, qual, ht, hfun, .inl ⟨F, hf, hag⟩ => by
    unfold agF at hag
    simp only [Bool.and_eq_true, decide_eq_true_eq] at hag
    obtain ⟨⟨⟨h1, h2⟩, h3⟩, h4⟩ := hag
    have sc := scB_ok h1
    have call : ∀ ds h Qa, callN P (n + 1) f ds h Qa → ds.length = F.np ∧ WpSs (ctxOf P (callN P n)) F.body { nx := fun _ h => Qa .non h, rt := Qa } (startS F ds) h := fun ds h Qa z => by
      have z' : (match P.fns.lookup f with
        | none => match P.tryf.lookup f with
          | some t => tryW P (callN P n) t ds h Qa
          | none => False
        | some F => ds.length = F.np ∧ WpSs (ctxOf P (callN P n)) F.body { nx := fun _ h => Qa .non h, rt := Qa } (startS F ds) h) := z
      rw [hf] at z'
      exact z'
    refine FnG.of_body (k := 4 * n + 3) hfun sc (fun vs H Q E ⟨cs, F', h, ds, Qa, _, r, z, _⟩ => ?_) (fun cdv A outer s H vs Q E hgd hr ⟨cs, F', h, ds, Qa, S, r, z, k⟩ => ?_)
    · rw [r.length, (call _ _ _ z).1, h4]
    · obtain ⟨z1, z2⟩ := call _ _ _ z
      have hN : vs.length ≤ t.N.length := scope_len sc (r.length.trans z1) h4
      refine ⟨WSs _ (defBody t.st), pss_we, ?_⟩
      have O : SOk (ctxOf P (callN P n)) T Cl (cxOf CX0 prog w K mg base t.N qual (defScope t.st) a cdv A outer s H E).nox :=
        sok_of hF sc.nd rfl hgd (hr.mono (by omega)) (fn_any hF n) PassesOwn.never (sto_of (prog := prog) (CX := CX0) (w := w) (K := K) (mg := mg) (base := base) (N := t.N) (st := t.st) (A := A) (outer := outer) (H := H) (E := E))
      refine sSs O sc.kind F.body (defBody t.st) h2 cs F' cs F' H { nx := fun _ h => Qa .non h, rt := Qa } _ (startS F ds) h (L2.start t.N vs) cs F' H ⟨?_, ?_, ?_, ?_, (fun _ _ _ _ => False), (fun u s' ⟨_, _, _, _, _, _, _, _, _, _, _, _, _, _, _, _, z⟩ => z.elim), fun _ _ _ _ _ _ _ _ _ z => z.elim⟩ ⟨S, ?_, .refl, ?_, fun _ _ z => z, [], by simp⟩ z2
      · intro cs2 F2 H2 h2 σ2 ρ2 n2 q2
        exact k _ _ _ _ _ _ n2.x n2.S .non q2
      · intro v d cs2 F2 H2 h2 x2 S2 r2 q2
        exact k _ _ _ _ _ _ x2 S2 r2 q2
      · intro cs2 F2 H2 h2 σ2 ρ2 n2 q2
        exact q2.elim
      · intro cs2 F2 H2 h2 σ2 ρ2 n2 q2
        exact q2.elim
      · exact env_start h3 hN r
      · intro i c a' hh
        exact absurd hh getS_startO
  | n + 1, f, t, a, fd, qual, ht, hfun, .inr ⟨y, hf, hy, hag⟩ => by
    unfold agTF at hag
    simp only [Bool.and_eq_true, decide_eq_true_eq] at hag
    obtain ⟨⟨⟨⟨h1, h2⟩, h3⟩, h4⟩, h5⟩ := hag
    have sc := scB_ok h1
    have call : ∀ ds h Qa, callN P (n + 1) f ds h Qa → tryW P (callN P n) y ds h Qa := fun ds h Qa z => by
      have z' : (match P.fns.lookup f with
        | none => match P.tryf.lookup f with
          | some t => tryW P (callN P n) t ds h Qa
          | none => False
        | some F => ds.length = F.np ∧ WpSs (ctxOf P (callN P n)) F.body { nx := fun _ h => Qa .non h, rt := Qa } (startS F ds) h) := z
      rw [hf, hy] at z'
      exact z'
    obtain ⟨_, hve, ⟨xg, Fg, hx1, hx2⟩, hexm, _⟩ := hF.tfn f y hy
    obtain ⟨tg, ag, fdg, qualg, g1, g2, g3, g4, g5⟩ := hF.fn y.g Fg hx2
    have FX := fn_x (prog := prog) (base := base) hF (fn_any hF n) hx2 g2 g3
    refine FnG.of_body (k := 4 * n + 3) hfun sc (fun vs H Q E ⟨cs, F', h, ds, Qa, _, r, z, _⟩ => ?_) (fun cdv A outer s H vs Q E hgd hr ⟨cs, F', h, ds, Qa, S, r, z, k⟩ => ?_)
    · rw [r.length, (call _ _ _ z).1, h4]
    · obtain ⟨z1, z2⟩ := call _ _ _ z
      have hN : vs.length ≤ t.N.length := scope_len sc (r.length.trans z1) h4
      refine ⟨WSs _ (defBody t.st), pss_we, ?_⟩
      cases ha : argV ds y.args with
      | none => rw [ha] at z2; exact z2.elim
      | some xs =>
        rw [ha] at z2
        exact try_ok (X := (cxOf CX0 prog w K mg base t.N qual (defScope t.st) a cdv A outer s H E).nox) (P := P) ⟨hF.blt, hve, hF.xnm⟩ sc.nd hgd rfl rfl (fun _ _ z => z) h2 (fun c b e => hF.cau c _ b e) hexm (fun x hx => g5 x hx) FX hr g4 S r (fun i v h => start_get h) (start_len hN) ha z2
          (fun cs' F' H' h' σ' x' S' q' => k _ _ _ _ _ _ x' S' .non q') (fun v d cs' F' H' h' x' S' r' q' => k _ _ _ _ _ _ x' S' r' q')
theorem fn_all (hF : PFacts w P T Cl ts K mg) (n f : Nat) (F : Fn) (hf : P.fns.lookup f = some F) (t : FnT) (a : Addr) (fd : FuncData) (qual : Str) (h1 : ts f = some t) (h2 : Fun K t.name qual t.st a fd) (h3 : agF T t F = true) :
    FnG prog w K mg base (4 * n) a fd t.ps (spOf K Cl (ctxOf P (callN P n)) f) := fn_any hF n f t a fd qual h1 h2 (.inl ⟨F, hf, h3⟩)
end

/-! ### constants of the module -/
theorem relV_of {u : Value} {v : V} (h : absV u = some v) : RelV v u := by
  cases u <;> simp [absV] at h <;> subst h <;> first | rfl | exact ⟨_, rfl⟩
def valsOf : List Value → Option (List V)
  | [] => some []
  | u :: us => match absV u, valsOf us with
    | some v, some vs => some (v :: vs)
    | _, _ => none
theorem vals_of : ∀ {us : List Value} {vs : List V}, valsOf us = some vs → Vals vs us
  | [], vs, h => by simp [valsOf] at h; subst h; exact .nil
  | u :: us, vs, h => by
    simp only [valsOf] at h
    split at h
    · rename_i v vs' h1 h2
      cases h
      exact .cons (relV_of h1) (vals_of h2)
    · cases h
/-- plain items -/
def flatOf : List V → Option (List AV)
  | [] => some []
  | .non :: r => (flatOf r).map (.non :: ·)
  | .bl b :: r => (flatOf r).map (.bl b :: ·)
  | .int b :: r => (flatOf r).map (.int b :: ·)
  | .str b :: r => (flatOf r).map (.str b :: ·)
  | _ => none
theorem flat_reps {K : PySem.W.Frag} {cs : List Addr} {F : Hp} : ∀ {vs : List V} {ds : List AV}, flatOf vs = some ds → Reps K cs F vs ds
  | [], ds, h => by simp [flatOf] at h; subst h; exact .nil
  | v :: vs, ds, h => by
    cases v <;> simp [flatOf] at h <;> obtain ⟨l, h1, h2⟩ := h <;> subst h2 <;> refine .cons ?_ (flat_reps h1)
    · exact .non
    · exact .bl _
    · exact .int _
    · exact .str _
/-- a tuple of plain items that stands in the written part -/
theorem tup_glob {K : PySem.W.Frag} {a : Addr} {od : Option Addr} {its : Array Value} {n : Nat} {sl : Array (Option Value)} {vs : List V} {ds : List AV} (l : K.lookup a = some ⟨.type "tuple", od, .seq its n, sl⟩) (hz : its.size ≤ sizeLine)
    (hv : valsOf its.toList = some vs) (hd : flatOf vs = some ds) : ∀ cs F, Rep K cs F (.ref a) (.tup ds) := fun cs F =>
  .tup (.inr ⟨_, its, n, l, rfl, rfl, hz, vals_of hv⟩) (flat_reps hd)

/-! ### the end of a law -/
theorem law_sp {K : PySem.W.Frag} {Cl : Nat → Addr} {P : Prg} {n fl : Nat} (h : ∀ ns : List Int, ns.length ≤ 63 → callN P n fl [.ro (ns.map AV.int)] [] fun d _ => d = .bl true) :
    ∀ (H : Hp) (a : Addr) (ns : List Int), ns.length ≤ 63 → Only H → SqL K H a (ns.map V.int) → spOf K Cl (ctxOf P (callN P n)) fl [.ref a] H (fun v _ => v = .bl true) fun _ _ _ => False := by
  intro H a ns hl _ hS
  have S : StOk K Cl [] H H [] := ⟨fun _ _ z => z, rfl, by simp, fun n a q => by simp at q, fun a q => by simp at q⟩
  have rs : Reps K [] H (ns.map V.int) (ns.map AV.int) := by
    clear hS hl
    induction ns with
    | nil => exact .nil
    | cons n ns ih => exact .cons (.int n) ih
  refine ⟨[], H, [], [.ro (ns.map AV.int)], fun d _ => d = .bl true, S, .cons (.ro hS rs) .nil, h ns hl, fun v d cs' F' H' h' _ _ r q => ?_⟩
  subst q
  cases r
  rfl
/-- the head of a law whose def keeps what FnG says -/
theorem head_G {P : Program} {W : World} {K : PySem.W.Frag} {gl mb : Str → Option Value} {k : Nat} {fa a : Addr} {fd : FuncData} {x : Str} {sp : Sp} {s1 : Shared} {vs : List Value} {ns : List Int}
    (KX : K.In s1.heap) (hns : s1.heap.Ns mainGlobals gl) (hb : s1.heap.Ns builtinsNs mb) (hbb : ∀ x : Str, x ≠ "__name__" → mb x = bootBuiltins x) (hlim : s1.heap.NoLimit) (hg : s1.gens = #[])
    (ha : s1.heap.get? a = some ⟨.type "list", none, .seq vs.toArray 0, #[]⟩) (hi : IntsAre vs ns) (hl : ns.length ≤ sizeLine) (room : Room k callerA)
    (F : ∀ B : Heap, K.In B → B.Ns mainGlobals gl → FnG P W K gl B k fa fd [x] sp) (bnd : ∀ (s : Shared) (u : Value), BindsTo s fd ⟨[u], []⟩ [(x, u)])
    (want : ∀ H : Hp, Only H → SqL K H a (ns.map V.int) → sp [.ref a] H (fun v _ => v = .bl true) fun _ _ _ => False) :
    codeAny (model P W) callerA (.call (.ref fa) ⟨[.ref a], []⟩) (fun r s2 => r = .ok (.ret (.bool true)) ∧ OldK s1.heap s2.heap ∧ s2.os = s1.os ∧ AllBare s2.gens) s1 := by
  have rel : Vals (ns.map V.int) vs := vals_ints hi
  have core : ∀ H : Hp, Only H → SqL K H a (ns.map V.int) → HOk P W H s1.heap → (∀ b, H b ≠ none → b = a ∧ K.lookup a = none) →
      codeAny (model P W) callerA (.call (.ref fa) ⟨[.ref a], []⟩) (fun r s2 => r = .ok (.ret (.bool true)) ∧ OldK s1.heap s2.heap ∧ s2.os = s1.os ∧ AllBare s2.gens) s1 := by
    intro H only sq ok at_
    have off : ∀ b o es ep, s1.heap.get? b = some o → o.data = .dict es ep → H b = none := by
      intro b o es ep e d
      apply Classical.byContradiction
      intro z
      obtain ⟨rfl, _⟩ := at_ b z
      rw [ha] at e
      cases e
      cases d
    have nsH : ∀ b m, s1.heap.Ns b m → (hidT s1.heap H).Ns b m := by
      rintro b m ⟨o, es, ep, e, d, r⟩
      exact ⟨o, es, ep, hidT_get e (off b o es ep e d), d, r⟩
    have inK : K.In (hidT s1.heap H) := by
      intro b o e
      refine hidT_get (KX b o e) (Classical.byContradiction fun z => ?_)
      obtain ⟨rfl, n⟩ := at_ b z
      rw [n] at e
      cases e
    obtain ⟨mc, c1, c2⟩ := hlim
    have md : Mod K gl (hidT s1.heap H) := ⟨inK, nsH _ _ hns, ⟨mb, nsH _ _ hb, hbb⟩, ⟨mc, nsH _ _ c1, c2⟩⟩
    have nofr : ∀ b, b ∈ frs [] → False := fun b z => by cases z
    have env : Env0 P W K gl (hidT s1.heap H) callerA [] s1 H := by
      refine ⟨rfl, md, fun b o e => of_hidT e, ?_, trivial, fun b z => (nofr b z).elim, ok, .of_eq hg⟩
      rw [hidT_size]
      exact Nat.le_refl _
    refine codeAny_mono ((F _ inK (nsH _ _ hns)).go callerA [] s1 H ⟨[.ref a], []⟩ [.ref a] [.ref a] _ _ rfl room env (bnd s1 (.ref a)) (.cons rfl .nil) (want H only sq)) ?_
    intro r s2 z
    match r, z with
    | .ok (.ret u), ⟨v, H2, os, bare, un, ok2, rv, q⟩ =>
      have q : v = .bl true := q
      subst q
      have rv : u = Value.bool true := rv
      subst rv
      refine ⟨rfl, OldK.of_keep ?_, os, bare⟩
      intro b o e
      cases hb : H b with
      | none => exact un.keep b o e hb (fun z => nofr b z) (by simp)
      | some y =>
        rcases only b with z | ⟨ob, xs, z⟩
        · rw [hb] at z; cases z
        · have f1 := (ok b _ z).1
          have f2 := (ok2 b _ (un.frzs b ob _ z)).1
          rw [e] at f1
          cases f1
          exact f2
    | .ok .next, z => exact z.elim
    | .ok .brk, z => exact z.elim
    | .ok .cont, z => exact z.elim
    | .error _, z => exact z.elim
  cases at_ : K.lookup a with
  | some o =>
    have e := KX a o at_
    rw [ha] at e
    cases e
    refine core (fun _ => none) (fun _ => .inl rfl) (.inr ⟨_, vs.toArray, 0, at_, rfl, rfl, rfl, ?_, by simpa using rel⟩) (fun b u z => nomatch z) fun b z => absurd rfl z
    rw [List.size_toArray, hi.length]
    exact hl
  | none =>
    have me : (fun b => if b = a then some (HO.frz ⟨.type "list", none, .seq vs.toArray 0, #[]⟩ (.lst (ns.map V.int))) else none) a = some (HO.frz ⟨.type "list", none, .seq vs.toArray 0, #[]⟩ (.lst (ns.map V.int))) := if_pos rfl
    have no : ∀ b, b ≠ a → (fun b => if b = a then some (HO.frz ⟨.type "list", none, .seq vs.toArray 0, #[]⟩ (.lst (ns.map V.int))) else none) b = none := fun b z => if_neg z
    refine core _ (fun b => ?_) (.inl (.inr ⟨_, me⟩)) (fun b u z => ?_) fun b z => ⟨Classical.byContradiction fun n => z (no b n), at_⟩
    · by_cases n : b = a
      · subst n; exact .inr ⟨_, _, me⟩
      · exact .inl (no b n)
    · by_cases n : b = a
      · subst n
        cases me.symm.trans z
        exact ⟨ha, by rw [List.length_map]; exact hl, vs, _, rel, ha⟩
      · cases (no b n).symm.trans z
theorem walk_G {l : PySem.W.OpenLaw} {n k : Nat} {q : Program} {loose : List Str} {XP : (Str → Option Value) → Heap → Prop} {YP : World → Heap → Prop} {d : DefRec} {K : Params → PySem.W.Frag} {x : Str}
    (hn : l.most = some n) (hn2 : n ≤ sizeLine) (hdf : d.params.defaults = []) (room : Room k callerA) (hY : ∀ (w : World) (h : Heap), YP w h → (K w.params).In h)
    (F : ∀ (w : World) (gl : Str → Option Value) (fa : Addr) (h : Heap), (K w.params).In h → h.Ns mainGlobals gl → gl d.name = some (.ref fa) →
      ∃ (fd : FuncData) (sp : Sp), (∀ (s : Shared) (u : Value), BindsTo s fd ⟨[u], []⟩ [(x, u)]) ∧ (∀ B : Heap, (K w.params).In B → B.Ns mainGlobals gl → FnG l.prog w (K w.params) gl B k fa fd [x] sp) ∧
        ∀ (H : Hp) (a : Addr) (ns : List Int), ns.length ≤ n → Only H → SqL (K w.params) H a (ns.map V.int) → sp [.ref a] H (fun v _ => v = .bl true) fun _ _ _ => False) :
    PySem.W.WalkO q loose XP YP l.row.toRowW d [] (fun f vs => PySem.call f vs) := by
  refine Att.attach_call hn hdf fun w s0 s1 gl mb fa o pm cd dc a vs ns G Y ho hd hcd hm hobj hints hlen hg => ?_
  have KX := hY w s1.heap Y
  obtain ⟨fd, sp, bnd, hF, want⟩ := F w gl fa s1.heap KX G.T.g hm
  exact head_G KX G.T.g G.T.b G.T.builtins G.T.nolimit hg hobj hints (Nat.le_trans hlen hn2) room hF bnd fun H hO hS => want H a ns hlen hO hS
end VL

set_option maxRecDepth 100000
set_option maxHeartbeats 4000000
/-! VL: reasoning over the transformers. -/
namespace VL
open PySem L2

section
variable {h : AHeap} {Q : KA} {i j : Int} {x y : AV} {s t : Str} {b c : Bool} {xs ys : List AV}
theorem k_add : binK h .Add (.int i) (.int j) Q = Q (.int (i + j)) := rfl
theorem k_addS : binK h .Add (.str s) (.str t) Q = (s.length + t.length ≤ sizeLine ∧ Q (.str (s ++ t))) := rfl
theorem k_addT : binK h .Add (.tup xs) (.tup ys) Q = (xs.length + ys.length ≤ sizeLine ∧ Q (.tup (xs ++ ys))) := rfl
theorem k_sub : binK h .Sub (.int i) (.int j) Q = Q (.int (i - j)) := rfl
theorem k_mul : binK h .Mult (.int i) (.int j) Q = (CMulA i j ∧ Q (.int (i * j))) := rfl
theorem k_mulS : binK h .Mult (.str s) (.int j) Q = ((-(2 ^ 60) < j ∧ j < 2 ^ 60 ∧ s.length * j.toNat ≤ 1000000) ∧ Q (.str (strRep s j))) := rfl
theorem k_fdiv : binK h .FloorDiv (.int i) (.int j) Q = (CDivA j ∧ Q (.int (i / j))) := rfl
theorem k_mod : binK h .Mod (.int i) (.int j) Q = (0 < j ∧ Q (.int (i % j))) := rfl
theorem k_pow : binK h .Pow (.int i) (.int j) Q = (CPow i j ∧ Q (.int (i ^ j.toNat))) := rfl
theorem k_neg : negK (.int i) Q = Q (.int (-i)) := rfl
theorem k_lt : cmpK h .Lt (.int i) (.int j) Q = Q (.bl (decide (i < j))) := rfl
theorem k_le : cmpK h .LtE (.int i) (.int j) Q = Q (.bl (decide (i ≤ j))) := rfl
theorem k_gt : cmpK h .Gt (.int i) (.int j) Q = Q (.bl (decide (j < i))) := rfl
theorem k_ge : cmpK h .GtE (.int i) (.int j) Q = Q (.bl (decide (j ≤ i))) := rfl
theorem k_eqI : cmpK h .Eq (.int i) (.int j) Q = Q (.bl (decide (i = j))) := rfl
theorem k_neI : cmpK h .NotEq (.int i) (.int j) Q = Q (.bl (!decide (i = j))) := rfl
theorem k_eqS : cmpK h .Eq (.str s) (.str t) Q = Q (.bl (decide (s = t))) := rfl
theorem k_neS : cmpK h .NotEq (.str s) (.str t) Q = Q (.bl (!decide (s = t))) := rfl
theorem k_eqB : cmpK h .Eq (.bl b) (.bl c) Q = Q (.bl (decide (b = c))) := rfl
theorem k_neB : cmpK h .NotEq (.bl b) (.bl c) Q = Q (.bl (!decide (b = c))) := rfl
theorem k_is : cmpK h .Is x .non Q = Q (.bl (isNon x)) := rfl
theorem k_isn : cmpK h .IsNot x .non Q = Q (.bl (!isNon x)) := rfl
theorem k_isB : cmpK h .Is (.bl b) (.bl c) Q = Q (.bl (decide (b = c))) := rfl
theorem k_isnB : cmpK h .IsNot (.bl b) (.bl c) Q = Q (.bl (!decide (b = c))) := rfl
theorem k_gIn {kvs : List (Str × Int)} {R : Bool → Prop} : gInK (some kvs) b (.str s) R = R (if b then !(kvs.lookup s).isSome else (kvs.lookup s).isSome) := rfl
theorem k_gGet {kvs : List (Str × Int)} (e : kvs.lookup s = some i) (q : Q (.int i)) : gGetK (some kvs) (.str s) Q := by
  show (match kvs.lookup s with | some i => Q (.int i) | none => False)
  rw [e]; exact q
theorem k_isC {n c : Nat} {fs : List (Str × AV)} (e : cells h n = .obj c fs) (q : Q (.bl true)) : isCK h c (.adr n) Q := by
  show (match cells h n with | .obj c' _ => c' = c ∧ Q (.bl true) | _ => False)
  rw [e]; exact ⟨rfl, q⟩
theorem k_in : cmpK h .In x y Q = inK h false x y Q := rfl
theorem k_nin : cmpK h .NotIn x y Q = inK h true x y Q := rfl
theorem k_inS {c : Nat} {b : Bool} : inK h b (.str ⟨#[c]⟩) (.str t) Q = Q (.bl (if b then !decide (c ∈ t.cps.toList) else decide (c ∈ t.cps.toList))) := rfl
theorem k_inF {b : Bool} (hx : flatA x = true) (hy : viewT h y = some xs) (hf : xs.all flatA = true) (hn : ∀ z, y ≠ .str z) (q : Q (.bl (if b then !(xs.any fun y => eqF y x) else xs.any fun y => eqF y x))) : inK h b x y Q := by
  unfold inK
  split
  · exact absurd rfl (hn _)
  · rw [hy]
    exact ⟨hx, hf, q⟩
theorem isi_non_int : isiK .non "int" h Q = Q (.bl false) := by simp [isiK, view]
theorem isi_non_bool : isiK .non "bool" h Q = Q (.bl false) := by simp [isiK, view]
theorem isi_non_str : isiK .non "str" h Q = Q (.bl false) := by simp [isiK, view]
theorem isi_non_list : isiK .non "list" h Q = Q (.bl false) := by simp [isiK, view]
theorem isi_non_tuple : isiK .non "tuple" h Q = Q (.bl false) := by simp [isiK, view]
theorem isi_bl_int : isiK (.bl b) "int" h Q = Q (.bl true) := by simp [isiK, view]
theorem isi_bl_bool : isiK (.bl b) "bool" h Q = Q (.bl true) := by simp [isiK, view]
theorem isi_bl_str : isiK (.bl b) "str" h Q = Q (.bl false) := by simp [isiK, view]
theorem isi_bl_list : isiK (.bl b) "list" h Q = Q (.bl false) := by simp [isiK, view]
theorem isi_bl_tuple : isiK (.bl b) "tuple" h Q = Q (.bl false) := by simp [isiK, view]
theorem isi_int_int : isiK (.int i) "int" h Q = Q (.bl true) := by simp [isiK, view]
theorem isi_int_bool : isiK (.int i) "bool" h Q = Q (.bl false) := by simp [isiK, view]
theorem isi_int_str : isiK (.int i) "str" h Q = Q (.bl false) := by simp [isiK, view]
theorem isi_int_list : isiK (.int i) "list" h Q = Q (.bl false) := by simp [isiK, view]
theorem isi_int_tuple : isiK (.int i) "tuple" h Q = Q (.bl false) := by simp [isiK, view]
theorem isi_str_int : isiK (.str s) "int" h Q = Q (.bl false) := by simp [isiK, view]
theorem isi_str_bool : isiK (.str s) "bool" h Q = Q (.bl false) := by simp [isiK, view]
theorem isi_str_str : isiK (.str s) "str" h Q = Q (.bl true) := by simp [isiK, view]
theorem isi_str_list : isiK (.str s) "list" h Q = Q (.bl false) := by simp [isiK, view]
theorem isi_str_tuple : isiK (.str s) "tuple" h Q = Q (.bl false) := by simp [isiK, view]
theorem isi_tup_int : isiK (.tup xs) "int" h Q = Q (.bl false) := by simp [isiK, view]
theorem isi_tup_bool : isiK (.tup xs) "bool" h Q = Q (.bl false) := by simp [isiK, view]
theorem isi_tup_str : isiK (.tup xs) "str" h Q = Q (.bl false) := by simp [isiK, view]
theorem isi_tup_list : isiK (.tup xs) "list" h Q = Q (.bl false) := by simp [isiK, view]
theorem isi_tup_tuple : isiK (.tup xs) "tuple" h Q = Q (.bl true) := by simp [isiK, view]
theorem isi_lst_int : isiK (.lst xs) "int" h Q = Q (.bl false) := by simp [isiK, view]
theorem isi_lst_bool : isiK (.lst xs) "bool" h Q = Q (.bl false) := by simp [isiK, view]
theorem isi_lst_str : isiK (.lst xs) "str" h Q = Q (.bl false) := by simp [isiK, view]
theorem isi_lst_list : isiK (.lst xs) "list" h Q = Q (.bl true) := by simp [isiK, view]
theorem isi_lst_tuple : isiK (.lst xs) "tuple" h Q = Q (.bl false) := by simp [isiK, view]
theorem isi_ro_int : isiK (.ro xs) "int" h Q = Q (.bl false) := by simp [isiK, view]
theorem isi_ro_bool : isiK (.ro xs) "bool" h Q = Q (.bl false) := by simp [isiK, view]
theorem isi_ro_str : isiK (.ro xs) "str" h Q = Q (.bl false) := by simp [isiK, view]
theorem isi_ro_list : isiK (.ro xs) "list" h Q = Q (.bl true) := by simp [isiK, view]
theorem isi_ro_tuple : isiK (.ro xs) "tuple" h Q = Q (.bl false) := by simp [isiK, view]
theorem k_intB : bltK h .int [.bl b] Q = Q (.int (if b = true then 1 else 0)) := rfl
theorem isNon_non : isNon .non = true := rfl
theorem isNon_int : isNon (.int i) = false := rfl
theorem isNon_str : isNon (.str s) = false := rfl
theorem isNon_lst : isNon (.lst xs) = false := rfl
theorem isNon_tup : isNon (.tup xs) = false := rfl
theorem isNon_adr {n : Nat} : isNon (.adr n) = false := rfl
theorem k_subL (hv : viewT h x = some xs) (hn : ∀ z, x ≠ .str z) {d : AV} (e : atI xs i = some d) (q : Q d) : subK h x (.int i) Q := by
  unfold subK
  split
  · exact absurd rfl (hn _)
  · rw [hv]
    simp only [e]
    exact q
theorem k_subS {k : Nat} (hz : s.length ≤ sizeLine) {c : Nat} (e : s.cps.toList[k]? = some c) (q : Q (.str ⟨#[c]⟩)) : subK h (.str s) (.int (k : Int)) Q := by
  have hk : k < s.cps.toList.length := (List.getElem?_eq_some_iff.mp e).1
  have : atI s.cps.toList (k : Int) = some c := by
    unfold atI
    rw [Evl.ixN_nat hk]
    exact e
  refine ⟨hz, ?_⟩
  rw [this]
  exact q
theorem atI_nat {α : Type} {l : List α} {k : Nat} (hk : k < l.length) : atI l (k : Int) = l[k]? := by
  unfold atI
  rw [Evl.ixN_nat hk]
  rfl
theorem k_lenS : bltK h .len [.str s] Q = (s.length ≤ sizeLine ∧ Q (.int s.length)) := rfl
theorem k_lenL : bltK h .len [.lst xs] Q = Q (.int xs.length) := rfl
theorem k_lenR : bltK h .len [.ro xs] Q = Q (.int xs.length) := rfl
theorem k_lenT : bltK h .len [.tup xs] Q = Q (.int xs.length) := rfl
theorem k_abs : bltK h .abs [.int i] Q = Q (.int (if i < 0 then -i else i)) := rfl
theorem k_int : bltK h .int [.int i] Q = Q (.int i) := rfl
theorem k_intS {n : Int} (e : PySem.intText? s = some n) (hz : s.length ≤ 640) (q : Q (.int n)) : bltK h .int [.str s] Q := by
  show (match PySem.intText? s with | some n => s.length ≤ 640 ∧ Q (.int n) | none => False)
  rw [e]
  exact ⟨hz, q⟩
theorem k_str : bltK h .str [.int i] Q = (i.natAbs.log2 < 1920 ∧ Q (.str (toString i))) := rfl
theorem k_max2 : bltK h .max2 [.int i, .int j] Q = Q (.int (if j > i then j else i)) := rfl
theorem k_min2 : bltK h .min2 [.int i, .int j] Q = Q (.int (if j < i then j else i)) := rfl
theorem k_sliceS {lo hi : Option Int} : sliceK h (.str s) lo hi Q = (s.length ≤ sizeLine ∧ Q (.str (cutS s lo hi))) := rfl
theorem k_sliceT {lo hi : Option Int} : sliceK h (.tup xs) lo hi Q = Q (.tup (cut xs lo hi)) := rfl
theorem viewT_lst : viewT h (.lst xs) = some xs := rfl
theorem viewT_ro : viewT h (.ro xs) = some xs := rfl
theorem viewT_tup : viewT h (.tup xs) = some xs := rfl
theorem view_lst : view h (.lst xs) = some xs := rfl
theorem view_ro : view h (.ro xs) = some xs := rfl
theorem viewW_lst : viewW h (.lst xs) = some xs := rfl
theorem tru_bl : truK h (.bl b) = fun Q => Q b := rfl
theorem asStrs_map (l : List Str) : asStrs (l.map AV.str) = some l := by
  induction l with
  | nil => rfl
  | cons x l ih => simp [asStrs, ih]
theorem asInts_map (l : List Int) : asInts (l.map AV.int) = some l := by
  induction l with
  | nil => rfl
  | cons x l ih => simp [asInts, ih]
theorem asBools_map (l : List Bool) : asBools (l.map AV.bl) = some l := by
  induction l with
  | nil => rfl
  | cons x l ih => simp [asBools, ih]
end
theorem mulA_r {i j : Int} (h1 : -18446744073709551616 < j) (h2 : j < 18446744073709551616) : CMulA i j := by
  have e : (2 ^ 64 : Int) = 18446744073709551616 := by decide
  refine .inl (.inr ⟨?_, ?_⟩) <;> omega
theorem mulA_l {i j : Int} (h1 : -18446744073709551616 < i) (h2 : i < 18446744073709551616) : CMulA i j := by
  have e : (2 ^ 64 : Int) = 18446744073709551616 := by decide
  refine .inl (.inl ⟨?_, ?_⟩) <;> omega
theorem divA {j : Int} (h1 : 0 < j) (h2 : j < 18446744073709551616) : CDivA j := ⟨h1, by
  have : j.natAbs < 2 ^ 64 := by
    have e : (2 ^ 64 : Nat) = 18446744073709551616 := by decide
    omega
  have := PySem.Flt.log2_lt_of (by decide : 0 < 64) this
  omega⟩

/-! ### loops -/
/-- a for by an invariant; the body is shown for any ends that follow from it -/
theorem for_invX {B : AV → Kt → Env → AHeap → Prop} {chk : AHeap → Prop} {D : Kt} {xs : List AV} {ρ : Env} {h : AHeap} (Inv : Nat → Env → AHeap → Prop) (h0 : Inv 0 ρ h) (hc : ∀ i ρ h, i ≤ xs.length → Inv i ρ h → chk h)
    (hs : ∀ i x ρ h (D' : Kt), xs[i]? = some x → Inv i ρ h → (∀ ρ h, Inv (i + 1) ρ h → D'.nx ρ h) → (∀ ρ h, Inv (i + 1) ρ h → D'.ct ρ h) → (∀ v h, D.rt v h → D'.rt v h) → (∀ ρ h, D.nx ρ h → D'.bk ρ h) → (∀ c n h, D.ex c n h → D'.ex c n h) → B x D' ρ h)
    (hd : ∀ ρ h, Inv xs.length ρ h → D.nx ρ h) : forL B chk D xs ρ h := by
  have key : ∀ (ys : List AV) (i : Nat), xs.drop i = ys → i ≤ xs.length → ∀ ρ h, Inv i ρ h → forL B chk D ys ρ h := by
    intro ys
    induction ys with
    | nil =>
      intro i e hi ρ h hI
      have : i = xs.length := by
        have := List.drop_eq_nil_iff.mp e
        omega
      subst this
      exact ⟨hc _ _ _ hi hI, hd _ _ hI⟩
    | cons y ys ih =>
      intro i e hi ρ h hI
      have hlt : i < xs.length := by
        cases Nat.lt_or_ge i xs.length with
        | inl q => exact q
        | inr q => rw [List.drop_of_length_le q] at e; cases e
      have hx : xs[i]? = some y := by
        rw [List.drop_eq_getElem_cons hlt] at e
        cases e
        exact List.getElem?_eq_getElem hlt
      have ht : xs.drop (i + 1) = ys := by
        rw [List.drop_eq_getElem_cons hlt] at e
        exact (List.cons.inj e).2
      exact ⟨hc _ _ _ hi hI, hs i y ρ h _ hx hI (fun ρ h q => ih (i + 1) ht hlt ρ h q) (fun ρ h q => ih (i + 1) ht hlt ρ h q) (fun _ _ q => q) (fun _ _ q => q) (fun _ _ _ q => q)⟩
  exact key xs 0 rfl (Nat.zero_le _) ρ h h0
theorem for_inv {B : AV → Kt → Env → AHeap → Prop} {chk : AHeap → Prop} {D : Kt} {xs : List AV} {ρ : Env} {h : AHeap} (Inv : Nat → Env → AHeap → Prop) (h0 : Inv 0 ρ h) (hc : ∀ i ρ h, i ≤ xs.length → Inv i ρ h → chk h)
    (hs : ∀ i x ρ h (D' : Kt), xs[i]? = some x → Inv i ρ h → (∀ ρ h, Inv (i + 1) ρ h → D'.nx ρ h) → (∀ ρ h, Inv (i + 1) ρ h → D'.ct ρ h) → (∀ v h, D.rt v h → D'.rt v h) → (∀ ρ h, D.nx ρ h → D'.bk ρ h) → B x D' ρ h)
    (hd : ∀ ρ h, Inv xs.length ρ h → D.nx ρ h) : forL B chk D xs ρ h :=
  for_invX Inv h0 hc (fun i x ρ h D' a b c d e f _ => hs i x ρ h D' a b c d e f) hd
/-- a comprehension by an invariant over what it has made -/
theorem comp_inv {B : AV → AHeap → (Option AV → AHeap → Prop) → Prop} {chk : AHeap → Prop} {xs acc : List AV} {h : AHeap} {Q : List AV → AHeap → Prop} (Inv : Nat → List AV → AHeap → Prop) (h0 : Inv 0 acc h) (hc : ∀ i a h, i ≤ xs.length → Inv i a h → chk h)
    (hs : ∀ i x a h R, xs[i]? = some x → Inv i a h → (∀ (y : AV) h', Inv (i + 1) (a ++ [y]) h' → R (some y) h') → (∀ h', Inv (i + 1) a h' → R none h') → B x h R) (hd : ∀ a h, Inv xs.length a h → Q a h) : compL B chk xs acc h Q := by
  have key : ∀ (ys : List AV) (i : Nat), xs.drop i = ys → i ≤ xs.length → ∀ a h, Inv i a h → compL B chk ys a h Q := by
    intro ys
    induction ys with
    | nil =>
      intro i e hi a h hI
      have : i = xs.length := by
        have := List.drop_eq_nil_iff.mp e
        omega
      subst this
      exact ⟨hc _ _ _ hi hI, hd _ _ hI⟩
    | cons y ys ih =>
      intro i e hi a h hI
      have hlt : i < xs.length := by
        cases Nat.lt_or_ge i xs.length with
        | inl q => exact q
        | inr q => rw [List.drop_of_length_le q] at e; cases e
      have hx : xs[i]? = some y := by
        rw [List.drop_eq_getElem_cons hlt] at e
        cases e
        exact List.getElem?_eq_getElem hlt
      have ht : xs.drop (i + 1) = ys := by
        rw [List.drop_eq_getElem_cons hlt] at e
        exact (List.cons.inj e).2
      exact ⟨hc _ _ _ hi hI, hs i y a h _ hx hI (fun y h q => ih (i + 1) ht hlt _ h q) (fun h q => ih (i + 1) ht hlt _ h q)⟩
  exact key xs 0 rfl (Nat.zero_le _) acc h h0
/-- a comprehension without a test whose items make what f says, the heap as it was -/
theorem comp_map {B : AV → AHeap → (Option AV → AHeap → Prop) → Prop} {xs : List AV} {h : AHeap} {Q : List AV → AHeap → Prop} (f : Nat → AV) (hs : ∀ i x R, xs[i]? = some x → R (some (f i)) h → B x h R) (hd : Q ((List.range xs.length).map f) h) :
    compL B (fun _ => True) xs [] h Q := by
  refine comp_inv (fun i a h' => a = (List.range i).map f ∧ h' = h) ⟨rfl, rfl⟩ (fun _ _ _ _ _ => trivial) ?_ ?_
  · rintro i x a h' R hx ⟨rfl, rfl⟩ k1 k2
    exact hs i x R hx (k1 _ _ ⟨by rw [List.range_succ, List.map_append]; rfl, rfl⟩)
  · rintro a h' ⟨rfl, rfl⟩
    exact hd
/-- a while by an invariant and a measure -/
theorem wh_inv {T : Env → AHeap → (Bool → AHeap → Prop) → Prop} {B : Kt → Env → AHeap → Prop} {D : Kt} {ρ : Env} {h : AHeap} (W : Nat → Env → AHeap → Prop) (m0 : Nat) (h0 : W m0 ρ h)
    (hs : ∀ m ρ h (D' : Kt), W m ρ h → (∀ m' ρ h, m' < m → W m' ρ h → D'.nx ρ h) → (∀ m' ρ h, m' < m → W m' ρ h → D'.ct ρ h) → (∀ v h, D.rt v h → D'.rt v h) → (∀ ρ h, D.nx ρ h → D'.bk ρ h) → T ρ h fun b h1 => if b = true then B D' ρ h1 else D.nx ρ h1) : whL T B D ρ h :=
  ⟨W, ⟨m0, h0⟩, fun m ρ h w => hs m ρ h _ w (fun m' _ _ a b => ⟨m', a, b⟩) (fun m' _ _ a b => ⟨m', a, b⟩) (fun _ _ q => q) (fun _ _ q => q)⟩
theorem ite_b {c : Prop} [Decidable c] {A B : Prop} (h1 : c → A) (h2 : ¬ c → B) : if decide c = true then A else B := by
  by_cases h : c
  · rw [if_pos (decide_eq_true h)]; exact h1 h
  · rw [if_neg (by rw [decide_eq_false h]; decide)]; exact h2 h
theorem ite_p {c : Prop} [Decidable c] {A B : Prop} (h1 : c → A) (h2 : ¬ c → B) : if c then A else B := by
  by_cases h : c
  · rw [if_pos h]; exact h1 h
  · rw [if_neg h]; exact h2 h
theorem ctx_call {P : Prg} {c} : (ctxOf P c).call = c := rfl
theorem ctx_gdct {P : Prg} {c} {g : Nat} : (ctxOf P c).gdct g = P.gdct.lookup g := rfl
theorem ctx_glob {P : Prg} {c} {g : Nat} : (ctxOf P c).glob g = P.glob.lookup g := rfl
theorem items_range {n : Nat} {f : Nat → AV} {i : Nat} {x : AV} (h : ((List.range n).map f)[i]? = some x) : i < n ∧ x = f i := by
  rw [List.getElem?_map] at h
  obtain ⟨j, h1, rfl⟩ := Option.map_eq_some_iff.mp h
  have h2 := List.getElem?_eq_some_iff.mp h1
  obtain ⟨h3, h4⟩ := h2
  simp at h3 h4
  exact ⟨h3, by rw [h4]⟩
theorem items_map {α : Type} {l : List α} {f : α → AV} {i : Nat} {x : AV} (h : (l.map f)[i]? = some x) : ∃ a, l[i]? = some a ∧ x = f a := by
  rw [List.getElem?_map] at h
  obtain ⟨j, h1, rfl⟩ := Option.map_eq_some_iff.mp h
  exact ⟨j, h1, rfl⟩
theorem cut_take {α : Type} (l : List α) (i j n : Nat) (e : n = l.length) : (l.drop (min i n)).take (min j n - min i n) = (l.drop i).take (j - i) := by
  subst e
  by_cases hi : l.length ≤ i
  · rw [Nat.min_eq_right hi, List.drop_of_length_le (Nat.le_refl _), List.drop_of_length_le hi]; simp
  · rw [Nat.min_eq_left (by omega : i ≤ l.length)]
    by_cases hj : j ≤ l.length
    · rw [Nat.min_eq_left hj]
    · rw [Nat.min_eq_right (by omega : l.length ≤ j), List.take_of_length_le (by simp), List.take_of_length_le (by simp; omega)]
theorem cut_ss {α : Type} (l : List α) (i j : Nat) : cut l (some (i : Int)) (some (j : Int)) = (l.drop i).take (j - i) := by
  unfold cut
  rw [HT.sIx_nat, HT.sIx_nat, cut_take _ _ _ _ rfl]
theorem cut_ns {α : Type} (l : List α) (j : Nat) : cut l none (some (j : Int)) = l.take j := by
  have := cut_ss l 0 j
  rw [List.drop_zero, Nat.sub_zero] at this
  rw [← this]
  unfold cut
  rw [HT.sIx_nat, HT.sIx_nat, HT.sIx_none, Nat.zero_min]
theorem cut_sn {α : Type} (l : List α) (i : Nat) : cut l (some (i : Int)) none = l.drop i := by
  have := cut_ss l i l.length
  rw [List.take_of_length_le (by simp)] at this
  rw [← this]
  unfold cut
  rw [HT.sIx_nat, HT.sIx_nat, HT.sIx_none, Nat.min_self]
theorem look_mem {α β : Type} [BEq α] [LawfulBEq α] {l : List (α × β)} {k : α} {v : β} (h : l.lookup k = some v) : (k, v) ∈ l := by
  induction l with
  | nil => cases h
  | cons x l ih =>
    obtain ⟨a, b⟩ := x
    rw [List.lookup_cons] at h
    cases e : k == a with
    | true =>
      rw [e] at h
      have h : some b = some v := h
      cases h
      rw [eq_of_beq e]
      exact List.mem_cons_self ..
    | false =>
      rw [e] at h
      exact List.mem_cons_of_mem _ (ih h)
theorem call_of {P : Prg} {n f : Nat} {F : Fn} {args : List AV} {h : AHeap} {Q : AV → AHeap → Prop} (e : P.fns.lookup f = some F) (l : args.length = F.np) (w : WpSs (ctxOf P (callN P n)) F.body { nx := fun _ h => Q .non h, rt := Q } (startS F args) h) : callN P (n + 1) f args h Q := by
  show (match P.fns.lookup f with | none => (match P.tryf.lookup f with | some t => tryW P (callN P n) t args h Q | none => False) | some F => args.length = F.np ∧ WpSs (ctxOf P (callN P n)) F.body { nx := fun _ h => Q .non h, rt := Q } (startS F args) h)
  rw [e]
  exact ⟨l, w⟩
theorem body_of {P : Prg} {rec : Nat → List AV → AHeap → (AV → AHeap → Prop) → Prop} {f : Nat} {F : Fn} {args : List AV} {h : AHeap} {Q : AV → AHeap → Prop} {E : Nat → Int → AHeap → Prop} (e : P.fns.lookup f = some F) (l : args.length = F.np)
    (w : WpSs (ctxOf P rec) F.body { nx := fun _ h => Q .non h, rt := Q, ex := E } (startS F args) h) : bodyW P rec f args h Q E := by
  unfold bodyW
  rw [e]
  exact ⟨l, w⟩
theorem try_of {P : Prg} {n f : Nat} {t : TryF} {args xs : List AV} {h : AHeap} {Q : AV → AHeap → Prop} (e0 : P.fns.lookup f = none) (e : P.tryf.lookup f = some t) (l : args.length = t.np) (ha : argV args t.args = some xs)
    (w : bodyW P (callN P n) t.g xs h (fun v h2 => match okV t v with
      | some d => Q d h2
      | none => False) (fun c n h2 => match tryV P c n t with
      | some d => Q d h2
      | none => False)) : callN P (n + 1) f args h Q := by
  show (match P.fns.lookup f with | none => (match P.tryf.lookup f with | some t => tryW P (callN P n) t args h Q | none => False) | some F => args.length = F.np ∧ WpSs (ctxOf P (callN P n)) F.body { nx := fun _ h => Q .non h, rt := Q } (startS F args) h)
  rw [e0]
  show (match P.tryf.lookup f with | some t => tryW P (callN P n) t args h Q | none => False)
  rw [e]
  refine ⟨l, ?_⟩
  rw [ha]
  exact w
theorem clsIn_of {K : PySem.W.Frag} {nm q : Str} {C N : Addr} {bs bm : List Value} {hdct : Bool} {sn : List Str} {sub : List Value} {ab : Bool} {col : Option Bool} {dd : Option Addr} {k0 k1 k2 k3 k5 : Option Value} {newId : String}
    (h : K.lookup C = some (excClassObj nm q C N bs bm hdct sn sub ab col dd k0 k1 k2 k3 k5 newId)) : (PySem.W.clsIn K C).isSome = true := by
  unfold PySem.W.clsIn
  rw [h]
  rfl
theorem exm_of {K : PySem.W.Frag} {t : Value} {D : Addr} {b : Bool} (h1 : PySem.W.subIn K (.ref D) (.type "BaseException") = some true) (h2 : (PySem.W.clsIn K D).isSome = true) (h3 : PySem.W.typeIn K (.ref D) = some (.type "type")) (h4 : PySem.W.subIn K t (.ref D) = some b) :
    PySem.W.exmOne K t (.ref D) = some b := by
  unfold PySem.W.exmOne PySem.W.kitCls
  simp only [h1, h2, h3]
  simpa using h4
/-- of all that stand in a table -/
def AllP {α β : Type} (G : α → β → Prop) : List (α × β) → Prop
  | [] => True
  | (f, F) :: r => G f F ∧ AllP G r
theorem look_all {α β : Type} [BEq α] [LawfulBEq α] {G : α → β → Prop} {k : α} {v : β} : ∀ {l : List (α × β)}, AllP G l → l.lookup k = some v → G k v
  | [], _, h => by cases h
  | (a, b) :: l, g, h => by
    rw [List.lookup_cons] at h
    cases e : k == a with
    | true =>
      rw [e] at h
      have h : some b = some v := h
      cases h
      rw [eq_of_beq e]
      exact g.1
    | false =>
      rw [e] at h
      exact look_all g.2 h
end VL

set_option maxRecDepth 100000
set_option maxHeartbeats 4000000
namespace Hd
open PySem L2 VL

def b_law_draws_1 : Ss := (.cons (.asg (.nm 7) (.bin .Mod (.blt .int (.cons (.bin .Add (.bin .Add (.bin .Mult (.var 5) (.cint 48271)) (.bin .Mult (.var 4) (.cint 69621))) (.cint 11)) .nil)) (.cint 2147483647))) (.cons (.asg (.nm 7) (.bin .Mod (.blt .int (.cons (.bin .Add (.bin .FloorDiv (.bin .Mult (.var 7) (.var 7)) (.cint 4096)) (.var 7)) .nil)) (.cint 2147483629))) (.cons (.app 3 (.bin .Mod (.blt .int (.cons (.bin .Add (.bin .FloorDiv (.bin .Mult (.var 7) (.var 7)) (.cint 4096)) (.bin .Mult (.var 4) (.cint 7919))) .nil)) (.cint 2147483629))) .nil)))
def b_law_draws_2 : Ss := (.cons (.asg (.nm 5) (.var 4)) (.cons (.ite (.cmp .Gt (.blt .len (.cons (.var 0) .nil)) (.cint 0)) (.cons (.asg (.nm 6) (.bin .Mod (.var 4) (.blt .len (.cons (.var 0) .nil)))) (.cons (.asg (.nm 5) (.blt .int (.cons (.sub (.var 0) (.var 6)) .nil))) (.cons (.ite (.and (.cmp .GtE (.var 5) (.bin .Pow (.cint 10) (.cint 18))) (.cmp .Gt (.sub (.vw 2) (.var 6)) (.cint 0))) (.cons (.app 3 (.bin .Mod (.blt .int (.cons (.sub (.vw 2) (.var 6)) .nil)) (.cint 1000003))) (.cons (.put 2 (.var 6) (.bin .FloorDiv (.blt .int (.cons (.sub (.vw 2) (.var 6)) .nil)) (.cint 1000003))) (.cons .cont .nil))) .nil) .nil))) .nil) b_law_draws_1))
def b_law_draws_3 : Ss := (.cons (.frz 3) (.cons (.ret (.var 3)) .nil))
def b_law_draws : Ss := (.cons (.asgO 2 (.comp (.blt .abs (.cons (.blt .int (.cons (.var 5) .nil)) .nil)) (.nm 5) (.seq (.var 0)) .no [5])) (.cons (.asgO 3 (.lst .nil)) (.cons (.for (.nm 4) (.rng1 (.var 1)) b_law_draws_2) b_law_draws_3)))
def b_law_take_1 : Ss := (.cons (.ret (.bin .Mod (.bin .FloorDiv (.blt .int (.cons (.sub (.var 3) (.var 2)) .nil)) (.cint 7)) (.var 1))) .nil)
def b_law_take : Ss := (.cons (.asg (.nm 2) (.sub (.var 0) (.cint 1))) (.cons (.putE (.var 0) (.cint 1) (.bin .Add (.var 2) (.cint 1))) (.cons (.asg (.nm 3) (.sub (.var 0) (.cint 0))) (.cons (.ite (.cmp .GtE (.var 2) (.blt .len (.cons (.var 3) .nil))) (.cons (.ret (.cint 0)) .nil) .nil) b_law_take_1))))
class U (P : Prg) : Prop where
  f__law_draws : P.fns.lookup 19 = some ⟨2, 8, b_law_draws⟩
  f__law_take : P.fns.lookup 20 = some ⟨2, 4, b_law_take⟩
end Hd

set_option maxRecDepth 100000
set_option maxHeartbeats 4000000
namespace Pa
open PySem L2 VL

def b_Paper___init__ : Ss := (.cons (.fld (.var 0) "text" (.var 1)) (.cons (.fld (.var 0) "name" (.var 2)) (.cons (.fld (.var 0) "tokens" (.var 3)) .nil)))
def b_read_number_1 : Ss := (.cons (.ite (.cmp .NotIn (.var 1) (.glob 2)) (.cons (.ret .cnon) .nil) .nil) .nil)
def b_read_number_2 : Ss := (.cons (.ret (.blt .int (.cons (.var 0) .nil))) .nil)
def b_read_number_3 : Ss := (.cons (.for (.nm 1) (.chars (.var 0)) b_read_number_1) b_read_number_2)
def b_read_number : Ss := (.cons (.ite (.or (.not (.chain .LtE .LtE (.cint 1) (.blt .len (.cons (.var 0) .nil)) (.glob 5))) (.and (.cmp .Eq (.sub (.var 0) (.cint 0)) (.cstr "0")) (.cmp .NotEq (.var 0) (.cstr "0")))) (.cons (.ret .cnon) .nil) .nil) b_read_number_3)
def b_read_token_1 : Ss := (.cons (.ret (.bin .Add (.tup (.cons (.sub (.var 1) (.cint 0)) .nil)) (.blt .tuple (.cons (.var 2) .nil)))) .nil)
def b_read_token_2 : Ss := (.cons (.ite (.or (.gIn true (.sub (.var 1) (.cint 0)) 8) (.cmp .NotEq (.blt .len (.cons (.var 2) .nil)) (.gGet 8 (.sub (.var 1) (.cint 0))))) (.cons (.ret .cnon) .nil) .nil) b_read_token_1)
def b_read_token_3 : Ss := (.cons (.ite (.cmp .Eq (.sub (.var 1) (.cint 0)) (.cstr "dead")) (.cons (.ret (.ite (.cmp .Gt (.blt .len (.cons (.var 2) .nil)) (.cint 0)) (.tup (.cons (.cstr "dead") (.cons (.blt .tuple (.cons (.var 2) .nil)) .nil))) .cnon)) .nil) .nil) b_read_token_2)
def b_read_token : Ss := (.cons (.asg (.nm 1) (.fz (.split (.var 0) (.cstr " ")))) (.cons (.asg (.nm 2) (.fz (.comp (.call 117 (.cons (.var 3) .nil)) (.nm 3) (.seq (.fz (.slice (.var 1) (.so (.cint 1)) .no))) .no [3]))) (.cons (.ite (.cmp .In .cnon (.var 2)) (.cons (.ret .cnon) .nil) .nil) b_read_token_3)))
def b_read_count_1 : Ss := (.cons (.ret (.var 1)) .nil)
def b_read_count_2 : Ss := (.cons (.asg (.nm 1) (.call 117 (.cons (.slice (.var 0) (.so (.cint 5)) .no) .nil))) (.cons (.ite (.cmp .Eq (.var 1) (.cint 0)) (.cons (.ret .cnon) .nil) .nil) b_read_count_1))
def b_read_count : Ss := (.cons (.ite (.cmp .NotEq (.slice (.var 0) .no (.so (.cint 5))) (.cstr "text ")) (.cons (.ret .cnon) .nil) .nil) b_read_count_2)
def b_read_paper_1 : Ss := (.cons (.app 3 (.var 5)) .nil)
def b_read_paper_2 : Ss := (.cons (.asg (.nm 5) (.call 118 (.cons (.sub (.var 1) (.var 4)) .nil))) (.cons (.ite (.cmp .Is (.var 5) .cnon) (.cons (.rse 1 (.bin .Add (.var 4) (.cint 1))) .nil) .nil) b_read_paper_1))
def b_read_paper_3 : Ss := (.cons (.ret (.make 0 (.cons (.smt .join (.cstr "\n") (.fz (.slice (.var 1) (.so (.cint 1)) (.so (.bin .Add (.var 2) (.cint 1)))))) (.cons (.slice (.sub (.var 1) (.bin .Add (.var 2) (.cint 1))) (.so (.cint 5)) .no) (.cons (.blt .tuple (.cons (.vw 3) .nil)) .nil))))) .nil)
def b_read_paper_4 : Ss := (.cons (.ite (.cmp .Eq (.blt .len (.cons (.vw 3) .nil)) (.cint 0)) (.cons (.rse 1 (.bin .Add (.blt .len (.cons (.var 1) .nil)) (.cint 1))) .nil) .nil) b_read_paper_3)
def b_read_paper_5 : Ss := (.cons (.asgO 3 (.lst .nil)) (.cons (.for (.nm 4) (.rng2 (.bin .Add (.var 2) (.cint 2)) (.blt .len (.cons (.var 1) .nil))) b_read_paper_2) b_read_paper_4))
def b_read_paper_6 : Ss := (.cons (.ite (.cmp .NotEq (.slice (.sub (.var 1) (.bin .Add (.var 2) (.cint 1))) .no (.so (.cint 5))) (.cstr "proc ")) (.cons (.rse 1 (.bin .Add (.var 2) (.cint 2))) .nil) .nil) b_read_paper_5)
def b_read_paper_7 : Ss := (.cons (.ite (.cmp .Gt (.bin .Add (.var 2) (.cint 2)) (.blt .len (.cons (.var 1) .nil))) (.cons (.rse 1 (.bin .Add (.blt .len (.cons (.var 1) .nil)) (.cint 1))) .nil) .nil) b_read_paper_6)
def b_read_paper : Ss := (.cons (.asg (.nm 1) (.fz (.split (.var 0) (.cstr "\n")))) (.cons (.asg (.nm 2) (.call 119 (.cons (.sub (.var 1) (.cint 0)) .nil))) (.cons (.ite (.cmp .Is (.var 2) .cnon) (.cons (.rse 1 (.cint 1)) .nil) .nil) b_read_paper_7)))
class U (P : Prg) : Prop where
  f_Paper___init__ : P.fns.lookup 113 = some ⟨4, 4, b_Paper___init__⟩
  f_read_number : P.fns.lookup 117 = some ⟨1, 2, b_read_number⟩
  f_read_token : P.fns.lookup 118 = some ⟨1, 4, b_read_token⟩
  f_read_count : P.fns.lookup 119 = some ⟨1, 2, b_read_count⟩
  f_read_paper : P.fns.lookup 120 = some ⟨1, 6, b_read_paper⟩
  g_FIGURES : P.glob.lookup 2 = some (.str "0123456789")
  g_MOST_FIGURES : P.glob.lookup 5 = some (.int 12)
  g_COUNTS : P.gdct.lookup 8 = some ([(("on" : Str), (0 : Int)), (("over" : Str), (0 : Int)), (("pair" : Str), (2 : Int)), (("write" : Str), (1 : Int)), (("either" : Str), (1 : Int)), (("all" : Str), (2 : Int)), (("match" : Str), (2 : Int)), (("sorted" : Str), (3 : Int)), (("below" : Str), (3 : Int))])
  i_0 : P.init.lookup 0 = some 113
  d_0_text : P.flds.contains (0, ("text" : Str)) = true
  d_0_name : P.flds.contains (0, ("name" : Str)) = true
  d_0_tokens : P.flds.contains (0, ("tokens" : Str)) = true
end Pa

set_option maxRecDepth 100000
set_option maxHeartbeats 4000000
namespace Gp
open PySem L2 VL

def b_law_wide : Ss := (.cons (.asg (.nm 2) (.call 20 (.cons (.var 0) (.cons (.cint 100003) .nil)))) (.cons (.ret (.bin .Mod (.blt .int (.cons (.bin .Add (.bin .Mult (.var 2) (.cint 100003)) (.call 20 (.cons (.var 0) (.cons (.cint 100003) .nil)))) .nil)) (.var 1))) .nil))
def b_law_number_1 : Ss := (.cons (.ret (.bin .Mult (.call 33 (.cons (.var 0) (.cons (.sub (.fz (.lst (.cons (.cint 10) (.cons (.cint 1000) (.cons (.bin .Pow (.cint 10) (.cint 6)) (.cons (.bin .Pow (.cint 10) (.cint 9)) .nil)))))) (.call 20 (.cons (.var 0) (.cons (.cint 4) .nil)))) .nil))) (.sub (.fz (.lst (.cons (.cint 1) (.cons (.cint 1) (.cons (.cint 1) (.cons (.cint 999) .nil)))))) (.call 20 (.cons (.var 0) (.cons (.cint 4) .nil)))))) .nil)
def b_law_number : Ss := (.cons (.ite (.cmp .Eq (.call 20 (.cons (.var 0) (.cons (.cint 9) .nil))) (.cint 0)) (.cons (.ret (.bin .Sub (.bin .Sub (.bin .Pow (.cint 10) (.cint 12)) (.cint 1)) (.call 20 (.cons (.var 0) (.cons (.cint 2) .nil))))) .nil) .nil) b_law_number_1)
def b_law_line_1 : Ss := (.cons (.asg (.nm 3) (.bin .Add (.var 3) (.sub (.var 1) (.call 20 (.cons (.var 0) (.cons (.blt .len (.cons (.var 1) .nil)) .nil)))))) .nil)
def b_law_line_2 : Ss := (.cons (.ret (.var 3)) .nil)
def b_law_line_3 : Ss := (.cons (.ite (.cmp .Eq (.call 20 (.cons (.var 0) (.cons (.cint 5) .nil))) (.cint 0)) (.cons (.asg (.nm 3) (.bin .Add (.var 3) (.sub (.cstr "\t~{&") (.call 20 (.cons (.var 0) (.cons (.cint 4) .nil)))))) .nil) .nil) b_law_line_2)
def b_law_line_4 : Ss := (.cons (.asg (.nm 3) (.cstr "")) (.cons (.for (.nm 4) (.rng1 (.call 20 (.cons (.var 0) (.cons (.cint 9) .nil)))) b_law_line_1) b_law_line_3))
def b_law_line : Ss := (.cons (.asg (.nm 1) (.cstr "abcdefghijklmnopqrstuvwxyz ABCXYZ 0123456789 <>=+-()[],:.;_#' ")) (.cons (.asg (.nm 2) (.fz (.lst (.cons (.cstr "") (.cons (.cstr "on") (.cons (.cstr "over") (.cons (.cstr "text 1") (.cons (.cstr "proc x") (.cons (.cstr "dead 0") (.cons (.cstr "pair 0 1") (.cons (.cstr "proc ") (.cons (.cstr " ") (.cons (.cstr "all 0 0") (.cons (.cstr "text 0") (.cons (.cstr "dead") .nil))))))))))))))) (.cons (.ite (.cmp .Eq (.call 20 (.cons (.var 0) (.cons (.cint 3) .nil))) (.cint 0)) (.cons (.ret (.sub (.var 2) (.call 20 (.cons (.var 0) (.cons (.blt .len (.cons (.var 2) .nil)) .nil))))) .nil) .nil) b_law_line_4)))
def b_law_token_1 : Ss := (.cons (.ret (.bin .Add (.tup (.cons (.var 1) .nil)) (.blt .tuple (.cons (.fz (.comp (.call 121 (.cons (.var 0) .nil)) (.nm 3) (.rng1 (.var 2)) .no [3])) .nil)))) .nil)
def b_law_token_2 : Ss := (.cons (.ite (.cmp .In (.var 1) (.fz (.lst (.cons (.cstr "sorted") (.cons (.cstr "below") .nil))))) (.cons (.asg (.nm 2) (.cint 3)) .nil) .nil) b_law_token_1)
def b_law_token_3 : Ss := (.cons (.asg (.nm 2) (.cint 1)) (.cons (.ite (.cmp .In (.var 1) (.fz (.lst (.cons (.cstr "pair") (.cons (.cstr "all") (.cons (.cstr "match") .nil)))))) (.cons (.asg (.nm 2) (.cint 2)) .nil) .nil) b_law_token_2))
def b_law_token_4 : Ss := (.cons (.ite (.cmp .Eq (.var 1) (.cstr "dead")) (.cons (.ret (.tup (.cons (.var 1) (.cons (.blt .tuple (.cons (.fz (.comp (.call 121 (.cons (.var 0) .nil)) (.nm 3) (.rng1 (.bin .Add (.cint 1) (.bin .Mult (.call 20 (.cons (.var 0) (.cons (.cint 3) .nil))) (.call 20 (.cons (.var 0) (.cons (.cint 4) .nil)))))) .no [3])) .nil)) .nil)))) .nil) .nil) b_law_token_3)
def b_law_token : Ss := (.cons (.asg (.nm 1) (.sub (.fz (.lst (.cons (.cstr "on") (.cons (.cstr "over") (.cons (.cstr "dead") (.cons (.cstr "pair") (.cons (.cstr "write") (.cons (.cstr "either") (.cons (.cstr "all") (.cons (.cstr "match") (.cons (.cstr "sorted") (.cons (.cstr "below") .nil)))))))))))) (.call 20 (.cons (.var 0) (.cons (.cint 10) .nil))))) (.cons (.ite (.or (.cmp .Eq (.var 1) (.cstr "on")) (.cmp .Eq (.var 1) (.cstr "over"))) (.cons (.ret (.tup (.cons (.var 1) .nil))) .nil) .nil) b_law_token_4))
def b_law_lines_1 : Ss := (.cons (.asg (.nm 2) (.fz (.comp (.call 122 (.cons (.var 0) .nil)) (.nm 3) (.rng1 (.blt .min2 (.cons (.var 1) (.cons (.cint 5) .nil)))) .no [3]))) (.cons (.ret (.fz (.comp (.sub (.var 2) (.bin .Mod (.var 3) (.blt .len (.cons (.var 2) .nil)))) (.nm 3) (.rng1 (.var 1)) .no [3]))) .nil))
def b_law_lines : Ss := (.cons (.asg (.nm 1) (.bin .Add (.cint 1) (.call 20 (.cons (.var 0) (.cons (.cint 5) .nil))))) (.cons (.ite (.cmp .Eq (.call 20 (.cons (.var 0) (.cons (.cint 6) .nil))) (.cint 0)) (.cons (.asg (.nm 1) (.bin .Add (.cint 6) (.call 20 (.cons (.var 0) (.cons (.cint 60) .nil))))) .nil) .nil) b_law_lines_1))
def b_law_rows_1 : Ss := (.cons (.app 3 (.smt .join (.cstr " ") (.fz (.cat (.fz (.lst (.cons (.sub (.var 4) (.cint 0)) .nil))) (.fz (.comp (.blt .str (.cons (.var 6) .nil)) (.nm 6) (.seq (.var 5)) .no [6])))))) .nil)
def b_law_rows_2 : Ss := (.cons (.asg (.nm 5) (.slice (.var 4) (.so (.cint 1)) .no)) (.cons (.ite (.cmp .Eq (.sub (.var 4) (.cint 0)) (.cstr "dead")) (.cons (.asg (.nm 5) (.sub (.var 4) (.cint 1))) .nil) .nil) b_law_rows_1))
def b_law_rows_3 : Ss := (.cons (.frz 3) (.cons (.ret (.var 3)) .nil))
def b_law_rows : Ss := (.cons (.asgO 3 (.cat (.fz (.cat (.fz (.lst (.cons (.bin .Add (.cstr "text ") (.blt .str (.cons (.blt .len (.cons (.var 0) .nil)) .nil))) .nil))) (.var 0))) (.fz (.lst (.cons (.bin .Add (.cstr "proc ") (.var 1)) .nil))))) (.cons (.for (.nm 4) (.seq (.var 2)) b_law_rows_2) b_law_rows_3))
def b_law_tokens_1 : Ss := (.cons (.ret (.blt .tuple (.cons (.var 1) .nil))) .nil)
def b_law_tokens : Ss := (.cons (.asg (.nm 1) (.fz (.comp (.call 123 (.cons (.var 0) .nil)) (.nm 2) (.rng1 (.bin .Add (.cint 1) (.call 20 (.cons (.var 0) (.cons (.cint 7) .nil))))) .no [2]))) (.cons (.ite (.cmp .Eq (.call 20 (.cons (.var 0) (.cons (.cint 6) .nil))) (.cint 0)) (.cons (.asg (.nm 1) (.fz (.rep (.var 1) (.bin .Add (.cint 2) (.call 20 (.cons (.var 0) (.cons (.cint 9) .nil))))))) .nil) .nil) b_law_tokens_1))
class U (P : Prg) : Prop where
  f__law_wide : P.fns.lookup 33 = some ⟨2, 3, b_law_wide⟩
  f__law_number : P.fns.lookup 121 = some ⟨1, 1, b_law_number⟩
  f__law_line : P.fns.lookup 122 = some ⟨1, 5, b_law_line⟩
  f__law_token : P.fns.lookup 123 = some ⟨1, 4, b_law_token⟩
  f__law_lines : P.fns.lookup 124 = some ⟨1, 4, b_law_lines⟩
  f__law_rows : P.fns.lookup 125 = some ⟨3, 7, b_law_rows⟩
  f__law_tokens : P.fns.lookup 126 = some ⟨1, 3, b_law_tokens⟩
end Gp

set_option maxRecDepth 100000
set_option maxHeartbeats 4000000
namespace K24
open PySem L2 VL

def b_law_pick : Ss := (.cons (.ret (.sub (.var 1) (.call 20 (.cons (.var 0) (.cons (.blt .len (.cons (.var 1) .nil)) .nil))))) .nil)
def b_law_wrong_first : Ss := (.cons (.asg (.nm 2) (.blt .str (.cons (.var 1) .nil))) (.cons (.asg (.nm 3) (.fz (.lst (.cons (.cstr "") (.cons (.cstr "text") (.cons (.cstr "text ") (.cons (.cstr "text 0") (.cons (.bin .Add (.cstr "text 0") (.var 2)) (.cons (.bin .Add (.cstr "text -") (.var 2)) (.cons (.bin .Add (.cstr "text +") (.var 2)) (.cons (.cstr "text x") (.cons (.bin .Add (.cstr "texts ") (.var 2)) .nil)))))))))))) (.cons (.asg (.nm 3) (.fz (.cat (.var 3) (.fz (.lst (.cons (.bin .Add (.bin .Add (.cstr "text ") (.var 2)) (.cstr " ")) (.cons (.bin .Add (.cstr " text ") (.var 2)) (.cons (.bin .Add (.cstr "text  ") (.var 2)) (.cons (.bin .Add (.bin .Add (.cstr "text ") (.var 2)) (.cstr " 1")) (.cons (.bin .Add (.cstr "Text ") (.var 2)) (.cons (.var 2) .nil))))))))))) (.cons (.ret (.call 130 (.cons (.var 0) (.cons (.fz (.cat (.var 3) (.fz (.lst (.cons (.cstr "text 1000000000000") (.cons (.bin .Add (.bin .Add (.cstr "text ") (.var 2)) (.cstr ".0")) (.cons (.cstr "text 1_0") (.cons (.bin .Add (.cstr "text\t") (.var 2)) .nil)))))))) .nil)))) .nil))))
def b_law_wrong_name : Ss := (.cons (.ret (.call 130 (.cons (.var 0) (.cons (.fz (.lst (.cons (.cstr "") (.cons (.cstr "proc") (.cons (.cstr "procs x") (.cons (.cstr "Proc x") (.cons (.cstr " proc x") (.cons (.cstr "pro x") (.cons (.cstr "text 1") (.cons (.cstr "proc\tx") .nil)))))))))) .nil)))) .nil)
def b_law_wrong_token : Ss := (.cons (.asg (.nm 1) (.fz (.lst (.cons (.cstr "") (.cons (.cstr "onn") (.cons (.cstr "on ") (.cons (.cstr " on") (.cons (.cstr "on 1") (.cons (.cstr "over 0") (.cons (.cstr "ON") (.cons (.cstr "over ") (.cons (.cstr "dead") (.cons (.cstr "dead ") (.cons (.cstr "dead x") (.cons (.cstr "dead -1") (.cons (.cstr "dead 01") .nil)))))))))))))))) (.cons (.asg (.nm 1) (.fz (.cat (.var 1) (.fz (.lst (.cons (.cstr "dead 1  2") (.cons (.cstr "dead 1 2 ") (.cons (.cstr "dead 1000000000000") (.cons (.cstr "dead 1 01") (.cons (.cstr "dead 1,2") (.cons (.cstr "dead +1") (.cons (.cstr "dead 1_0") .nil)))))))))))) (.cons (.asg (.nm 1) (.fz (.cat (.var 1) (.fz (.lst (.cons (.cstr "pair") (.cons (.cstr "pair 1") (.cons (.cstr "pair 1 2 3") (.cons (.cstr "pair 1 x") (.cons (.cstr "pair -1 2") (.cons (.cstr "pair 01 2") (.cons (.cstr "pair 1 1000000000000") .nil)))))))))))) (.cons (.asg (.nm 1) (.fz (.cat (.var 1) (.fz (.lst (.cons (.cstr "met 0") (.cons (.cstr "write") .nil))))))) (.cons (.asg (.nm 1) (.fz (.cat (.var 1) (.fz (.lst (.cons (.cstr "write 1 2") (.cons (.cstr "write x") (.cons (.cstr "either") (.cons (.cstr "either 0 0") (.cons (.cstr "all 1") (.cons (.cstr "all 1 2 3") (.cons (.cstr "all 1 -2") (.cons (.cstr "match 1") .nil))))))))))))) (.cons (.asg (.nm 1) (.fz (.cat (.var 1) (.fz (.lst (.cons (.cstr "match 1 2 3") (.cons (.cstr "match 0 00") (.cons (.cstr "sorted 1 2") (.cons (.cstr "sorted 1 2 3 4") (.cons (.cstr "sorted 1 2 x") (.cons (.cstr "below 1 2") .nil))))))))))) (.cons (.asg (.nm 1) (.fz (.cat (.var 1) (.fz (.lst (.cons (.cstr "dead 1 -2") (.cons (.cstr "pair  1 2") (.cons (.cstr "pair 1 2 ") .nil)))))))) (.cons (.ret (.call 130 (.cons (.var 0) (.cons (.fz (.cat (.var 1) (.fz (.lst (.cons (.cstr "below 1 2 3 4") (.cons (.cstr "below 1 2 03") (.cons (.cstr "text 1") (.cons (.cstr "proc x") (.cons (.cstr "pairs 1 2") (.cons (.cstr "dead\t1") (.cons (.cstr "on\t") .nil))))))))))) .nil)))) .nil))))))))
def b_law_spoilt_number_1 : Ss := (.cons (.asg (.nm 3) (.bin .Add (.cint 1) (.call 20 (.cons (.var 0) (.cons (.bin .Sub (.blt .len (.cons (.var 2) .nil)) (.cint 1)) .nil))))) (.cons (.asg (.nm 4) (.sub (.var 2) (.var 3))) (.cons (.asg (.nm 5) (.fz (.lst (.cons (.bin .Add (.cstr "0") (.var 4)) (.cons (.bin .Add (.cstr "-") (.var 4)) (.cons (.bin .Add (.cstr "+") (.var 4)) (.cons (.bin .Add (.var 4) (.cstr "000000000000")) (.cons (.bin .Add (.var 4) (.cstr "x")) (.cons (.bin .Add (.var 4) (.cstr ",")) (.cons (.bin .Add (.var 4) (.cstr "_0")) (.cons (.bin .Add (.var 4) (.cstr ".")) .nil))))))))))) (.cons (.asg (.nm 4) (.sub (.fz (.cat (.var 5) (.fz (.lst (.cons (.bin .Add (.var 4) (.cstr "\t")) (.cons (.bin .Add (.cstr "\t") (.var 4)) (.cons (.cstr "") (.cons (.bin .Add (.var 4) (.cstr "b")) .nil)))))))) (.call 20 (.cons (.var 0) (.cons (.cint 12) .nil))))) (.cons (.ret (.smt .join (.cstr " ") (.fz (.cat (.fz (.cat (.fz (.slice (.var 2) .no (.so (.var 3)))) (.fz (.lst (.cons (.var 4) .nil))))) (.fz (.slice (.var 2) (.so (.bin .Add (.var 3) (.cint 1))) .no)))))) .nil)))))
def b_law_spoilt_number : Ss := (.cons (.asg (.nm 2) (.fz (.split (.var 1) (.cstr " ")))) (.cons (.ite (.cmp .Eq (.blt .len (.cons (.var 2) .nil)) (.cint 1)) (.cons (.ret (.bin .Add (.bin .Add (.var 1) (.cstr " ")) (.blt .str (.cons (.call 20 (.cons (.var 0) (.cons (.cint 10) .nil))) .nil)))) .nil) .nil) b_law_spoilt_number_1))
def b_law_spoilt_1 : Ss := (.cons (.asg (.nm 7) (.bin .Add (.var 4) (.call 20 (.cons (.var 0) (.cons (.bin .Sub (.blt .len (.cons (.var 1) .nil)) (.var 4)) .nil))))) (.cons (.asg (.nm 8) (.sub (.fz (.lst (.cons (.call 133 (.cons (.var 0) .nil)) (.cons (.call 134 (.cons (.var 0) (.cons (.sub (.var 1) (.var 7)) .nil))) .nil)))) (.call 20 (.cons (.var 0) (.cons (.cint 2) .nil))))) (.cons (.ret (.tup (.cons (.fz (.cat (.fz (.cat (.fz (.slice (.var 1) .no (.so (.var 7)))) (.fz (.lst (.cons (.var 8) .nil))))) (.fz (.slice (.var 1) (.so (.bin .Add (.var 7) (.cint 1))) .no)))) (.cons (.bin .Add (.var 7) (.cint 1)) .nil)))) .nil)))
def b_law_spoilt_2 : Ss := (.cons (.ite (.cmp .Eq (.var 3) (.cint 4)) (.cons (.ret (.tup (.cons (.sub (.fz (.lst (.cons (.fz (.cat (.var 1) (.fz (.lst (.cons (.cstr "") .nil))))) (.cons (.fz (.lst (.cons (.cstr "") .nil))) .nil)))) (.call 20 (.cons (.var 0) (.cons (.cint 2) .nil)))) (.cons (.cint 0) .nil)))) .nil) .nil) b_law_spoilt_1)
def b_law_spoilt_3 : Ss := (.cons (.ite (.cmp .Eq (.var 3) (.cint 3)) (.cons (.asg (.nm 6) (.bin .Add (.cint 1) (.call 20 (.cons (.var 0) (.cons (.var 4) .nil))))) (.cons (.ret (.tup (.cons (.fz (.slice (.var 1) .no (.so (.var 6)))) (.cons (.bin .Add (.var 6) (.cint 1)) .nil)))) .nil)) .nil) b_law_spoilt_2)
def b_law_spoilt_4 : Ss := (.cons (.ite (.cmp .Eq (.var 3) (.cint 2)) (.cons (.ret (.tup (.cons (.fz (.cat (.fz (.cat (.fz (.slice (.var 1) .no (.so (.bin .Sub (.var 4) (.cint 1))))) (.fz (.lst (.cons (.call 132 (.cons (.var 0) .nil)) .nil))))) (.fz (.slice (.var 1) (.so (.var 4)) .no)))) (.cons (.var 4) .nil)))) .nil) .nil) b_law_spoilt_3)
def b_law_spoilt_5 : Ss := (.cons (.ite (.cmp .Eq (.var 3) (.cint 1)) (.cons (.asg (.nm 5) (.call 130 (.cons (.var 0) (.cons (.fz (.lst (.cons (.bin .Sub (.blt .len (.cons (.var 1) .nil)) (.cint 1)) (.cons (.blt .len (.cons (.var 1) .nil)) (.cons (.bin .Add (.blt .len (.cons (.var 1) .nil)) (.cint 1)) (.cons (.cint 999999999999) .nil)))))) .nil)))) (.cons (.ret (.tup (.cons (.fz (.cat (.fz (.lst (.cons (.bin .Add (.cstr "text ") (.blt .str (.cons (.var 5) .nil))) .nil))) (.fz (.slice (.var 1) (.so (.cint 1)) .no)))) (.cons (.bin .Add (.blt .len (.cons (.var 1) .nil)) (.cint 1)) .nil)))) .nil)) .nil) b_law_spoilt_4)
def b_law_spoilt : Ss := (.cons (.asg (.nm 3) (.call 20 (.cons (.var 0) (.cons (.cint 8) .nil)))) (.cons (.asg (.nm 4) (.bin .Add (.var 2) (.cint 2))) (.cons (.ite (.cmp .Eq (.var 3) (.cint 0)) (.cons (.ret (.tup (.cons (.fz (.cat (.fz (.lst (.cons (.call 131 (.cons (.var 0) (.cons (.var 2) .nil))) .nil))) (.fz (.slice (.var 1) (.so (.cint 1)) .no)))) (.cons (.cint 1) .nil)))) .nil) .nil) b_law_spoilt_5)))
def b_law_1 : Ss := (.cons (.ite (.or (.cmp .NotEq (.call 137 (.cons (.smt .join (.cstr "\n") (.var 9)) .nil)) (.var 10)) (.cmp .NotEq (.call 137 (.cons (.smt .join (.cstr "\n") (.var 9)) .nil)) (.var 10))) (.cons (.ret (.cbl false)) .nil) .nil) .nil)
def b_law_2 : Ss := (.cons (.ite (.and (.cmp .Eq (.var 11) (.cint 1)) (.and (.cmp .Lt (.var 10) (.blt .len (.cons (.var 9) .nil))) (.cmp .Eq (.blt .len (.cons (.var 9) .nil)) (.blt .len (.cons (.var 5) .nil))))) (.cons (.asg (.nm 12) (.blt .max2 (.cons (.var 10) (.cons (.bin .Add (.blt .len (.cons (.var 2) .nil)) (.cint 2)) .nil)))) (.cons (.asg (.nm 12) (.bin .Add (.var 12) (.call 20 (.cons (.var 1) (.cons (.bin .Sub (.blt .len (.cons (.var 9) .nil)) (.var 12)) .nil))))) (.cons (.asg (.nm 9) (.fz (.cat (.fz (.cat (.fz (.slice (.var 9) .no (.so (.var 12)))) (.fz (.lst (.cons (.call 133 (.cons (.var 1) .nil)) .nil))))) (.fz (.slice (.var 9) (.so (.bin .Add (.var 12) (.cint 1))) .no))))) .nil))) .nil) b_law_1)
def b_law_3 : Ss := (.cons (.asg (.nm 11) (.call 20 (.cons (.var 1) (.cons (.cint 6) .nil)))) (.cons (.ite (.and (.cmp .Eq (.var 11) (.cint 0)) (.cmp .LtE (.var 10) (.blt .len (.cons (.var 9) .nil)))) (.cons (.asg (.nm 9) (.fz (.slice (.var 9) .no (.so (.var 10))))) .nil) .nil) b_law_2))
def b_law_4 : Ss := (.cons (.asg (.tup [9, 10]) (.call 135 (.cons (.var 1) (.cons (.var 5) (.cons (.blt .len (.cons (.var 2) .nil)) .nil))))) (.cons (.ite (.cmp .Eq (.var 10) (.cint 0)) (.cons (.asg (.nm 10) (.blt .len (.cons (.var 9) .nil))) .nil) .nil) b_law_3))
def b_law_5 : Ss := (.cons (.asg (.nm 8) (.call 120 (.cons (.smt .join (.cstr "\n") (.var 5)) .nil))) (.cons (.ite (.cmp .NotEq (.blt .repr (.cons (.tup (.cons (.attr (.var 8) "text") (.cons (.attr (.var 8) "name") (.cons (.attr (.var 8) "tokens") .nil)))) .nil)) (.var 6)) (.cons (.ret (.cbl false)) .nil) .nil) b_law_4))
def b_law_6 : Ss := (.cons (.asg (.nm 8) (.call 120 (.cons (.smt .join (.cstr "\n") (.var 5)) .nil))) (.cons (.ret (.cmp .Eq (.blt .repr (.cons (.tup (.cons (.attr (.var 8) "text") (.cons (.attr (.var 8) "name") (.cons (.attr (.var 8) "tokens") .nil)))) .nil)) (.var 6))) .nil))
def b_law : Ss := (.cons (.asg (.nm 1) (.new (.lst (.cons (.call 19 (.cons (.var 0) (.cons (.cint 220) .nil))) (.cons (.cint 0) .nil))))) (.cons (.asg (.nm 2) (.call 124 (.cons (.var 1) .nil))) (.cons (.asg (.nm 3) (.call 122 (.cons (.var 1) .nil))) (.cons (.asg (.nm 4) (.call 126 (.cons (.var 1) .nil))) (.cons (.asg (.nm 5) (.call 125 (.cons (.var 2) (.cons (.var 3) (.cons (.var 4) .nil))))) (.cons (.asg (.nm 6) (.blt .repr (.cons (.tup (.cons (.smt .join (.cstr "\n") (.var 2)) (.cons (.var 3) (.cons (.var 4) .nil)))) .nil))) (.cons (.for (.nm 7) (.rng1 (.cint 4)) b_law_5) b_law_6)))))))
class U (P : Prg) : Prop where
  f__law_pick : P.fns.lookup 130 = some ⟨2, 2, b_law_pick⟩
  f__law_wrong_first : P.fns.lookup 131 = some ⟨2, 4, b_law_wrong_first⟩
  f__law_wrong_name : P.fns.lookup 132 = some ⟨1, 1, b_law_wrong_name⟩
  f__law_wrong_token : P.fns.lookup 133 = some ⟨1, 2, b_law_wrong_token⟩
  f__law_spoilt_number : P.fns.lookup 134 = some ⟨2, 6, b_law_spoilt_number⟩
  f__law_spoilt : P.fns.lookup 135 = some ⟨3, 9, b_law_spoilt⟩
  f_law : P.fns.lookup 136 = some ⟨1, 13, b_law⟩
  n__law_row_of : P.fns.lookup 137 = none
  t__law_row_of : P.tryf.lookup 137 = some ⟨120, 1, 2, [.v 0], 7, 1, none, [((.or (.isT [2, 3, 4, 5]) (.not .isVE)), .non), ((.and (.isC 1) (.and (.isC 6) (.not .row))), .row)], none, (some .non)⟩
end K24

set_option maxRecDepth 100000
set_option maxHeartbeats 4000000
namespace K24
open PySem L2 VL
def P : Prg where
  fns := [(19, Fn.mk 2 8 Hd.b_law_draws), (20, Fn.mk 2 4 Hd.b_law_take), (113, Fn.mk 4 4 Pa.b_Paper___init__), (117, Fn.mk 1 2 Pa.b_read_number), (118, Fn.mk 1 4 Pa.b_read_token), (119, Fn.mk 1 2 Pa.b_read_count), (120, Fn.mk 1 6 Pa.b_read_paper), (33, Fn.mk 2 3 Gp.b_law_wide), (121, Fn.mk 1 1 Gp.b_law_number), (122, Fn.mk 1 5 Gp.b_law_line), (123, Fn.mk 1 4 Gp.b_law_token), (124, Fn.mk 1 4 Gp.b_law_lines), (125, Fn.mk 3 7 Gp.b_law_rows), (126, Fn.mk 1 3 Gp.b_law_tokens), (130, Fn.mk 2 2 K24.b_law_pick), (131, Fn.mk 2 4 K24.b_law_wrong_first), (132, Fn.mk 1 1 K24.b_law_wrong_name), (133, Fn.mk 1 2 K24.b_law_wrong_token), (134, Fn.mk 2 6 K24.b_law_spoilt_number), (135, Fn.mk 3 9 K24.b_law_spoilt), (136, Fn.mk 1 13 K24.b_law)]
  glob := [(2, .str "0123456789"), (5, .int 12)]
  gdct := [(8, [(("on" : Str), (0 : Int)), (("over" : Str), (0 : Int)), (("pair" : Str), (2 : Int)), (("write" : Str), (1 : Int)), (("either" : Str), (1 : Int)), (("all" : Str), (2 : Int)), (("match" : Str), (2 : Int)), (("sorted" : Str), (3 : Int)), (("below" : Str), (3 : Int))])]
  meth := []
  init := [(0, 113)]
  flds := [(0, ("text" : Str)), (0, ("name" : Str)), (0, ("tokens" : Str))]
  tryf := [(137, ⟨120, 1, 2, [.v 0], 7, 1, none, [((.or (.isT [2, 3, 4, 5]) (.not .isVE)), .non), ((.and (.isC 1) (.and (.isC 6) (.not .row))), .row)], none, (some .non)⟩)]
  sub := [((1, 2), false), ((1, 3), false), ((1, 4), false), ((1, 5), false), ((1, 6), true), ((1, 1), true), ((1, 7), true)]
instance : Hd.U P := ⟨rfl, rfl⟩
instance : Pa.U P := ⟨rfl, rfl, rfl, rfl, rfl, rfl, rfl, rfl, rfl, rfl, rfl, rfl⟩
instance : Gp.U P := ⟨rfl, rfl, rfl, rfl, rfl, rfl, rfl⟩
instance : K24.U P := ⟨rfl, rfl, rfl, rfl, rfl, rfl, rfl, rfl, rfl⟩
end K24

set_option maxRecDepth 100000
set_option maxHeartbeats 4000000
namespace Wd
open PySem L2 VL
def signs : List Str := ["<=", ">=", "==", "!=", "<", ">", "=", "+", "-", "(", ")", "[", "]", ",", ":"]
def reserved : List Str := ["proc", "list", "needs", "gives", "keeps", "falls", "from", "to", "let", "while", "if", "else", "end", "choose", "check", "call", "swap", "return", "skip", "and", "or", "not", "all", "sorted", "below", "either", "len", "old", "moves", "result"]
def b_behind_run_1 : Ss := (.cons (.aug 3 .Add (.cint 1)) .nil)
def b_behind_run_2 : Ss := (.cons (.ret (.var 3)) .nil)
def b_behind_run : Ss := (.cons (.asg (.nm 3) (.var 1)) (.cons (.wh (.and (.cmp .Lt (.var 3) (.blt .len (.cons (.var 0) .nil))) (.cmp .In (.sub (.var 0) (.var 3)) (.var 2))) b_behind_run_1) b_behind_run_2))
def b_sign_at_1 : Ss := (.cons (.ite (.cmp .Eq (.slice (.var 0) (.so (.var 1)) (.so (.bin .Add (.var 1) (.blt .len (.cons (.var 2) .nil))))) (.var 2)) (.cons (.ret (.var 2)) .nil) .nil) .nil)
def b_sign_at_2 : Ss := (.cons (.ret (.cstr "")) .nil)
def b_sign_at : Ss := (.cons (.for (.nm 2) (.seq (.glob 0)) b_sign_at_1) b_sign_at_2)
def b_behind_word_1 : Ss := (.cons (.ret (.bin .Add (.var 1) (.blt .len (.cons (.call 1 (.cons (.var 0) (.cons (.var 1) .nil))) .nil)))) .nil)
def b_behind_word_2 : Ss := (.cons (.ite (.cmp .In (.sub (.var 0) (.var 1)) (.glob 2)) (.cons (.ret (.call 0 (.cons (.var 0) (.cons (.var 1) (.cons (.glob 2) .nil))))) .nil) .nil) b_behind_word_1)
def b_behind_word : Ss := (.cons (.ite (.cmp .In (.sub (.var 0) (.var 1)) (.glob 1)) (.cons (.ret (.call 0 (.cons (.var 0) (.cons (.var 1) (.cons (.glob 1) .nil))))) .nil) .nil) b_behind_word_2)
def b_split_row_1 : Ss := (.cons (.appE (.var 1) (.slice (.var 0) (.so (.var 2)) (.so (.var 3)))) (.cons (.asg (.nm 2) (.call 0 (.cons (.var 0) (.cons (.var 3) (.cons (.cstr " ") .nil))))) .nil))
def b_split_row_2 : Ss := (.cons (.asg (.nm 3) (.call 2 (.cons (.var 0) (.cons (.var 2) .nil)))) (.cons (.ite (.cmp .Eq (.var 3) (.var 2)) (.cons (.ret .cnon) .nil) .nil) b_split_row_1))
def b_split_row_3 : Ss := (.cons (.ret (.var 1)) .nil)
def b_split_row : Ss := (.cons (.asg (.nm 1) (.new (.lst .nil))) (.cons (.asg (.nm 2) (.call 0 (.cons (.var 0) (.cons (.cint 0) (.cons (.cstr " ") .nil))))) (.cons (.wh (.cmp .Lt (.var 2) (.blt .len (.cons (.var 0) .nil))) b_split_row_2) b_split_row_3)))
def b_is_name_1 : Ss := (.cons (.ret (.cmp .Eq (.call 0 (.cons (.var 0) (.cons (.cint 0) (.cons (.glob 1) .nil)))) (.blt .len (.cons (.var 0) .nil)))) .nil)
def b_is_name : Ss := (.cons (.ite (.or (.cmp .In (.var 0) (.glob 3)) (.not (.chain .LtE .LtE (.cint 1) (.blt .len (.cons (.var 0) .nil)) (.glob 4)))) (.cons (.ret (.cbl false)) .nil) .nil) b_is_name_1)
def b_is_number_1 : Ss := (.cons (.ret (.cmp .Eq (.call 0 (.cons (.var 0) (.cons (.cint 0) (.cons (.glob 2) .nil)))) (.blt .len (.cons (.var 0) .nil)))) .nil)
def b_is_number : Ss := (.cons (.ite (.or (.not (.chain .LtE .LtE (.cint 1) (.blt .len (.cons (.var 0) .nil)) (.glob 5))) (.and (.cmp .Eq (.sub (.var 0) (.cint 0)) (.cstr "0")) (.cmp .NotEq (.var 0) (.cstr "0")))) (.cons (.ret (.cbl false)) .nil) .nil) b_is_number_1)
class U (P : Prg) : Prop where
  f_behind_run : P.fns.lookup 0 = some ⟨3, 4, b_behind_run⟩
  f_sign_at : P.fns.lookup 1 = some ⟨2, 3, b_sign_at⟩
  f_behind_word : P.fns.lookup 2 = some ⟨2, 2, b_behind_word⟩
  f_split_row : P.fns.lookup 3 = some ⟨1, 4, b_split_row⟩
  f_is_name : P.fns.lookup 4 = some ⟨1, 1, b_is_name⟩
  f_is_number : P.fns.lookup 5 = some ⟨1, 1, b_is_number⟩
  g_LETTERS : P.glob.lookup 1 = some (.str "abcdefghijklmnopqrstuvwxyz")
  g_FIGURES : P.glob.lookup 2 = some (.str "0123456789")
  g_SIGNS : P.glob.lookup 0 = some (.tup (Wd.signs.map AV.str))
  g_RESERVED : P.glob.lookup 3 = some (.tup (Wd.reserved.map AV.str))
  g_MOST_LETTERS : P.glob.lookup 4 = some (.int 12)
  g_MOST_FIGURES : P.glob.lookup 5 = some (.int 10)
end Wd

set_option maxRecDepth 100000
set_option maxHeartbeats 4000000
namespace Tm
open PySem L2 VL

def b_word_at_1 : Ss := (.cons (.ret (.cstr "")) .nil)
def b_word_at : Ss := (.cons (.ite (.cmp .Lt (.var 1) (.blt .len (.cons (.var 0) .nil))) (.cons (.ret (.sub (.var 0) (.var 1))) .nil) .nil) b_word_at_1)
def b_whole_1 : Ss := (.cons (.ret (.sub (.var 0) (.cint 0))) .nil)
def b_whole : Ss := (.cons (.ite (.or (.cmp .Is (.var 0) .cnon) (.cmp .NotEq (.sub (.var 0) (.cint 1)) (.blt .len (.cons (.var 1) .nil)))) (.cons (.ret .cnon) .nil) .nil) b_whole_1)
def b_signed_at_1 : Ss := (.cons (.ret .cnon) .nil)
def b_signed_at_2 : Ss := (.cons (.ite (.and (.cmp .Eq (.call 6 (.cons (.var 0) (.cons (.var 1) .nil))) (.cstr "-")) (.tru (.call 5 (.cons (.call 6 (.cons (.var 0) (.cons (.bin .Add (.var 1) (.cint 1)) .nil))) .nil)))) (.cons (.ret (.tup (.cons (.neg (.blt .int (.cons (.sub (.var 0) (.bin .Add (.var 1) (.cint 1))) .nil))) (.cons (.bin .Add (.var 1) (.cint 2)) .nil)))) .nil) .nil) b_signed_at_1)
def b_signed_at : Ss := (.cons (.ite (.tru (.call 5 (.cons (.call 6 (.cons (.var 0) (.cons (.var 1) .nil))) .nil))) (.cons (.ret (.tup (.cons (.blt .int (.cons (.sub (.var 0) (.var 1)) .nil)) (.cons (.bin .Add (.var 1) (.cint 1)) .nil)))) .nil) .nil) b_signed_at_2)
def b_plus_at_1 : Ss := (.cons (.ret (.tup (.cons (.neg (.blt .int (.cons (.sub (.var 0) (.bin .Add (.var 1) (.cint 1))) .nil))) (.cons (.bin .Add (.var 1) (.cint 2)) .nil)))) .nil)
def b_plus_at_2 : Ss := (.cons (.ite (.cmp .Eq (.sub (.var 0) (.var 1)) (.cstr "+")) (.cons (.ret (.tup (.cons (.blt .int (.cons (.sub (.var 0) (.bin .Add (.var 1) (.cint 1))) .nil)) (.cons (.bin .Add (.var 1) (.cint 2)) .nil)))) .nil) .nil) b_plus_at_1)
def b_plus_at_3 : Ss := (.cons (.ite (.not (.tru (.call 5 (.cons (.call 6 (.cons (.var 0) (.cons (.bin .Add (.var 1) (.cint 1)) .nil))) .nil)))) (.cons (.ret .cnon) .nil) .nil) b_plus_at_2)
def b_plus_at : Ss := (.cons (.ite (.cmp .NotIn (.call 6 (.cons (.var 0) (.cons (.var 1) .nil))) (.tup (.cons (.cstr "+") (.cons (.cstr "-") .nil)))) (.cons (.ret (.tup (.cons (.cint 0) (.cons (.var 1) .nil)))) .nil) .nil) b_plus_at_3)
def b_named_at_1 : Ss := (.cons (.ret (.tup (.cons (.tup (.cons (.var 0) (.cons (.var 3) (.cons (.sub (.var 4) (.cint 0)) .nil)))) (.cons (.sub (.var 4) (.cint 1)) .nil)))) .nil)
def b_named_at : Ss := (.cons (.asg (.nm 3) (.call 6 (.cons (.var 1) (.cons (.var 2) .nil)))) (.cons (.asg (.nm 4) (.call 9 (.cons (.var 1) (.cons (.bin .Add (.var 2) (.cint 1)) .nil)))) (.cons (.ite (.or (.cmp .Is (.var 4) .cnon) (.and (.not (.tru (.call 4 (.cons (.var 3) .nil)))) (.or (.cmp .Eq (.var 0) (.cstr "len")) (.cmp .NotEq (.var 3) (.cstr "result"))))) (.cons (.ret .cnon) .nil) .nil) b_named_at_1)))
def b_plain_at_1 : Ss := (.cons (.ret (.call 10 (.cons (.cstr "var") (.cons (.var 0) (.cons (.var 1) .nil))))) .nil)
def b_plain_at_2 : Ss := (.cons (.ite (.cmp .Eq (.call 6 (.cons (.var 0) (.cons (.var 1) .nil))) (.cstr "len")) (.cons (.ret (.call 10 (.cons (.cstr "len") (.cons (.var 0) (.cons (.bin .Add (.var 1) (.cint 1)) .nil))))) .nil) .nil) b_plain_at_1)
def b_plain_at : Ss := (.cons (.asg (.nm 2) (.call 8 (.cons (.var 0) (.cons (.var 1) .nil)))) (.cons (.ite (.cmp .IsNot (.var 2) .cnon) (.cons (.ret (.tup (.cons (.tup (.cons (.cstr "num") (.cons (.sub (.var 2) (.cint 0)) .nil))) (.cons (.sub (.var 2) (.cint 1)) .nil)))) .nil) .nil) b_plain_at_2))
def b_list_at_1 : Ss := (.cons (.ret .cnon) .nil)
def b_list_at_2 : Ss := (.cons (.ite (.tru (.call 4 (.cons (.call 6 (.cons (.var 0) (.cons (.var 1) .nil))) .nil))) (.cons (.ret (.tup (.cons (.tup (.cons (.sub (.var 0) (.var 1)) (.cons (.cbl false) .nil))) (.cons (.bin .Add (.var 1) (.cint 1)) .nil)))) .nil) .nil) b_list_at_1)
def b_list_at : Ss := (.cons (.ite (.and (.cmp .Eq (.call 6 (.cons (.var 0) (.cons (.var 1) .nil))) (.cstr "old")) (.tru (.call 4 (.cons (.call 6 (.cons (.var 0) (.cons (.bin .Add (.var 1) (.cint 1)) .nil))) .nil)))) (.cons (.ret (.tup (.cons (.tup (.cons (.sub (.var 0) (.bin .Add (.var 1) (.cint 1))) (.cons (.cbl true) .nil))) (.cons (.bin .Add (.var 1) (.cint 2)) .nil)))) .nil) .nil) b_list_at_2)
def b_cell_at_1 : Ss := (.cons (.ret (.tup (.cons (.tup (.cons (.cstr "cell") (.cons (.sub (.var 2) (.cint 0)) (.cons (.sub (.var 3) (.cint 0)) (.cons (.sub (.var 4) (.cint 0)) .nil))))) (.cons (.sub (.var 4) (.cint 1)) .nil)))) .nil)
def b_cell_at_2 : Ss := (.cons (.asg (.nm 4) (.call 9 (.cons (.var 0) (.cons (.bin .Add (.sub (.var 3) (.cint 1)) (.cint 1)) .nil)))) (.cons (.ite (.cmp .Is (.var 4) .cnon) (.cons (.ret .cnon) .nil) .nil) b_cell_at_1))
def b_cell_at_3 : Ss := (.cons (.asg (.nm 3) (.call 11 (.cons (.var 0) (.cons (.bin .Add (.sub (.var 2) (.cint 1)) (.cint 1)) .nil)))) (.cons (.ite (.or (.cmp .Is (.var 3) .cnon) (.cmp .NotEq (.call 6 (.cons (.var 0) (.cons (.sub (.var 3) (.cint 1)) .nil))) (.cstr "]"))) (.cons (.ret .cnon) .nil) .nil) b_cell_at_2))
def b_cell_at : Ss := (.cons (.asg (.nm 2) (.call 12 (.cons (.var 0) (.cons (.var 1) .nil)))) (.cons (.ite (.or (.cmp .Is (.var 2) .cnon) (.cmp .NotEq (.call 6 (.cons (.var 0) (.cons (.sub (.var 2) (.cint 1)) .nil))) (.cstr "["))) (.cons (.ret .cnon) .nil) .nil) b_cell_at_3))
def b_term_at_1 : Ss := (.cons (.ret (.call 11 (.cons (.var 0) (.cons (.var 1) .nil)))) .nil)
def b_term_at : Ss := (.cons (.asg (.nm 2) (.call 12 (.cons (.var 0) (.cons (.var 1) .nil)))) (.cons (.ite (.and (.cmp .IsNot (.var 2) .cnon) (.cmp .Eq (.call 6 (.cons (.var 0) (.cons (.sub (.var 2) (.cint 1)) .nil))) (.cstr "["))) (.cons (.ret (.call 13 (.cons (.var 0) (.cons (.var 1) .nil)))) .nil) .nil) b_term_at_1))
class U (P : Prg) : Prop where
  f_word_at : P.fns.lookup 6 = some ⟨2, 2, b_word_at⟩
  f_whole : P.fns.lookup 7 = some ⟨2, 2, b_whole⟩
  f_signed_at : P.fns.lookup 8 = some ⟨2, 2, b_signed_at⟩
  f_plus_at : P.fns.lookup 9 = some ⟨2, 2, b_plus_at⟩
  f_named_at : P.fns.lookup 10 = some ⟨3, 5, b_named_at⟩
  f_plain_at : P.fns.lookup 11 = some ⟨2, 3, b_plain_at⟩
  f_list_at : P.fns.lookup 12 = some ⟨2, 2, b_list_at⟩
  f_cell_at : P.fns.lookup 13 = some ⟨2, 5, b_cell_at⟩
  f_term_at : P.fns.lookup 14 = some ⟨2, 3, b_term_at⟩
end Tm

set_option maxRecDepth 100000
set_option maxHeartbeats 4000000
namespace Wd
open PySem L2 VL
def mkS (l : List Nat) : Str := ⟨l.toArray⟩
theorem mkS_L (s : Str) : ∃ l, s = mkS l := ⟨s.cps.toList, rfl⟩
theorem mkS_len (l : List Nat) : (mkS l).length = l.length := by simp [mkS, Str.length]
theorem mkS_list (l : List Nat) : (mkS l).cps.toList = l := rfl
theorem mkS_inj {a b : List Nat} : mkS a = mkS b ↔ a = b := by simp [mkS]
theorem mkS_eq {a b : List Nat} : decide (mkS a = mkS b) = decide (a = b) := by simp [mkS_inj]
theorem mkS_app (a b : List Nat) : mkS a ++ mkS b = mkS (a ++ b) := by
  show (⟨a.toArray ++ b.toArray⟩ : Str) = _
  simp [mkS]
theorem cut_list {α : Type} (l : List α) (i j n : Nat) (e : n = l.length) : (l.drop (min i n)).take (min j n - min i n) = (l.drop i).take (j - i) := by
  subst e
  by_cases hi : l.length ≤ i
  · rw [Nat.min_eq_right hi, List.drop_of_length_le (Nat.le_refl _), List.drop_of_length_le hi]; simp
  · rw [Nat.min_eq_left (by omega : i ≤ l.length)]
    by_cases hj : j ≤ l.length
    · rw [Nat.min_eq_left hj]
    · rw [Nat.min_eq_right (by omega : l.length ≤ j), List.take_of_length_le (by simp), List.take_of_length_le (by simp; omega)]
theorem mkS_cut (l : List Nat) (i j : Nat) : cutS (mkS l) (some (i : Int)) (some (j : Int)) = mkS ((l.drop i).take (j - i)) := by
  unfold cutS
  rw [mkS_len, HT.sIx_nat, HT.sIx_nat, mkS_list, cut_list _ _ _ _ rfl]
  rfl
def letters : List Nat := List.range' 97 26
def figures : List Nat := List.range' 48 10
def twos : List (List Nat) := [[60, 61], [62, 61], [61, 61], [33, 61]]
def ones : List Nat := [60, 62, 61, 43, 45, 40, 41, 91, 93, 44, 58]
def SG : List (List Nat) := twos ++ ones.map fun c => [c]
def runLen (sg l : List Nat) : Nat := (l.takeWhile fun c => decide (c ∈ sg)).length
theorem runLen_le (sg l : List Nat) : runLen sg l ≤ l.length := by
  unfold runLen
  exact (List.takeWhile_sublist _).length_le
theorem runLen_in {sg r : List Nat} {c : Nat} (h : c ∈ sg) : runLen sg (c :: r) = runLen sg r + 1 := by simp [runLen, h]
theorem runLen_out {sg r : List Nat} {c : Nat} (h : c ∉ sg) : runLen sg (c :: r) = 0 := by simp [runLen, h]
theorem runLen_nil {sg : List Nat} : runLen sg [] = 0 := rfl
theorem runLen_all {sg l : List Nat} : runLen sg l = l.length ↔ ∀ c ∈ l, c ∈ sg := by
  induction l with
  | nil => simp [runLen]
  | cons c r ih =>
    by_cases h : c ∈ sg
    · rw [runLen_in h]; simp [ih, h]
    · rw [runLen_out h]; simp [h]
theorem runLen_app {sg l t : List Nat} (ht : ∀ c ∈ t, c ∉ sg) : runLen sg (l ++ t) = runLen sg l := by
  induction l with
  | nil => cases t with
    | nil => rfl
    | cons a t => rw [List.nil_append, runLen_out (ht a (List.mem_cons_self ..))]; rfl
  | cons c r ih =>
    by_cases h : c ∈ sg
    · rw [List.cons_append, runLen_in h, runLen_in h, ih]
    · rw [List.cons_append, runLen_out h, runLen_out h]
def signLen (d : List Nat) : Nat := ((SG.find? fun g => decide (d.take g.length = g)).getD []).length
theorem find_len (G : List (List Nat)) (d : List Nat) (k : Nat) (hG : ∀ g ∈ G, g.length = k) : (G.find? fun g => decide (d.take g.length = g)) = if d.take k ∈ G then some (d.take k) else none := by
  induction G with
  | nil => rfl
  | cons g G ih =>
    have hg := hG g (List.mem_cons_self ..)
    have ih := ih fun g h => hG g (List.mem_cons_of_mem _ h)
    by_cases e : d.take k = g
    · rw [List.find?_cons_of_pos (by rw [hg]; exact decide_eq_true e), if_pos (by rw [e]; exact List.mem_cons_self ..), e]
    · rw [List.find?_cons_of_neg (by rw [hg]; simpa using e), ih]
      by_cases m : d.take k ∈ G
      · rw [if_pos m, if_pos (List.mem_cons_of_mem _ m)]
      · rw [if_neg m, if_neg (by simp [e, m])]
theorem signLen_eq (c : Nat) (r : List Nat) : signLen (c :: r) = if (c :: r).take 2 ∈ twos then 2 else if c ∈ ones then 1 else 0 := by
  unfold signLen SG
  rw [List.find?_append, find_len twos _ 2 (by decide), find_len _ _ 1 (by intro g h; obtain ⟨c, _, rfl⟩ := List.mem_map.mp h; rfl)]
  by_cases h : (c :: r).take 2 ∈ twos
  · rw [if_pos h, if_pos h]
    have : ∀ g ∈ twos, g.length = 2 := by decide
    exact this _ h
  · rw [if_neg h, if_neg h]
    by_cases k : c ∈ ones
    · simp [k]
    · simp [k]
def stepLen (d : List Nat) : Nat := match d with
  | [] => 0
  | c :: r => if c ∈ letters then runLen letters (c :: r) else if c ∈ figures then runLen figures (c :: r) else signLen (c :: r)
theorem stepLen_le (d : List Nat) : stepLen d ≤ d.length := by
  cases d with
  | nil => exact Nat.le_refl _
  | cons c r =>
    simp only [stepLen]
    split
    · exact runLen_le _ _
    · split
      · exact runLen_le _ _
      · rw [signLen_eq]
        split
        · rename_i h
          cases r with
          | nil =>
            have : ∀ g ∈ twos, g.length = 2 := by decide
            have := this _ h
            simp at this
          | cons a r => simp
        · split <;> simp
theorem step_app (d t : List Nat) (hd : d ≠ []) (ht : ∀ c ∈ t, c = 32) : stepLen (d ++ t) = stepLen d := by
  cases d with
  | nil => exact absurd rfl hd
  | cons c r =>
    have h1 : ∀ c ∈ t, c ∉ letters := fun c hc => by rw [ht c hc]; decide
    have h2 : ∀ c ∈ t, c ∉ figures := fun c hc => by rw [ht c hc]; decide
    have e1 := runLen_app (l := c :: r) h1
    have e2 := runLen_app (l := c :: r) h2
    simp only [List.cons_append] at e1 e2
    simp only [List.cons_append, stepLen, e1, e2]
    split
    · rfl
    · split
      · rfl
      · rw [signLen_eq, signLen_eq]
        have : ((c :: (r ++ t)).take 2 ∈ twos) ↔ ((c :: r).take 2 ∈ twos) := by
          cases r with
          | cons a r => simp
          | nil =>
            cases t with
            | nil => simp
            | cons a t =>
              rw [ht a (List.mem_cons_self ..)]
              simp [twos]
        simp only [this]
inductive Tk : List Nat → Option (List (List Nat)) → Prop
  | nil : Tk [] (some [])
  | sp {r x} : Tk r x → Tk (32 :: r) x
  | bad {c r} : c ≠ 32 → stepLen (c :: r) = 0 → Tk (c :: r) none
  | tok {c r x} : c ≠ 32 → stepLen (c :: r) ≠ 0 → Tk ((c :: r).drop (stepLen (c :: r))) x → Tk (c :: r) (x.map ((c :: r).take (stepLen (c :: r)) :: ·))
theorem Tk.det {l x y} (a : Tk l x) (b : Tk l y) : x = y := by
  induction a generalizing y with
  | nil => cases b; rfl
  | sp _ ih => cases b with
    | sp b => exact ih b
    | bad h => exact absurd rfl h
    | tok h => exact absurd rfl h
  | bad h e => cases b with
    | sp b => exact absurd rfl h
    | bad h => rfl
    | tok _ k => exact absurd e k
  | tok h e _ ih => cases b with
    | sp b => exact absurd rfl h
    | bad _ k => exact absurd k e
    | tok _ _ b => rw [ih b]
theorem Tk.len {l x} (a : Tk l x) : ∀ ws, x = some ws → ∀ w ∈ ws, w.length ≤ l.length := by
  induction a with
  | nil => intro ws e; cases e; simp
  | sp _ ih => intro ws e w hw; have := ih ws e w hw; simp; omega
  | bad => intro ws e; cases e
  | @tok c r x h e b ih =>
    intro ws e w hw
    obtain ⟨v, rfl, rfl⟩ := Option.map_eq_some_iff.mp e
    rcases List.mem_cons.mp hw with rfl | hw
    · rw [List.length_take]; exact Nat.min_le_right _ _
    · have := ih v rfl w hw
      rw [List.length_drop] at this
      omega
theorem Tk.spaces {t : List Nat} (ht : ∀ c ∈ t, c = 32) : Tk t (some []) := by
  induction t with
  | nil => exact .nil
  | cons c t ih =>
    rw [ht c (List.mem_cons_self ..)]
    exact .sp (ih fun c h => ht c (List.mem_cons_of_mem _ h))
theorem Tk.pre {t l : List Nat} {x} (ht : ∀ c ∈ t, c = 32) (a : Tk l x) : Tk (t ++ l) x := by
  induction t with
  | nil => exact a
  | cons c t ih =>
    rw [ht c (List.mem_cons_self ..)]
    exact .sp (ih fun c h => ht c (List.mem_cons_of_mem _ h))
theorem Tk.post {t l : List Nat} {x} (ht : ∀ c ∈ t, c = 32) (a : Tk l x) : Tk (l ++ t) x := by
  induction a with
  | nil => exact .spaces ht
  | sp _ ih => exact .sp ih
  | @bad c r h e => exact .bad h ((step_app (c :: r) t (by simp) ht).trans e)
  | @tok c r x h e b ih =>
    have s := step_app (c :: r) t (by simp) ht
    have := Tk.tok (c := c) (r := r ++ t) (x := x) h (by rw [← List.cons_append, s]; exact e) (by
      rw [← List.cons_append, s, List.drop_append_of_le_length (stepLen_le _)]
      exact ih)
    rw [← List.cons_append, s, List.take_append_of_le_length (stepLen_le _)] at this
    exact this
/-- what is left, and what has been cut -/
def Way (l : List Nat) (i : Nat) (acc : List (List Nat)) : Prop := ∀ x, Tk (l.drop i) x → Tk l (x.map (acc ++ ·))
theorem Way.start (l : List Nat) : Way l 0 [] := fun x h => by
  rw [List.drop_zero] at h
  cases x <;> exact h
theorem Way.done {l : List Nat} {i acc} (w : Way l i acc) (h : l.length ≤ i) : Tk l (some acc) := by
  have := w (some []) (by rw [List.drop_of_length_le h]; exact .nil)
  simpa using this
theorem drop_get {l : List Nat} {i c : Nat} (h : l[i]? = some c) : l.drop i = c :: l.drop (i + 1) := by
  obtain ⟨h1, rfl⟩ := List.getElem?_eq_some_iff.mp h
  exact List.drop_eq_getElem_cons h1
theorem Way.space {l : List Nat} {i acc} (w : Way l i acc) (h : l[i]? = some 32) : Way l (i + 1) acc := fun x k => w x (by rw [drop_get h]; exact .sp k)
theorem Way.run {l : List Nat} {i acc} (w : Way l i acc) : Way l (i + runLen [32] (l.drop i)) acc := by
  intro x k
  refine w x ?_
  have e : ∀ (d : List Nat), (∀ c ∈ d.take (runLen [32] d), c = 32) := by
    intro d
    induction d with
    | nil => simp
    | cons c r ih =>
      by_cases h : c ∈ [32]
      · rw [runLen_in h, List.take_succ_cons]
        intro a ha
        rcases List.mem_cons.mp ha with rfl | ha
        · simpa using h
        · exact ih a ha
      · rw [runLen_out h]; simp
  have := Tk.pre (e (l.drop i)) k
  rwa [← List.drop_drop, List.take_append_drop] at this
theorem Way.bad {l : List Nat} {i acc c} (w : Way l i acc) (h : l[i]? = some c) (h1 : c ≠ 32) (h2 : stepLen (l.drop i) = 0) : Tk l none := by
  rw [drop_get h] at h2
  exact w none (by rw [drop_get h]; exact .bad h1 h2)
theorem Way.tok {l : List Nat} {i acc c} (w : Way l i acc) (h : l[i]? = some c) (h1 : c ≠ 32) (h2 : stepLen (l.drop i) ≠ 0) : Way l (i + stepLen (l.drop i)) (acc ++ [(l.drop i).take (stepLen (l.drop i))]) := by
  intro x k
  rw [← List.drop_drop] at k
  have := w (x.map ((l.drop i).take (stepLen (l.drop i)) :: ·)) (by
    rw [drop_get h] at h2 k ⊢
    exact .tok h1 h2 k)
  cases x with
  | none => exact this
  | some x => simpa using this
end Wd

set_option maxRecDepth 100000
set_option maxHeartbeats 4000000
namespace Wd
open PySem L2 VL
local macro_rules
  | `(tactic| push_cast [$xs,*]) => `(tactic| try simp only [$xs,*, WpSs, WpS, WpE, WpEs, WpBs, WpO, WpN, WpI, WpC, WpT, getS, setS, tgK, setsS, wipeS, k_add, k_addT, k_sub, k_mul, k_fdiv, k_mod, k_neg, k_lt, k_le, k_gt, k_ge, k_eqI, k_neI, k_eqS, k_neS, k_eqB, k_neB, k_is, k_isn, k_isB, k_isnB, k_gIn, ctx_gdct, isNon_non, isNon_int, isNon_str, isNon_lst, isNon_tup, isNon_adr, k_lenS, k_lenL, k_lenR, k_lenT, k_int, k_str, k_abs, tru_bl, augK, ctx_call, ctx_glob, k_in, k_nin, k_inS, k_addS, k_intB, isi_non_int, isi_non_bool, isi_non_str, isi_non_list, isi_non_tuple, isi_bl_int, isi_bl_bool, isi_bl_str, isi_bl_list, isi_bl_tuple, isi_int_int, isi_int_bool, isi_int_str, isi_int_list, isi_int_tuple, isi_str_int, isi_str_bool, isi_str_str, isi_str_list, isi_str_tuple, isi_tup_int, isi_tup_bool, isi_tup_str, isi_tup_list, isi_tup_tuple, isi_lst_int, isi_lst_bool, isi_lst_str, isi_lst_list, isi_lst_tuple, isi_ro_int, isi_ro_bool, isi_ro_str, isi_ro_list, isi_ro_tuple])
section
variable {P : Prg} [U P]
theorem run_step {sg l : List Nat} {j : Nat} (hj : j < l.length) (hm : l[j] ∈ sg) : runLen sg (l.drop j) = runLen sg (l.drop (j + 1)) + 1 := by
  rw [List.drop_eq_getElem_cons hj, runLen_in hm]
theorem run_stop {sg l : List Nat} {j : Nat} (hj : j < l.length) (hm : l[j] ∉ sg) : runLen sg (l.drop j) = 0 := by
  rw [List.drop_eq_getElem_cons hj, runLen_out hm]
theorem run_end {sg l : List Nat} {j : Nat} (hj : l.length ≤ j) : runLen sg (l.drop j) = 0 := by
  rw [List.drop_of_length_le hj]; rfl
theorem behind_run_ok {n : Nat} {l sg : List Nat} {i : Nat} {h Q} (hz : l.length ≤ sizeLine) (hi : i ≤ l.length) (q : Q (.int ((i + runLen sg (l.drop i) : Nat) : Int)) h) : callN P (n+1) 0 [.str (mkS l), .int (i : Int), .str (mkS sg)] h Q := by
  refine call_of U.f_behind_run rfl ?_
  show WpSs (ctxOf P (callN P n)) b_behind_run _ [.val (.str (mkS l)), .val (.int i), .val (.str (mkS sg)), .no] h
  push_cast [b_behind_run]
  refine wh_inv (fun m ρ h' => ∃ j : Nat, j ≤ l.length ∧ m = l.length - j ∧ ρ = [.val (.str (mkS l)), .val (.int i), .val (.str (mkS sg)), .val (.int j)] ∧ h' = h ∧ j + runLen sg (l.drop j) = i + runLen sg (l.drop i)) (l.length - i) ⟨i, hi, rfl, rfl, rfl, rfl⟩ ?_
  rintro m _ h D' ⟨j, hj, rfl, rfl, rfl, e⟩ kn kc kr kb
  have stop : runLen sg (l.drop j) = 0 → WpSs (ctxOf P (callN P n)) b_behind_run_2 { nx := fun x h => Q .non h, rt := Q } [.val (.str (mkS l)), .val (.int i), .val (.str (mkS sg)), .val (.int j)] h := by
    intro z
    push_cast [b_behind_run_2]
    rw [z] at e
    rw [← e] at q
    exact q
  push_cast [mkS_len]
  refine ⟨hz, ?_⟩
  refine ite_b (fun c => ?_) (fun c => ?_)
  · have hj' : j < l.length := by omega
    refine k_subS (by rw [mkS_len]; exact hz) (k := j) (c := l[j]) (List.getElem?_eq_getElem hj') ?_
    push_cast [mkS_list]
    refine ite_b (fun c => ?_) (fun c => ?_)
    · push_cast [b_behind_run_1]
      refine kn (l.length - (j + 1)) _ _ (by omega) ⟨j + 1, by omega, rfl, rfl, rfl, ?_⟩
      rw [← e, run_step hj' c]
      omega
    · exact stop (run_stop hj' c)
  · exact stop (run_end (by omega))
theorem signs_eq : signs = SG.map mkS := by decide +kernel
theorem letters_eq : ("abcdefghijklmnopqrstuvwxyz" : Str) = mkS letters := by decide +kernel
theorem figures_eq : ("0123456789" : Str) = mkS figures := by decide +kernel
theorem sp_eq : (" " : Str) = mkS [32] := by decide +kernel
theorem em_eq : ("" : Str) = mkS [] := by decide +kernel
theorem sign_at_ok {n : Nat} {l : List Nat} {i : Nat} {h Q} (hz : l.length ≤ sizeLine) (q : Q (.str (mkS ((SG.find? fun g => decide ((l.drop i).take g.length = g)).getD []))) h) : callN P (n+1) 1 [.str (mkS l), .int (i : Int)] h Q := by
  refine call_of U.f_sign_at rfl ?_
  show WpSs (ctxOf P (callN P n)) b_sign_at _ [.val (.str (mkS l)), .val (.int i), .no] h
  have eg : P.glob.lookup 0 = some (.tup (SG.map fun g => .str (mkS g))) := by
    rw [U.g_SIGNS]
    show some (AV.tup (signs.map AV.str)) = _
    rw [signs_eq, List.map_map]
    rfl
  push_cast [b_sign_at, eg, viewT_tup]
  refine for_inv (fun k ρ h' => h' = h ∧ (∃ s, ρ = [.val (.str (mkS l)), .val (.int i), s]) ∧ (SG.find? fun g => decide ((l.drop i).take g.length = g)) = ((SG.drop k).find? fun g => decide ((l.drop i).take g.length = g))) ⟨rfl, ⟨_, rfl⟩, rfl⟩ (fun _ _ _ _ _ => by trivial) ?_ ?_
  · rintro k x _ _ D' hx ⟨rfl, ⟨s, rfl⟩, e⟩ kn kc kr kb
    obtain ⟨g, hg, rfl⟩ := items_map hx
    have hgl : g.length ≤ 2 := by
      have : ∀ g ∈ SG, g.length ≤ 2 := by decide
      exact this g (List.mem_of_getElem? hg)
    push_cast [b_sign_at_1, mkS_len]
    refine ⟨by have : 2 ≤ sizeLine := by decide
               omega, hz, ?_⟩
    have ei : (i : Int) + (g.length : Int) = ((i + g.length : Nat) : Int) := by omega
    rw [ei, mkS_cut]
    push_cast [mkS_eq]
    have es : i + g.length - i = g.length := by omega
    rw [es]
    obtain ⟨h1, h2⟩ := List.getElem?_eq_some_iff.mp hg
    rw [List.drop_eq_getElem_cons h1, h2] at e
    refine ite_b (fun c => ?_) (fun c => ?_)
    · refine kr _ _ ?_
      rw [e, List.find?_cons_of_pos (by simpa using c)] at q
      exact q
    · refine kn _ _ ⟨rfl, ⟨_, rfl⟩, ?_⟩
      rw [e, List.find?_cons_of_neg (by simpa using c)]
  · rintro _ _ ⟨rfl, ⟨s, rfl⟩, e⟩
    push_cast [b_sign_at_2]
    rw [List.length_map, List.drop_of_length_le (Nat.le_refl _)] at e
    rw [e] at q
    exact q
theorem behind_word_ok {n : Nat} {l : List Nat} {i : Nat} {h Q} (hz : l.length ≤ sizeLine) (hi : i < l.length) (q : Q (.int ((i + stepLen (l.drop i) : Nat) : Int)) h) : callN P (n+2) 2 [.str (mkS l), .int (i : Int)] h Q := by
  refine call_of U.f_behind_word rfl ?_
  show WpSs (ctxOf P (callN P (n+1))) b_behind_word _ [.val (.str (mkS l)), .val (.int i)] h
  have e0 : P.glob.lookup 1 = some (.str (mkS letters)) := by rw [U.g_LETTERS, letters_eq]
  have e1 : P.glob.lookup 2 = some (.str (mkS figures)) := by rw [U.g_FIGURES, figures_eq]
  have ed := List.drop_eq_getElem_cons hi
  have es : stepLen (l.drop i) = if l[i] ∈ letters then runLen letters (l.drop i) else if l[i] ∈ figures then runLen figures (l.drop i) else signLen (l.drop i) := by
    rw [ed]; rfl
  push_cast [b_behind_word, e0]
  refine k_subS (by rw [mkS_len]; exact hz) (k := i) (c := l[i]) (List.getElem?_eq_getElem hi) ?_
  push_cast [mkS_list]
  refine ite_b (fun c => ?_) (fun c => ?_)
  · refine behind_run_ok hz (by omega) ?_
    rw [es, if_pos c] at q
    exact q
  push_cast [b_behind_word_2, e1]
  refine k_subS (by rw [mkS_len]; exact hz) (k := i) (c := l[i]) (List.getElem?_eq_getElem hi) ?_
  push_cast [mkS_list]
  refine ite_b (fun c2 => ?_) (fun c2 => ?_)
  · refine behind_run_ok hz (by omega) ?_
    rw [es, if_neg c, if_pos c2] at q
    exact q
  push_cast [b_behind_word_1]
  refine sign_at_ok hz ?_
  rw [es, if_neg c, if_neg c2] at q
  push_cast [mkS_len]
  have : ((SG.find? fun g => decide ((l.drop i).take g.length = g)).getD []).length ≤ sizeLine := by
    have := signLen_eq l[i] (l.drop (i + 1))
    rw [← ed] at this
    unfold signLen at this
    rw [this]
    split
    · decide
    · split <;> decide
  refine ⟨this, ?_⟩
  exact q
/-- the words as a value -/
def wl (ws : List (List Nat)) : List AV := ws.map fun w => .str (mkS w)
theorem wl_app (a b : List (List Nat)) : wl a ++ wl b = wl (a ++ b) := (List.map_append ..).symm
theorem wl_one (a : List (List Nat)) (w : List Nat) : wl a ++ [.str (mkS w)] = wl (a ++ [w]) := wl_app a [w]
theorem wl_len (a : List (List Nat)) : (wl a).length = a.length := List.length_map ..
theorem cells_last (h : AHeap) (c : Cell) : cells (h ++ [c]) h.length = c := by simp [cells]
theorem set_last (h : AHeap) (c d : Cell) : (h ++ [c]).set h.length d = h ++ [d] := by simp
theorem run_next {sg l : List Nat} {i : Nat} : ∀ c, l[i + runLen sg (l.drop i)]? = some c → c ∉ sg := by
  have key : ∀ d : List Nat, ∀ c, d[runLen sg d]? = some c → c ∉ sg := by
    intro d
    induction d with
    | nil => intro c h; simp at h
    | cons a r ih =>
      intro c h
      by_cases m : a ∈ sg
      · rw [runLen_in m] at h; exact ih c (by simpa using h)
      · rw [runLen_out m] at h
        simp at h
        rw [← h]; exact m
  intro c h
  refine key (l.drop i) c ?_
  rw [List.getElem?_drop]
  exact h
theorem run_room {sg l : List Nat} {i : Nat} (hi : i ≤ l.length) : i + runLen sg (l.drop i) ≤ l.length := by
  have := runLen_le sg (l.drop i)
  rw [List.length_drop] at this
  omega
theorem step_room {l : List Nat} {i : Nat} (hi : i ≤ l.length) : i + stepLen (l.drop i) ≤ l.length := by
  have := stepLen_le (l.drop i)
  rw [List.length_drop] at this
  omega
theorem split_row_ok {n : Nat} {l : List Nat} {h Q} (hz : l.length ≤ sizeLine) (qn : Tk l none → ∀ c, Q .non (h ++ [c])) (qs : ∀ ws, Tk l (some ws) → Q (.adr h.length) (h ++ [.lst (wl ws)])) : callN P (n+3) 3 [.str (mkS l)] h Q := by
  refine call_of U.f_split_row rfl ?_
  show WpSs (ctxOf P (callN P (n+2))) b_split_row _ [.val (.str (mkS l)), .no, .no, .no] h
  push_cast [b_split_row, sp_eq]
  refine ⟨Nat.zero_le _, ?_⟩
  refine behind_run_ok (i := 0) hz (Nat.zero_le _) ?_
  refine wh_inv (fun m ρ h' => ∃ (j : Nat) (acc : List (List Nat)) (s : Slot), j ≤ l.length ∧ acc.length ≤ j ∧ m = l.length - j ∧ ρ = [.val (.str (mkS l)), .val (.adr h.length), .val (.int j), s] ∧ h' = h ++ [.lst (wl acc)] ∧ Way l j acc ∧ ∀ c, l[j]? = some c → c ≠ 32) _ ⟨0 + runLen [32] (l.drop 0), [], .no, run_room (Nat.zero_le _), Nat.zero_le _, rfl, rfl, rfl, (Way.start l).run, ?_⟩ ?_
  · intro c hc
    have := run_next c hc
    simpa using this
  rintro m _ _ D' ⟨j, acc, s, hj, ha, rfl, rfl, rfl, hw, hs⟩ kn kc kr kb
  push_cast [mkS_len]
  refine ⟨hz, ?_⟩
  refine ite_b (fun c => ?_) (fun c => ?_)
  · have hj' : j < l.length := by omega
    have hg := List.getElem?_eq_getElem hj'
    have hs := hs _ hg
    push_cast [b_split_row_2]
    refine behind_word_ok hz hj' ?_
    push_cast [WpSs]
    refine ite_b (fun c2 => ?_) (fun c2 => ?_)
    · refine kr _ _ (qn (hw.bad hg hs (by omega)) _)
    · push_cast [b_split_row_1, cells_last, appC, set_last, mkS_cut, k_sliceS, mkS_len, sp_eq, wl_one, wl_len]
      refine ⟨hz, by omega, ?_⟩
      have hr := step_room (l := l) (i := j) (by omega)
      refine behind_run_ok hz hr ?_
      have e : j + stepLen (l.drop j) - j = stepLen (l.drop j) := by omega
      have hr2 := run_room (sg := [32]) hr
      refine kn (l.length - _) _ _ ?_ ⟨j + stepLen (l.drop j) + runLen [32] (l.drop (j + stepLen (l.drop j))), _, _, hr2, ?_, rfl, rfl, rfl, ?_, ?_⟩
      · omega
      · rw [List.length_append]; show acc.length + 1 ≤ _; omega
      · rw [e]
        exact (hw.tok hg hs (by omega)).run
      · intro c hc
        have := run_next c hc
        simpa using this
  · push_cast [b_split_row_3]
    exact qs _ (hw.done (by omega))
def RS0 : List (List Nat) := reserved.map (·.cps.toList)
theorem reserved_eq : reserved = RS0.map mkS := by decide +kernel
theorem any_str (ws : List (List Nat)) (v : List Nat) : ((wl ws).any fun y => eqF y (.str (mkS v))) = decide (v ∈ ws) := by
  induction ws with
  | nil => rfl
  | cons w ws ih =>
    show (eqF (.str (mkS w)) (.str (mkS v)) || (wl ws).any fun y => eqF y (.str (mkS v))) = _
    rw [ih]
    show ((mkS w == mkS v) || _) = _
    have : (mkS w == mkS v) = decide (w = v) := by
      by_cases h : w = v
      · rw [h]; simp
      · rw [decide_eq_false h]
        exact beq_false_of_ne fun k => h (mkS_inj.mp k)
    rw [this]
    by_cases h : w = v
    · subst h; simp
    · have h2 : ¬ v = w := fun k => h k.symm
      simp [h, h2]
theorem flat_wl (ws : List (List Nat)) : (wl ws).all flatA = true := by
  induction ws with
  | nil => rfl
  | cons w ws ih => exact ih
theorem in_wl {h : AHeap} {b : Bool} {v : List Nat} {y : AV} {ws : List (List Nat)} {Q : KA} (hy : viewT h y = some (wl ws)) (hn : ∀ z, y ≠ .str z) (q : Q (.bl (if b then !decide (v ∈ ws) else decide (v ∈ ws)))) : inK h b (.str (mkS v)) y Q := by
  refine k_inF rfl hy (flat_wl _) hn ?_
  rw [any_str]
  exact q
def RS : List (List Nat) := RS0
/-- a name as the program wants it -/
def nameOk (w : List Nat) : Bool := decide (w ∉ RS0 ∧ 1 ≤ w.length ∧ w.length ≤ 12 ∧ ∀ c ∈ w, c ∈ letters)
def numOk (w : List Nat) : Bool := decide (1 ≤ w.length ∧ w.length ≤ 10 ∧ ¬ (w[0]? = some 48 ∧ 1 < w.length) ∧ ∀ c ∈ w, c ∈ figures)
theorem is_name_ok {n : Nat} {w : List Nat} {h Q} (hz : w.length ≤ sizeLine) (q : Q (.bl (nameOk w)) h) : callN P (n+2) 4 [.str (mkS w)] h Q := by
  refine call_of U.f_is_name rfl ?_
  show WpSs (ctxOf P (callN P (n+1))) b_is_name _ [.val (.str (mkS w))] h
  have e0 : P.glob.lookup 1 = some (.str (mkS letters)) := by rw [U.g_LETTERS, letters_eq]
  have e3 : P.glob.lookup 3 = some (.tup (wl RS0)) := by
    rw [U.g_RESERVED]
    show some (AV.tup (reserved.map AV.str)) = _
    rw [reserved_eq, List.map_map]
    rfl
  have e4 : P.glob.lookup 4 = some (.int 12) := U.g_MOST_LETTERS
  push_cast [b_is_name, e3]
  refine in_wl rfl (fun _ h => by cases h) ?_
  refine ite_b (fun c => ?_) (fun c => ?_)
  · push_cast [if_true]
    have : nameOk w = false := by simp [nameOk, c]
    rw [this] at q
    exact q
  have fin : w ∉ RS0 → 1 ≤ w.length → w.length ≤ 12 → WpSs (ctxOf P (callN P (n+1))) b_is_name_1 { nx := fun x h => Q .non h, rt := Q } [.val (.str (mkS w))] h := by
    intro h1 h2 h3
    push_cast [b_is_name_1, e0]
    refine behind_run_ok (i := 0) hz (Nat.zero_le _) ?_
    push_cast [mkS_len]
    refine ⟨hz, ?_⟩
    have : decide (((0 + runLen letters (w.drop 0) : Nat) : Int) = (w.length : Int)) = nameOk w := by
      simp only [nameOk, Nat.zero_add, List.drop_zero]
      rw [decide_eq_decide]
      have := runLen_all (sg := letters) (l := w)
      constructor
      · intro h; exact ⟨h1, h2, h3, this.mp (by omega)⟩
      · intro h; have := this.mpr h.2.2.2; omega
    rw [this]
    exact q
  push_cast [mkS_len, e4]
  refine ⟨hz, ?_⟩
  by_cases c1 : 1 ≤ w.length
  · by_cases c2 : w.length ≤ 12
    · have d1 : decide ((1 : Int) ≤ (w.length : Int)) = true := decide_eq_true (by omega)
      have d2 : decide ((w.length : Int) ≤ 12) = true := decide_eq_true (by omega)
      push_cast [d1, d2, Bool.not_true, Bool.false_eq_true, if_false]
      exact fin c c1 c2
    · have d1 : decide ((1 : Int) ≤ (w.length : Int)) = true := decide_eq_true (by omega)
      have d2 : decide ((w.length : Int) ≤ 12) = false := decide_eq_false (by omega)
      push_cast [d1, d2, Bool.not_false, if_true]
      have : nameOk w = false := by simp [nameOk, c2]
      rw [this] at q
      exact q
  · have d1 : decide ((1 : Int) ≤ (w.length : Int)) = false := decide_eq_false (by omega)
    push_cast [d1, Bool.not_false, if_true]
    have : nameOk w = false := by simp [nameOk, c1]
    rw [this] at q
    exact q
theorem one_of {w : List Nat} (hw : 0 < w.length) (c3 : w[0] = 48) (c4 : w.length = 1) : w = [48] := by
  cases w with
  | nil => cases hw
  | cons a r => cases r with
    | nil => have : a = 48 := c3
             rw [this]
    | cons b r => simp at c4
theorem zero_eq : ("0" : Str) = mkS [48] := by decide +kernel
theorem is_number_ok {n : Nat} {w : List Nat} {h Q} (hz : w.length ≤ sizeLine) (q : Q (.bl (numOk w)) h) : callN P (n+2) 5 [.str (mkS w)] h Q := by
  refine call_of U.f_is_number rfl ?_
  show WpSs (ctxOf P (callN P (n+1))) b_is_number _ [.val (.str (mkS w))] h
  have e1 : P.glob.lookup 2 = some (.str (mkS figures)) := by rw [U.g_FIGURES, figures_eq]
  have e5 : P.glob.lookup 5 = some (.int 10) := U.g_MOST_FIGURES
  have fin : 1 ≤ w.length → w.length ≤ 10 → ¬ (w[0]? = some 48 ∧ 1 < w.length) → WpSs (ctxOf P (callN P (n+1))) b_is_number_1 { nx := fun x h => Q .non h, rt := Q } [.val (.str (mkS w))] h := by
    intro h1 h2 h3
    push_cast [b_is_number_1, e1]
    refine behind_run_ok (i := 0) hz (Nat.zero_le _) ?_
    push_cast [mkS_len]
    refine ⟨hz, ?_⟩
    have : decide (((0 + runLen figures (w.drop 0) : Nat) : Int) = (w.length : Int)) = numOk w := by
      simp only [numOk, Nat.zero_add, List.drop_zero]
      rw [decide_eq_decide]
      have := runLen_all (sg := figures) (l := w)
      constructor
      · intro h; exact ⟨h1, h2, h3, this.mp (by omega)⟩
      · intro h; have := this.mpr h.2.2.2; omega
    rw [this]
    exact q
  push_cast [b_is_number, mkS_len, e5]
  refine ⟨hz, ?_⟩
  by_cases c1 : 1 ≤ w.length
  · have d1 : decide ((1 : Int) ≤ (w.length : Int)) = true := decide_eq_true (by omega)
    by_cases c2 : w.length ≤ 10
    · have d2 : decide ((w.length : Int) ≤ 10) = true := decide_eq_true (by omega)
      push_cast [d1, d2, Bool.not_true, Bool.false_eq_true, if_false]
      have hw : (0 : Nat) < w.length := by omega
      refine k_subS (by rw [mkS_len]; exact hz) (k := 0) (c := w[0]) (List.getElem?_eq_getElem hw) ?_
      have z2 : (⟨#[w[0]]⟩ : Str) = mkS [w[0]] := rfl
      push_cast [z2, zero_eq, mkS_eq]
      have g0 : w[0]? = some w[0] := List.getElem?_eq_getElem hw
      by_cases c3 : w[0] = 48
      · by_cases c4 : w.length = 1
        · have : w = [48] := one_of hw c3 c4
          have d3 : decide ([w[0]] = [48]) = true := decide_eq_true (by rw [c3])
          have d4 : decide (w = [48]) = true := decide_eq_true this
          push_cast [d3, d4, if_true, Bool.not_true, Bool.false_eq_true, if_false]
          exact fin c1 c2 (by omega)
        · have : w ≠ [48] := fun e => c4 (by rw [e]; rfl)
          have d3 : decide ([w[0]] = [48]) = true := decide_eq_true (by rw [c3])
          have d4 : decide (w = [48]) = false := decide_eq_false this
          push_cast [d3, d4, if_true, Bool.not_false]
          have : numOk w = false := by
            have c5 : 1 < w.length := by omega
            simp [numOk, g0, c3, c5]
          rw [this] at q
          exact q
      · have d3 : decide ([w[0]] = [48]) = false := decide_eq_false (by simpa using c3)
        push_cast [d3, Bool.false_eq_true, if_false]
        exact fin c1 c2 (by rw [g0]; simp [c3])
    · have d2 : decide ((w.length : Int) ≤ 10) = false := decide_eq_false (by omega)
      push_cast [d1, d2, Bool.not_false, if_true]
      have : numOk w = false := by simp [numOk, c2]
      rw [this] at q
      exact q
  · have d1 : decide ((1 : Int) ≤ (w.length : Int)) = false := decide_eq_false (by omega)
    push_cast [d1, Bool.not_false, if_true]
    have : numOk w = false := by simp [numOk, c1]
    rw [this] at q
    exact q
end
end Wd

set_option maxRecDepth 100000
set_option maxHeartbeats 4000000
namespace Tm
open PySem L2 VL Wd
abbrev W := List Nat
def wa (ws : List W) (i : Nat) : W := (ws[i]?).getD []
def nv (w : W) : Int := ((NumText.digitsVal w : Nat) : Int)
def Wb (ws : List W) : Prop := ∀ w ∈ ws, w.length ≤ 1000 ∧ ∀ c ∈ w, c < 1114112
theorem wa_len {ws : List W} (h : Wb ws) (i : Nat) : (wa ws i).length ≤ 1000 := by
  unfold wa
  cases e : ws[i]? with
  | none => exact Nat.zero_le _
  | some w => exact (h w (List.mem_of_getElem? e)).1
theorem wa_ch {ws : List W} (h : Wb ws) (i : Nat) : ∀ c ∈ wa ws i, c < 1114112 := by
  unfold wa
  cases e : ws[i]? with
  | none => exact fun _ h => nomatch h
  | some w => exact (h w (List.mem_of_getElem? e)).2
theorem wa_z {ws : List W} (h : Wb ws) (i : Nat) : (wa ws i).length ≤ sizeLine := Nat.le_trans (wa_len h i) (by decide)
theorem wa_get {ws : List W} {i : Nat} (h : i < ws.length) : wa ws i = ws[i] := by unfold wa; rw [List.getElem?_eq_getElem h]; rfl
theorem wa_in {ws : List W} {i : Nat} (h : wa ws i ≠ []) : i < ws.length := by
  cases Nat.lt_or_ge i ws.length with
  | inl q => exact q
  | inr q => exact absurd (by unfold wa; rw [List.getElem?_eq_none q]; rfl) h
/-! ### words as lists of signs -/
def cL (s : Str) : W := s.cps.toList
theorem cL_mk (s : Str) : s = mkS (cL s) := rfl
def sgP : W := [43]
def sgM : W := [45]
def brO : W := [91]
def brC : W := [93]
def wLen : W := [108, 101, 110]
def wOld : W := [111, 108, 100]
def wRes : W := [114, 101, 115, 117, 108, 116]
theorem lits : ("+" : Str) = mkS sgP ∧ ("-" : Str) = mkS sgM ∧ ("[" : Str) = mkS brO ∧ ("]" : Str) = mkS brC ∧ ("len" : Str) = mkS wLen ∧ ("old" : Str) = mkS wOld ∧ ("result" : Str) = mkS wRes ∧ ("" : Str) = mkS [] := by decide +kernel
/-! ### terms -/
inductive Pl where
  | num (n : Int) | var (w : W) (p : Int) | len (w : W) (p : Int)
inductive Te where
  | pl (p : Pl) | cell (w : W) (old : Bool) (ix : Pl) (p : Int)
def Pl.av : Pl → AV
  | .num n => .tup [.str "num", .int n]
  | .var w p => .tup [.str "var", .str (mkS w), .int p]
  | .len w p => .tup [.str "len", .str (mkS w), .int p]
def Te.av : Te → AV
  | .pl p => p.av
  | .cell w o ix p => .tup [.str "cell", .tup [.str (mkS w), .bl o], ix.av, .int p]
/-! ### reading -/
def signedAt (ws : List W) (i : Nat) : Option (Int × Nat) :=
  if numOk (wa ws i) = true then some (nv (wa ws i), i + 1) else if wa ws i = sgM ∧ numOk (wa ws (i + 1)) = true then some (-nv (wa ws (i + 1)), i + 2) else none
def plusAt (ws : List W) (i : Nat) : Option (Int × Nat) :=
  if wa ws i ∉ [sgP, sgM] then some (0, i) else if numOk (wa ws (i + 1)) = true then (if wa ws i = sgP then some (nv (wa ws (i + 1)), i + 2) else some (-nv (wa ws (i + 1)), i + 2)) else none
def mkN (k : Bool) (w : W) (p : Int) : Pl := if k = true then .len w p else .var w p
def namedAt (k : Bool) (ws : List W) (i : Nat) : Option (Pl × Nat) :=
  match plusAt ws (i + 1) with
  | none => none
  | some (p, j) => if nameOk (wa ws i) = true ∨ (k = false ∧ wa ws i = wRes) then some (mkN k (wa ws i) p, j) else none
def plainAt (ws : List W) (i : Nat) : Option (Pl × Nat) :=
  match signedAt ws i with
  | some (n, j) => some (.num n, j)
  | none => if wa ws i = wLen then namedAt true ws (i + 1) else namedAt false ws i
def listAt (ws : List W) (i : Nat) : Option ((W × Bool) × Nat) :=
  if wa ws i = wOld ∧ nameOk (wa ws (i + 1)) = true then some ((wa ws (i + 1), true), i + 2) else if nameOk (wa ws i) = true then some ((wa ws i, false), i + 1) else none
def cellOf (ws : List W) (l : (W × Bool) × Nat) : Option (Te × Nat) :=
  match plainAt ws (l.2 + 1) with
  | none => none
  | some (ix, j) => if wa ws j = brC then (match plusAt ws (j + 1) with
    | none => none
    | some (p, k) => some (.cell l.1.1 l.1.2 ix p, k)) else none
def termAt (ws : List W) (i : Nat) : Option (Te × Nat) :=
  match listAt ws i with
  | none => (plainAt ws i).map fun r => (.pl r.1, r.2)
  | some l => if wa ws l.2 = brO then cellOf ws l else (plainAt ws i).map fun r => (.pl r.1, r.2)
def termOf (ws : List W) : Option Te :=
  match termAt ws 0 with
  | none => none
  | some (t, j) => if j = ws.length then some t else none
def oI : Option (Int × Nat) → AV
  | none => .non
  | some (n, j) => .tup [.int n, .int (j : Int)]
def oP : Option (Pl × Nat) → AV
  | none => .non
  | some (n, j) => .tup [n.av, .int (j : Int)]
def oL : Option ((W × Bool) × Nat) → AV
  | none => .non
  | some (n, j) => .tup [.tup [.str (mkS n.1), .bl n.2], .int (j : Int)]
def oT : Option (Te × Nat) → AV
  | none => .non
  | some (n, j) => .tup [n.av, .int (j : Int)]
def oV : Option Te → AV
  | none => .non
  | some t => t.av
/-! ### what reading a number gives -/
theorem num_digits {w : W} (h : ∀ c ∈ w, c ∈ figures) : NumText.AllDigits w := fun c hc => by
  have := List.mem_range'.mp (h c hc)
  obtain ⟨i, h1, h2⟩ := this
  omega
theorem numOk_iff {w : W} : numOk w = true ↔ (1 ≤ w.length ∧ w.length ≤ 10 ∧ ¬ (w[0]? = some 48 ∧ 1 < w.length) ∧ ∀ c ∈ w, c ∈ figures) := by
  unfold numOk
  rw [decide_eq_true_iff]
theorem num_int {w : W} (h : numOk w = true) : PySem.intText? (mkS w) = some (nv w) := by
  obtain ⟨h1, h2, _, h4⟩ := numOk_iff.mp h
  have := PySem.intText_digits (x := mkS w) (by rw [mkS_list]; exact num_digits h4) (by rw [mkS_list]; intro e; rw [e] at h1; exact absurd h1 (by decide)) (by rw [mkS_len]; omega)
  rw [mkS_list] at this
  exact this
theorem num_neg {w : W} (h : numOk w = true) : PySem.intText? (mkS (sgM ++ w)) = some (-nv w) := by
  obtain ⟨h1, h2, _, h4⟩ := numOk_iff.mp h
  exact PySem.intText_neg (x := mkS (sgM ++ w)) (cs := w) rfl (num_digits h4) (by intro e; rw [e] at h1; exact absurd h1 (by decide)) (by rw [mkS_len]; simp [sgM]; omega)
theorem num_pos {w : W} (h : numOk w = true) : PySem.intText? (mkS (sgP ++ w)) = some (nv w) := by
  obtain ⟨h1, h2, _, h4⟩ := numOk_iff.mp h
  have hd := num_digits h4
  have hne : w ≠ [] := by intro e; rw [e] at h1; exact absurd h1 (by decide)
  have hx : (mkS (sgP ++ w)).cps.toList = 43 :: w := rfl
  have hs : ∀ c ∈ (43 :: w), 33 ≤ c ∧ c < 128 := by
    intro c hc
    rcases List.mem_cons.mp hc with e | hc
    · omega
    · have := hd c hc; omega
  have e1 : numTextOf (mkS (sgP ++ w)) = 43 :: w := by
    unfold numTextOf
    rw [if_pos]
    · exact hx
    · rw [← Array.all_toList, hx, List.all_eq_true]
      intro c hc
      exact decide_eq_true (hs c hc).2
  have e2 : numSeenOf (mkS (sgP ++ w)) = 43 :: w := by
    unfold numSeenOf
    rw [e1]
    exact NumText.takeWhile_all fun c hc => by have := (hs c hc).1; simp; omega
  have es : NumText.sign ((43 :: w).dropWhile NumText.blank) = (false, w) := by rw [NumText.dropWhile_of (by decide)]; rfl
  have ec : NumText.core (43 :: w) = w := by
    unfold NumText.core
    rw [es]
    show (w.reverse.dropWhile NumText.blank).reverse = w
    rw [NumText.dropWhile_digits hd.reverse, List.reverse_reverse]
  unfold PySem.intText?
  rw [e1, e2, if_pos (beq_self_eq_true _), ec, es, NumText.digits_of hd hne]
  have hsz := NumText.push_size w #[]
  have hv := NumText.push_foldl w #[]
  show (if _ ≤ 4300 then some (NumText.worth false _) else none) = _
  rw [if_pos (by rw [hsz]; simp only [Array.size_empty]; omega)]
  unfold NumText.worth nv NumText.digitsVal
  rw [hv]
  rfl
end Tm

set_option maxRecDepth 100000
set_option maxHeartbeats 4000000
namespace Tm
open PySem L2 VL Wd
local macro_rules
  | `(tactic| push_cast [$xs,*]) => `(tactic| try simp only [$xs,*, WpSs, WpS, WpE, WpEs, WpBs, WpO, WpN, WpI, WpC, WpT, getS, setS, tgK, setsS, wipeS, k_add, k_addT, k_sub, k_mul, k_fdiv, k_mod, k_neg, k_lt, k_le, k_gt, k_ge, k_eqI, k_neI, k_eqS, k_neS, k_eqB, k_neB, k_is, k_isn, k_isB, k_isnB, k_gIn, ctx_gdct, isNon_non, isNon_int, isNon_str, isNon_lst, isNon_tup, isNon_adr, k_lenS, k_lenL, k_lenR, k_lenT, k_int, k_str, k_abs, tru_bl, augK, ctx_call, ctx_glob, k_in, k_nin, k_inS, k_addS, k_intB, isi_non_int, isi_non_bool, isi_non_str, isi_non_list, isi_non_tuple, isi_bl_int, isi_bl_bool, isi_bl_str, isi_bl_list, isi_bl_tuple, isi_int_int, isi_int_bool, isi_int_str, isi_int_list, isi_int_tuple, isi_str_int, isi_str_bool, isi_str_str, isi_str_list, isi_str_tuple, isi_tup_int, isi_tup_bool, isi_tup_str, isi_tup_list, isi_tup_tuple, isi_lst_int, isi_lst_bool, isi_lst_str, isi_lst_list, isi_lst_tuple, isi_ro_int, isi_ro_bool, isi_ro_str, isi_ro_list, isi_ro_tuple])
section
variable {P : Prg} [Wd.U P] [U P] {n : Nat} {x : AV} {ws : List W} {i : Nat} {h : AHeap} {Q : AV → AHeap → Prop}
theorem sz1 : sizeLine = 16777216 := rfl
/-- a list of words that is read -/
structure Rd (h : AHeap) (x : AV) (ws : List W) : Prop where
  v : viewT h x = some (wl ws)
  n : ∀ z, x ≠ .str z
  b : Wb ws
theorem wl_get {i : Nat} (hi : i < ws.length) : atI (wl ws) (i : Int) = some (.str (mkS (wa ws i))) := by
  rw [atI_nat (by rw [wl_len]; exact hi), wa_get hi]
  simp [wl, hi]
theorem k_lenW {Q : KA} (r : Rd h x ws) (q : Q (.int (ws.length : Int))) : bltK h .len [x] Q := by
  have e := r.v
  have nn := r.n
  have l := wl_len ws
  unfold bltK
  split
  · rename_i z heq
    cases heq
    exact absurd rfl (nn _)
  · rename_i heq
    cases heq
    rw [e]
    show Q (.int (wl ws).length)
    rw [l]
    exact q
  all_goals (rename_i heq; first | (cases heq; done) | skip)
  all_goals simp_all
theorem k_subW {Q : KA} (r : Rd h x ws) (hi : i < ws.length) (q : Q (.str (mkS (wa ws i)))) : subK h x (.int (i : Int)) Q := k_subL r.v r.n (wl_get hi) q
theorem word_at_ok (r : Rd h x ws) (q : Q (.str (mkS (wa ws i))) h) : callN P (n+1) 6 [x, .int (i : Int)] h Q := by
  refine call_of U.f_word_at rfl ?_
  show WpSs (ctxOf P (callN P n)) b_word_at _ [.val x, .val (.int (i : Int))] h
  push_cast [b_word_at]
  refine k_lenW r ?_
  push_cast [WpSs]
  refine ite_b (fun c => k_subW r (by omega) q) (fun c => ?_)
  push_cast [b_word_at_1, lits.2.2.2.2.2.2.2]
  have : wa ws i = [] := by unfold wa; rw [List.getElem?_eq_none (by omega)]; rfl
  rw [this] at q
  exact q
theorem i1 : (i : Int) + 1 = ((i + 1 : Nat) : Int) := by omega
theorem i2 : (i : Int) + 2 = ((i + 2 : Nat) : Int) := by omega
theorem num_in {j : Nat} (h : numOk (wa ws j) = true) : j < ws.length := wa_in fun e => by rw [e] at h; exact absurd h (by decide)
theorem name_in {j : Nat} (h : nameOk (wa ws j) = true) : j < ws.length := wa_in fun e => by rw [e] at h; exact absurd h (by decide)
theorem num_l {w : W} (h : numOk w = true) : w.length ≤ 10 := (numOk_iff.mp h).2.1
theorem k_intW {w : W} {Q : KA} (h0 : numOk w = true) (q : Q (.int (nv w))) : bltK h .int [.str (mkS w)] Q := k_intS (num_int h0) (by rw [mkS_len]; have := num_l h0; omega) q
theorem le2 : 2 ≤ sizeLine := by decide
theorem le3 : 3 ≤ sizeLine := by decide
theorem le4 : 4 ≤ sizeLine := by decide
theorem signed_at_ok (r : Rd h x ws) (q : Q (oI (signedAt ws i)) h) : callN P (n+3) 8 [x, .int (i : Int)] h Q := by
  refine call_of U.f_signed_at rfl ?_
  show WpSs (ctxOf P (callN P (n+2))) b_signed_at _ [.val x, .val (.int (i : Int))] h
  push_cast [b_signed_at]
  refine word_at_ok r ?_
  refine is_number_ok (wa_z r.b _) ?_
  push_cast [WpSs]
  unfold signedAt at q
  by_cases c : numOk (wa ws i) = true
  · rw [if_pos c] at q
    push_cast [c, if_true]
    refine k_subW r (num_in c) ?_
    refine k_intW c ?_
    rw [i1]
    exact ⟨le2, q⟩
  · rw [if_neg c] at q
    push_cast [c, Bool.false_eq_true, if_false, b_signed_at_2, lits, i1]
    refine word_at_ok r ?_
    push_cast [mkS_eq]
    have no : ¬ (wa ws i = sgM ∧ numOk (wa ws (i + 1)) = true) → WpSs (ctxOf P (callN P (n+2))) b_signed_at_1 { nx := fun _ h => Q .non h, rt := Q } [.val x, .val (.int (i : Int))] h := by
      intro z
      rw [if_neg z] at q
      push_cast [b_signed_at_1]
      exact q
    refine ite_b (fun c1 => ?_) (fun c1 => no fun z => c1 z.1)
    refine word_at_ok r ?_
    refine is_number_ok (wa_z r.b _) ?_
    push_cast [WpSs]
    by_cases c2 : numOk (wa ws (i + 1)) = true
    · rw [if_pos ⟨c1, c2⟩] at q
      push_cast [c2, if_true]
      refine k_subW r (num_in c2) ?_
      refine k_intW c2 ?_
      push_cast [i2]
      exact ⟨le2, q⟩
    · simp only [c2, Bool.false_eq_true, if_false]
      exact no fun z => c2 z.2
theorem in2 {w a b : W} {ng : Bool} {Q : KA} {t : AV} (ht : viewT h t = some [.str (mkS a), .str (mkS b)]) (hn : ∀ z, t ≠ .str z) (q : Q (.bl (if ng then !decide (w ∈ [a, b]) else decide (w ∈ [a, b])))) : inK h ng (.str (mkS w)) t Q :=
  in_wl (ws := [a, b]) ht hn q
theorem plus_at_ok (r : Rd h x ws) (q : Q (oI (plusAt ws i)) h) : callN P (n+3) 9 [x, .int (i : Int)] h Q := by
  refine call_of U.f_plus_at rfl ?_
  show WpSs (ctxOf P (callN P (n+2))) b_plus_at _ [.val x, .val (.int (i : Int))] h
  push_cast [b_plus_at, lits]
  refine word_at_ok r ?_
  refine ⟨le2, ?_⟩
  refine in2 rfl (fun _ h => by cases h) ?_
  push_cast [if_true]
  unfold plusAt at q
  by_cases c : wa ws i ∈ [sgP, sgM]
  · rw [if_neg (not_not_intro c)] at q
    push_cast [c, decide_true, Bool.not_true, Bool.false_eq_true, if_false, b_plus_at_3, i1]
    refine word_at_ok r ?_
    refine is_number_ok (wa_z r.b _) ?_
    push_cast [WpSs]
    by_cases c2 : numOk (wa ws (i + 1)) = true
    · rw [if_pos c2] at q
      push_cast [c2, Bool.not_true, Bool.false_eq_true, if_false, b_plus_at_2, lits, i1]
      have i1l := num_in c2
      refine k_subW r (by omega) ?_
      push_cast [mkS_eq]
      refine ite_b (fun c3 => ?_) (fun c3 => ?_)
      · rw [if_pos c3] at q
        refine k_subW r i1l ?_
        refine k_intW c2 ?_
        push_cast [i2]
        exact ⟨le2, q⟩
      · rw [if_neg c3] at q
        push_cast [b_plus_at_1, i1]
        refine k_subW r i1l ?_
        refine k_intW c2 ?_
        push_cast [i2]
        exact ⟨le2, q⟩
    · rw [if_neg c2] at q
      push_cast [c2, Bool.not_false, if_true]
      exact q
  · rw [if_pos c] at q
    push_cast [c, decide_false, Bool.not_false, if_true]
    exact ⟨le2, q⟩
theorem k_t0 {a b : AV} {Q : KA} (q : Q a) : subK h (.tup [a, b]) (.int 0) Q := k_subL (xs := [a, b]) rfl (fun _ h => by cases h) rfl q
theorem k_t1 {a b : AV} {Q : KA} (q : Q b) : subK h (.tup [a, b]) (.int 1) Q := k_subL (xs := [a, b]) rfl (fun _ h => by cases h) rfl q
def kS (k : Bool) : W := if k = true then wLen else [118, 97, 114]
theorem kS_eq : ("len" : Str) = mkS (kS true) ∧ ("var" : Str) = mkS (kS false) := by decide +kernel
theorem mkN_av (k : Bool) (w : W) (p : Int) : (mkN k w p).av = .tup [.str (mkS (kS k)), .str (mkS w), .int p] := by
  cases k
  · show AV.tup [.str "var", .str (mkS w), .int p] = _
    rw [kS_eq.2]
  · show AV.tup [.str "len", .str (mkS w), .int p] = _
    rw [kS_eq.1]
theorem kS_len (k : Bool) : decide (kS k = wLen) = k := by cases k <;> decide
theorem named_at_ok {k : Bool} (r : Rd h x ws) (q : Q (oP (namedAt k ws i)) h) : callN P (n+4) 10 [.str (mkS (kS k)), x, .int (i : Int)] h Q := by
  refine call_of U.f_named_at rfl ?_
  show WpSs (ctxOf P (callN P (n+3))) b_named_at _ [.val (.str (mkS (kS k))), .val x, .val (.int (i : Int)), .no, .no] h
  push_cast [b_named_at, lits, i1]
  refine word_at_ok r ?_
  refine plus_at_ok r ?_
  unfold namedAt at q
  cases e : plusAt ws (i + 1) with
  | none =>
    rw [e] at q
    push_cast [oI, isNon_non, if_true]
    exact q
  | some pj =>
    obtain ⟨p, j⟩ := pj
    rw [e] at q
    have q : Q (oP (if nameOk (wa ws i) = true ∨ (k = false ∧ wa ws i = wRes) then some (mkN k (wa ws i) p, j) else none)) h := q
    push_cast [oI, isNon_tup, Bool.false_eq_true, if_false]
    refine is_name_ok (wa_z r.b _) ?_
    have fin : (nameOk (wa ws i) = true ∨ (k = false ∧ wa ws i = wRes)) → WpSs (ctxOf P (callN P (n+3))) b_named_at_1 { nx := fun _ h => Q .non h, rt := Q } [.val (.str (mkS (kS k))), .val x, .val (.int (i : Int)), .val (.str (mkS (wa ws i))), .val (.tup [.int p, .int (j : Int)])] h := by
      intro z
      rw [if_pos z] at q
      push_cast [b_named_at_1]
      refine k_t0 ⟨le3, ?_⟩
      refine k_t1 ⟨le2, ?_⟩
      have q : Q (.tup [(mkN k (wa ws i) p).av, .int (j : Int)]) h := q
      rw [mkN_av] at q
      exact q
    push_cast [mkS_eq, kS_len]
    by_cases c : nameOk (wa ws i) = true
    · simp only [c, Bool.not_true, Bool.false_eq_true, if_false]
      exact fin (.inl c)
    · simp only [c, Bool.not_false, if_true]
      cases k with
      | true =>
        rw [if_neg (by rintro (z | ⟨z, _⟩); exact c z; cases z)] at q
        push_cast [if_true]
        exact q
      | false =>
        push_cast [Bool.false_eq_true, if_false, mkS_eq]
        by_cases c2 : wa ws i = wRes
        · have d : decide (wa ws i = wRes) = true := decide_eq_true c2
          simp only [d, Bool.not_true, Bool.false_eq_true, if_false]
          exact fin (.inr ⟨rfl, c2⟩)
        · have d : decide (wa ws i = wRes) = false := decide_eq_false c2
          rw [if_neg (by rintro (z | ⟨_, z⟩); exact c z; exact c2 z)] at q
          push_cast [d, Bool.not_false, if_true]
          exact q
theorem plain_at_ok (r : Rd h x ws) (q : Q (oP (plainAt ws i)) h) : callN P (n+5) 11 [x, .int (i : Int)] h Q := by
  refine call_of U.f_plain_at rfl ?_
  show WpSs (ctxOf P (callN P (n+4))) b_plain_at _ [.val x, .val (.int (i : Int)), .no] h
  push_cast [b_plain_at]
  refine signed_at_ok r ?_
  unfold plainAt at q
  cases e : signedAt ws i with
  | some pj =>
    obtain ⟨p, j⟩ := pj
    rw [e] at q
    push_cast [oI, isNon_tup, Bool.not_false, if_true]
    refine k_t0 ⟨le2, ?_⟩
    refine k_t1 ⟨le2, ?_⟩
    exact q
  | none =>
    rw [e] at q
    have q : Q (oP (if wa ws i = wLen then namedAt true ws (i + 1) else namedAt false ws i)) h := q
    push_cast [oI, isNon_non, Bool.not_true, Bool.false_eq_true, if_false, b_plain_at_2, i1]
    refine word_at_ok r ?_
    have ew : ("len" : Str) = mkS wLen := lits.2.2.2.2.1
    push_cast [ew, mkS_eq]
    refine ite_b (fun c => ?_) (fun c => ?_)
    · rw [if_pos c] at q
      exact named_at_ok (k := true) r q
    · rw [if_neg c] at q
      push_cast [b_plain_at_1, kS_eq.2]
      exact named_at_ok (k := false) r q
theorem list_at_ok (r : Rd h x ws) (q : Q (oL (listAt ws i)) h) : callN P (n+3) 12 [x, .int (i : Int)] h Q := by
  refine call_of U.f_list_at rfl ?_
  show WpSs (ctxOf P (callN P (n+2))) b_list_at _ [.val x, .val (.int (i : Int))] h
  push_cast [b_list_at, lits, i1]
  refine word_at_ok r ?_
  unfold listAt at q
  have rest : ¬ (wa ws i = wOld ∧ nameOk (wa ws (i + 1)) = true) → WpSs (ctxOf P (callN P (n+2))) b_list_at_2 { nx := fun _ h => Q .non h, rt := Q } [.val x, .val (.int (i : Int))] h := by
    intro z
    rw [if_neg z] at q
    push_cast [b_list_at_2, i1]
    refine word_at_ok r ?_
    refine is_name_ok (wa_z r.b _) ?_
    push_cast [WpSs]
    by_cases c : nameOk (wa ws i) = true
    · rw [if_pos c] at q
      push_cast [c, if_true]
      refine k_subW r (name_in c) ?_
      exact ⟨le2, le2, q⟩
    · rw [if_neg c] at q
      push_cast [c, Bool.false_eq_true, if_false, b_list_at_1]
      exact q
  push_cast [mkS_eq]
  refine ite_b (fun c1 => ?_) (fun c1 => rest fun z => c1 z.1)
  refine word_at_ok r ?_
  refine is_name_ok (wa_z r.b _) ?_
  push_cast [WpSs]
  by_cases c2 : nameOk (wa ws (i + 1)) = true
  · rw [if_pos ⟨c1, c2⟩] at q
    push_cast [c2, if_true]
    refine k_subW r (name_in c2) ?_
    push_cast [i2]
    exact ⟨le2, le2, q⟩
  · simp only [c2, Bool.false_eq_true, if_false]
    exact rest fun z => c2 z.2
theorem cell_at_ok {l : (W × Bool) × Nat} (r : Rd h x ws) (e : listAt ws i = some l) (hb : wa ws l.2 = brO) (q : Q (oT (cellOf ws l)) h) : callN P (n+6) 13 [x, .int (i : Int)] h Q := by
  refine call_of U.f_cell_at rfl ?_
  obtain ⟨⟨w, o⟩, j⟩ := l
  have hb : wa ws j = brO := hb
  show WpSs (ctxOf P (callN P (n+5))) b_cell_at _ [.val x, .val (.int (i : Int)), .no, .no, .no] h
  push_cast [b_cell_at]
  refine list_at_ok r ?_
  rw [e]
  have eo : ("[" : Str) = mkS brO := lits.2.2.1
  have ec : ("]" : Str) = mkS brC := lits.2.2.2.1
  push_cast [oL, isNon_tup, Bool.false_eq_true, if_false, eo]
  refine k_t1 ?_
  refine word_at_ok r ?_
  rw [hb]
  push_cast [mkS_eq, decide_true, Bool.not_true, Bool.false_eq_true, if_false, b_cell_at_3, ec]
  refine k_t1 ?_
  push_cast [i1]
  refine plain_at_ok r ?_
  unfold cellOf at q
  cases e2 : plainAt ws (j + 1) with
  | none =>
    rw [e2] at q
    push_cast [oP, isNon_non, if_true]
    exact q
  | some pk =>
    obtain ⟨ix, k⟩ := pk
    rw [e2] at q
    have q : Q (oT (if wa ws k = brC then (match plusAt ws (k + 1) with
      | none => none
      | some (p, k) => some (.cell w o ix p, k)) else none)) h := q
    push_cast [oP, isNon_tup, Bool.false_eq_true, if_false]
    refine k_t1 ?_
    refine word_at_ok r ?_
    push_cast [mkS_eq]
    by_cases c : wa ws k = brC
    · rw [if_pos c] at q
      have d : decide (wa ws k = brC) = true := decide_eq_true c
      push_cast [d, Bool.not_true, Bool.false_eq_true, if_false, b_cell_at_2]
      refine k_t1 ?_
      push_cast [i1]
      refine plus_at_ok r ?_
      cases e3 : plusAt ws (k + 1) with
      | none =>
        rw [e3] at q
        push_cast [oI, isNon_non, if_true]
        exact q
      | some pm =>
        obtain ⟨p, m⟩ := pm
        rw [e3] at q
        push_cast [oI, isNon_tup, Bool.false_eq_true, if_false, b_cell_at_1]
        refine k_t0 ?_
        refine k_t0 ?_
        refine k_t0 ⟨le4, ?_⟩
        refine k_t1 ⟨le2, ?_⟩
        exact q
    · rw [if_neg c] at q
      have d : decide (wa ws k = brC) = false := decide_eq_false c
      push_cast [d, Bool.not_false, if_true]
      exact q
theorem term_at_ok (r : Rd h x ws) (q : Q (oT (termAt ws i)) h) : callN P (n+7) 14 [x, .int (i : Int)] h Q := by
  refine call_of U.f_term_at rfl ?_
  show WpSs (ctxOf P (callN P (n+6))) b_term_at _ [.val x, .val (.int (i : Int)), .no] h
  push_cast [b_term_at]
  refine list_at_ok r ?_
  have eo : ("[" : Str) = mkS brO := lits.2.2.1
  unfold termAt at q
  have pl : ∀ s, Q (oT ((plainAt ws i).map fun r => (.pl r.1, r.2))) h → WpSs (ctxOf P (callN P (n+6))) b_term_at_1 { nx := fun _ h => Q .non h, rt := Q } [.val x, .val (.int (i : Int)), s] h := by
    intro s q
    push_cast [b_term_at_1]
    refine plain_at_ok r ?_
    have e : oT ((plainAt ws i).map fun r => (.pl r.1, r.2)) = oP (plainAt ws i) := by
      cases plainAt ws i with
      | none => rfl
      | some l => rfl
    rw [e] at q
    exact q
  cases e : listAt ws i with
  | none =>
    rw [e] at q
    simp only [oL, isNon_non, Bool.not_true, Bool.false_eq_true, if_false]
    exact pl _ q
  | some l =>
    obtain ⟨⟨w, o⟩, j⟩ := l
    rw [e] at q
    have q : Q (oT (if wa ws j = brO then cellOf ws ((w, o), j) else (plainAt ws i).map fun r => (.pl r.1, r.2))) h := q
    push_cast [oL, isNon_tup, Bool.not_false, if_true, eo]
    refine k_t1 ?_
    refine word_at_ok r ?_
    push_cast [mkS_eq]
    refine ite_b (fun c => ?_) (fun c => ?_)
    · rw [if_pos c] at q
      exact cell_at_ok r e c q
    · rw [if_neg c] at q
      exact pl _ q
end
end Tm

set_option maxRecDepth 100000
set_option maxHeartbeats 4000000
namespace Tw
open PySem L2 VL Wd Tm PySem.W PySem.W.KIN PyProof.Rows
/-! ### numbers written -/
def dg (n : Int) : W := (Str.ofString (toString n)).cps.toList
theorem dg_str (n : Int) : (Str.ofString (toString n)) = mkS (dg n) := rfl
theorem dg_nat (m : Nat) : dg (m : Int) = (Nat.toDigits 10 m).map Char.toNat := signs_num m
theorem dg_neg {m : Nat} (h : 0 < m) : dg (-(m : Int)) = 45 :: dg (m : Int) := by
  obtain ⟨k, rfl⟩ : ∃ k, m = k + 1 := ⟨m - 1, by omega⟩
  unfold dg
  have e : -((k + 1 : Nat) : Int) = Int.negSucc k := rfl
  rw [signs_ofString, signs_ofString, e]
  show List.map Char.toNat ("-" ++ Nat.repr (k + 1)).toList = 45 :: List.map Char.toNat (Nat.repr (k + 1)).toList
  rw [String.toList_append]
  rfl
def Bd (n : Int) : Prop := -10000000000 < n ∧ n < 10000000000
theorem digits_len : ∀ (k m : Nat), m < 10 ^ (k + 1) → (Nat.toDigits 10 m).length ≤ k + 1
  | 0, m, h => by rw [Nat.toDigits_of_lt_base (by omega)]; exact Nat.le_refl _
  | k + 1, m, h => by
    by_cases c : m < 10
    · rw [Nat.toDigits_of_lt_base c]; simp
    · have hm : m % 10 < 10 := Nat.mod_lt m (by decide)
      have t : Nat.toDigits 10 (m / 10) ++ Nat.toDigits 10 (m % 10) = Nat.toDigits 10 (10 * (m / 10) + m % 10) := Nat.toDigits_append_toDigits (by decide) (by omega) hm
      rw [Nat.div_add_mod] at t
      rw [← t, List.length_append, Nat.toDigits_of_lt_base hm]
      have := digits_len k (m / 10) (by rw [Nat.div_lt_iff_lt_mul (by decide), ← Nat.pow_succ]; exact h)
      simp
      omega
theorem digits_head : ∀ (m : Nat), 0 < m → (Nat.toDigits 10 m).head? ≠ some '0' := by
  intro m
  induction m using Nat.strongRecOn with
  | _ m ih =>
    intro hm
    by_cases c : m < 10
    · rw [Nat.toDigits_of_lt_base c]
      have : ∀ d : Nat, d < 10 → 0 < d → [Nat.digitChar d].head? ≠ some '0' := by decide
      exact this m c hm
    · have h1 : m % 10 < 10 := Nat.mod_lt m (by decide)
      have t : Nat.toDigits 10 (m / 10) ++ Nat.toDigits 10 (m % 10) = Nat.toDigits 10 (10 * (m / 10) + m % 10) := Nat.toDigits_append_toDigits (by decide) (by omega) h1
      rw [Nat.div_add_mod] at t
      rw [← t]
      have i := ih (m / 10) (by omega) (by omega)
      cases e : Nat.toDigits 10 (m / 10) with
      | nil => have := PySem.toDigits_len_ge 10 (m / 10); rw [e] at this; exact absurd this (by decide)
      | cons a r => rw [e] at i; exact i
theorem digit_fig {c : Char} {m : Nat} (h : c ∈ Nat.toDigits 10 m) : c.toNat ∈ figures := by
  have := Nat.isDigit_of_mem_toDigits (by decide) (by decide) h
  have r : 48 ≤ c.toNat ∧ c.toNat ≤ 57 := by
    simp only [Char.isDigit, Bool.and_eq_true, decide_eq_true_eq] at this
    exact ⟨this.1, this.2⟩
  unfold figures
  rw [List.mem_range']
  exact ⟨c.toNat - 48, by omega, by omega⟩
theorem dg_num {m : Nat} (h : m < 10000000000) : numOk (dg (m : Int)) = true := by
  rw [numOk_iff, dg_nat, List.length_map]
  have l1 : 1 ≤ (Nat.toDigits 10 m).length := by
    cases e : Nat.toDigits 10 m with
    | nil => have := PySem.toDigits_len_ge 10 m; rw [e] at this; exact absurd this (by decide)
    | cons a r => simp
  refine ⟨l1, digits_len 9 m h, ?_, ?_⟩
  · rintro ⟨h1, h2⟩
    by_cases c : m = 0
    · subst c
      rw [Nat.toDigits_of_lt_base (by decide)] at h2
      exact absurd h2 (by decide)
    · have hd := digits_head m (by omega)
      cases e : Nat.toDigits 10 m with
      | nil => rw [e] at l1; exact absurd l1 (by decide)
      | cons a r =>
        rw [e] at h1 hd
        simp at h1 hd
        apply hd
        apply Char.ext
        have : a.val.toNat = ('0' : Char).val.toNat := h1
        exact UInt32.toNat_inj.mp this
  · intro c hc
    obtain ⟨ch, h1, rfl⟩ := List.mem_map.mp hc
    exact digit_fig h1
theorem dg_val (m : Nat) : nv (dg (m : Int)) = m := by
  unfold nv
  rw [dg_nat, val_back]
/-! ### texts and words -/
def pT (p : Int) : W := if 0 < p then [32, 43, 32] ++ dg p else if p < 0 then [32, 45, 32] ++ dg (-p) else []
def pW (p : Int) : List W := if 0 < p then [sgP, dg p] else if p < 0 then [sgM, dg (-p)] else []
def lT (w : W) (o : Bool) : W := if o = true then [111, 108, 100, 32] ++ w else w
def lW (w : W) (o : Bool) : List W := if o = true then [wOld, w] else [w]
def plT : Pl → W
  | .num n => dg n
  | .var w p => w ++ pT p
  | .len w p => [108, 101, 110, 32] ++ w ++ pT p
def nW (n : Int) : List W := if n < 0 then [sgM, dg (-n)] else [dg n]
def plW : Pl → List W
  | .num n => nW n
  | .var w p => w :: pW p
  | .len w p => wLen :: w :: pW p
def teT : Te → W
  | .pl p => plT p
  | .cell w o ix p => lT w o ++ brO ++ plT ix ++ brC ++ pT p
def teW : Te → List W
  | .pl p => plW p
  | .cell w o ix p => lW w o ++ [brO] ++ plW ix ++ [brC] ++ pW p
def Pl.Ok : Pl → Prop
  | .num n => Bd n
  | .var w p => (nameOk w = true ∨ w = wRes) ∧ Bd p
  | .len w p => nameOk w = true ∧ Bd p
def Te.Ok : Te → Prop
  | .pl p => Pl.Ok p
  | .cell w _ ix p => nameOk w = true ∧ Pl.Ok ix ∧ Bd p
theorem nameOk_iff {w : W} : nameOk w = true ↔ (w ∉ RS0 ∧ 1 ≤ w.length ∧ w.length ≤ 12 ∧ ∀ c ∈ w, c ∈ letters) := by
  unfold nameOk
  rw [decide_eq_true_iff]
/-- a number below the bound, as a natural one and a sign -/
theorem bd_cases {n : Int} (h : Bd n) : (∃ m : Nat, m < 10000000000 ∧ n = m) ∨ ∃ m : Nat, 0 < m ∧ m < 10000000000 ∧ n = -(m : Int) := by
  obtain ⟨h1, h2⟩ := h
  by_cases c : 0 ≤ n
  · obtain ⟨m, hm⟩ := Int.eq_ofNat_of_zero_le c
    exact .inl ⟨m, by omega, by omega⟩
  · obtain ⟨m, hm⟩ := Int.eq_ofNat_of_zero_le (show 0 ≤ -n by omega)
    exact .inr ⟨m, by omega, by omega, by omega⟩
theorem dg_len {m : Nat} (h : m < 10000000000) : (dg (m : Int)).length ≤ 10 := num_l (dg_num h)
/-! ### words in a text -/
def IsW (w : W) : Prop := (w ≠ [] ∧ ∀ c ∈ w, c ∈ letters) ∨ (w ≠ [] ∧ ∀ c ∈ w, c ∈ figures) ∨ w ∈ SG
def marks : List Nat := [60, 62, 61, 33]
/-- a sign behind a word that would go on with it -/
def Ext (w : W) (c : Nat) : Prop := (w.getLast?.getD 0 ∈ letters ∧ c ∈ letters) ∨ (w.getLast?.getD 0 ∈ figures ∧ c ∈ figures) ∨ (w.getLast?.getD 0 ∈ marks ∧ c ∈ marks)
inductive Sp : List W → W → Prop
  | nil {s : W} : (∀ c ∈ s, c = 32) → Sp [] s
  | cons {s w l : W} {ws : List W} : (∀ c ∈ s, c = 32) → IsW w → Sp ws l → (∀ c, l.head? = some c → ¬ Ext w c) → Sp (w :: ws) (s ++ w ++ l)
theorem last_mem {w : W} (h : w ≠ []) : w.getLast?.getD 0 ∈ w := by
  rw [List.getLast?_eq_some_getLast h]
  exact List.getLast_mem h
theorem runLen_stop {sg w l : W} (h : ∀ c ∈ w, c ∈ sg) (hl : ∀ c, l.head? = some c → c ∉ sg) : runLen sg (w ++ l) = w.length := by
  induction w with
  | nil =>
    cases l with
    | nil => rfl
    | cons c r => exact runLen_out (hl c rfl)
  | cons c w ih => rw [List.cons_append, runLen_in (h c (List.mem_cons_self ..)), ih fun d hd => h d (List.mem_cons_of_mem _ hd)]; rfl
theorem fig_not {c : Nat} (h : c ∈ figures) : c ∉ letters ∧ c ≠ 32 := by
  have : ∀ c ∈ figures, c ∉ letters ∧ c ≠ 32 := by decide
  exact this c h
theorem let_not {c : Nat} (h : c ∈ letters) : c ≠ 32 := by
  have : ∀ c ∈ letters, c ≠ 32 := by decide
  exact this c h
theorem step_cons (c : Nat) (r : W) : stepLen (c :: r) = if c ∈ letters then runLen letters (c :: r) else if c ∈ figures then runLen figures (c :: r) else signLen (c :: r) := rfl
theorem step_word {w l : W} (hw : IsW w) (hl : ∀ c, l.head? = some c → ¬ Ext w c) : stepLen (w ++ l) = w.length := by
  rcases hw with ⟨hn, h⟩ | ⟨hn, h⟩ | h
  · have hlast := h _ (last_mem hn)
    have st : ∀ c, l.head? = some c → c ∉ letters := fun c hc z => hl c hc (.inl ⟨hlast, z⟩)
    have := runLen_stop h st
    cases w with
    | nil => exact absurd rfl hn
    | cons c r =>
      show stepLen (c :: (r ++ l)) = _
      rw [step_cons, if_pos (h c (List.mem_cons_self ..))]
      exact this
  · have hlast := h _ (last_mem hn)
    have st : ∀ c, l.head? = some c → c ∉ figures := fun c hc z => hl c hc (.inr (.inl ⟨hlast, z⟩))
    have := runLen_stop h st
    cases w with
    | nil => exact absurd rfl hn
    | cons c r =>
      show stepLen (c :: (r ++ l)) = _
      rw [step_cons, if_neg (fig_not (h c (List.mem_cons_self ..))).1, if_pos (h c (List.mem_cons_self ..))]
      exact this
  · have two : ∀ g ∈ twos, ∃ a b, g = [a, b] ∧ a ∉ letters ∧ a ∉ figures := by
      intro g hg
      simp only [twos, List.mem_cons, List.not_mem_nil, or_false] at hg
      rcases hg with rfl | rfl | rfl | rfl <;> exact ⟨_, _, rfl, by decide, by decide⟩
    unfold SG at h
    rcases List.mem_append.mp h with h | h
    · obtain ⟨a, b, rfl, n1, n2⟩ := two w h
      show stepLen (a :: b :: l) = 2
      rw [step_cons, if_neg n1, if_neg n2, signLen_eq]
      rw [if_pos (show (a :: b :: l).take 2 ∈ twos from h)]
    · obtain ⟨a, ha, rfl⟩ := List.mem_map.mp h
      have on : ∀ a ∈ ones, a ∉ letters ∧ a ∉ figures := by decide
      show stepLen (a :: l) = 1
      rw [step_cons, if_neg (on a ha).1, if_neg (on a ha).2, signLen_eq, if_neg, if_pos ha]
      intro z
      cases l with
      | nil =>
        have : ∀ g ∈ twos, g.length = 2 := by decide
        exact absurd (this _ z) (by simp)
      | cons c r =>
        have z : [a, c] ∈ twos := z
        have : ∀ g ∈ twos, ∀ a c, g = [a, c] → a ∈ marks ∧ c ∈ marks := by
          intro g hg a c e
          subst e
          simp only [twos, List.mem_cons, List.cons.injEq, and_true, List.not_mem_nil, or_false] at hg
          rcases hg with ⟨rfl, rfl⟩ | ⟨rfl, rfl⟩ | ⟨rfl, rfl⟩ | ⟨rfl, rfl⟩ <;> decide
        exact hl c rfl (.inr (.inr ⟨(this _ z a c rfl).1, (this _ z a c rfl).2⟩))
theorem isw_ne {w : W} (h : IsW w) : ∃ c r, w = c :: r ∧ c ≠ 32 := by
  have sg : ∀ g ∈ SG, g ≠ [] ∧ ∀ c, g.head? = some c → c ≠ 32 := by decide
  rcases h with ⟨hn, h⟩ | ⟨hn, h⟩ | h
  · cases w with
    | nil => exact absurd rfl hn
    | cons c r => exact ⟨c, r, rfl, let_not (h c (List.mem_cons_self ..))⟩
  · cases w with
    | nil => exact absurd rfl hn
    | cons c r => exact ⟨c, r, rfl, (fig_not (h c (List.mem_cons_self ..))).2⟩
  · have := sg w h
    cases w with
    | nil => exact absurd rfl this.1
    | cons c r => exact ⟨c, r, rfl, this.2 c rfl⟩
theorem Sp.tk {ws : List W} {l : W} (h : Sp ws l) : Tk l (some ws) := by
  induction h with
  | nil h => exact Tk.spaces h
  | @cons s w l ws hs hw _ hl ih =>
    rw [List.append_assoc]
    refine Tk.pre hs ?_
    obtain ⟨c, r, rfl, hc⟩ := isw_ne hw
    have st := step_word hw hl
    have t : Tk ((c :: (r ++ l)).drop (stepLen (c :: (r ++ l)))) (some ws) := by
      have e : stepLen (c :: (r ++ l)) = (c :: r).length := st
      rw [e]
      have : (c :: (r ++ l)).drop (c :: r).length = l := by
        show ((c :: r) ++ l).drop (c :: r).length = l
        rw [List.drop_left]
      rw [this]
      exact ih
    have e : stepLen (c :: (r ++ l)) = (c :: r).length := st
    have key := Tk.tok hc (by rw [e]; simp) t
    have e2 : (c :: (r ++ l)).take (stepLen (c :: (r ++ l))) = c :: r := by
      rw [e]
      show ((c :: r) ++ l).take (c :: r).length = c :: r
      rw [List.take_left]
    rw [e2] at key
    exact key
theorem isw_ch {w : W} (h : IsW w) : ∀ c ∈ w, c < 1114112 := by
  have k1 : ∀ c ∈ letters, c < 1114112 := by decide
  have k2 : ∀ c ∈ figures, c < 1114112 := by decide
  have k3 : ∀ g ∈ SG, ∀ c ∈ g, c < 1114112 := by decide
  intro c hc
  rcases h with ⟨_, h⟩ | ⟨_, h⟩ | h
  · exact k1 c (h c hc)
  · exact k2 c (h c hc)
  · exact k3 w h c hc
theorem Sp.isw {ws : List W} {l : W} (h : Sp ws l) : ∀ w ∈ ws, IsW w := by
  induction h with
  | nil _ => exact fun _ h => nomatch h
  | cons _ hw _ _ ih =>
    intro v hv
    rcases List.mem_cons.mp hv with rfl | hv
    · exact hw
    · exact ih v hv
theorem Sp.pre {ws : List W} {l s : W} (hs : ∀ c ∈ s, c = 32) (h : Sp ws l) : Sp ws (s ++ l) := by
  cases h with
  | nil h => exact .nil fun c hc => by rcases List.mem_append.mp hc with z | z; exact hs c z; exact h c z
  | @cons s' w l' ws' h1 h2 h3 h4 =>
    have : s ++ (s' ++ w ++ l') = (s ++ s') ++ w ++ l' := by simp
    rw [this]
    exact .cons (fun c hc => by rcases List.mem_append.mp hc with z | z; exact hs c z; exact h1 c z) h2 h3 h4
end Tw

set_option maxRecDepth 100000
set_option maxHeartbeats 4000000
namespace Wd
open PySem L2 VL
theorem joinL_nil (ls : List (List Nat)) : TL.joinL [] ls = ls.flatten := by
  induction ls with
  | nil => rfl
  | cons a r ih => cases r with
    | nil => simp [TL.joinL]
    | cons b r =>
      show a ++ ([] ++ TL.joinL [] (b :: r)) = _
      rw [ih]
      simp
theorem join_mkS (ls : List (List Nat)) : Txt.join (mkS []) (ls.map mkS) = mkS ls.flatten := by
  have := SX.join_S [] ls
  rw [joinL_nil] at this
  exact this
theorem wl_map (ls : List (List Nat)) : asStrs (wl ls) = some (ls.map mkS) := by
  have : wl ls = (ls.map mkS).map AV.str := (List.map_map ..).symm
  rw [this, asStrs_map]
theorem sum_le {ls : List (List Nat)} {b : Nat} (hb : ∀ p ∈ ls, p.length ≤ b) : ls.flatten.length ≤ ls.length * b := by
  induction ls with
  | nil => simp
  | cons a r ih =>
    have h1 := hb a (List.mem_cons_self ..)
    have h2 := ih fun p h => hb p (List.mem_cons_of_mem _ h)
    rw [List.flatten_cons, List.length_append, List.length_cons, Nat.succ_mul]
    omega
theorem sum_lens (ls : List (List Nat)) : ((ls.map mkS).map (·.length)).sum = ls.flatten.length := by
  induction ls with
  | nil => rfl
  | cons a r ih =>
    rw [List.map_cons, List.map_cons, List.sum_cons, ih, mkS_len, List.flatten_cons, List.length_append]
/-- a text of pieces -/
theorem k_joinL {h : AHeap} {x : AV} {ls : List (List Nat)} {b : Nat} {Q : KA} (hx : viewT h x = some (wl ls)) (hb : ∀ p ∈ ls, p.length ≤ b) (hz : ls.length * b ≤ 16777216) (q : Q (.str (mkS ls.flatten))) : smtK h .join (mkS []) x Q := by
  unfold smtK
  simp only [hx, Option.bind_some, wl_map, join_mkS]
  refine ⟨?_, q⟩
  rw [sum_lens, mkS_len]
  have := sum_le hb
  simp only [List.length_nil, Nat.mul_zero, Nat.add_zero]
  omega

theorem wl_take (ws : List (List Nat)) (k : Nat) : (wl ws).take k = wl (ws.take k) := (List.map_take ..).symm
theorem wl_drop (ws : List (List Nat)) (k : Nat) : (wl ws).drop k = wl (ws.drop k) := (List.map_drop ..).symm
end Wd

set_option maxRecDepth 100000
set_option maxHeartbeats 4000000
namespace Hd
open PySem L2 VL
local macro_rules
  | `(tactic| push_cast [$xs,*]) => `(tactic| try simp only [$xs,*, WpSs, WpS, WpE, WpEs, WpBs, WpO, WpN, WpI, WpC, WpT, getS, setS, tgK, setsS, wipeS, k_add, k_addT, k_sub, k_mul, k_fdiv, k_mod, k_neg, k_lt, k_le, k_gt, k_ge, k_eqI, k_neI, k_eqS, k_neS, k_eqB, k_neB, k_is, k_isn, k_isB, k_isnB, k_gIn, ctx_gdct, isNon_non, isNon_int, isNon_str, isNon_lst, isNon_tup, isNon_adr, k_lenS, k_lenL, k_lenR, k_lenT, k_int, k_str, k_abs, tru_bl, augK, ctx_call, ctx_glob, k_in, k_nin, k_inS, k_addS, k_intB, isi_non_int, isi_non_bool, isi_non_str, isi_non_list, isi_non_tuple, isi_bl_int, isi_bl_bool, isi_bl_str, isi_bl_list, isi_bl_tuple, isi_int_int, isi_int_bool, isi_int_str, isi_int_list, isi_int_tuple, isi_str_int, isi_str_bool, isi_str_str, isi_str_list, isi_str_tuple, isi_tup_int, isi_tup_bool, isi_tup_str, isi_tup_list, isi_tup_tuple, isi_lst_int, isi_lst_bool, isi_lst_str, isi_lst_list, isi_lst_tuple, isi_ro_int, isi_ro_bool, isi_ro_str, isi_ro_list, isi_ro_tuple])
theorem int_one (ds : List Int) (x : Int) : ds.map AV.int ++ [.int x] = (ds ++ [x]).map AV.int := by rw [List.map_append]; rfl
theorem set_int (ds : List Int) (j : Nat) (x : Int) : (ds.map AV.int).set j (.int x) = (ds.set j x).map AV.int := by rw [List.map_set]
theorem cells_pos {h : AHeap} {n : Nat} {c : Cell} (e : cells h n = c) (hc : c ≠ .dead) : n < h.length := by
  cases Nat.lt_or_ge n h.length with
  | inl q => exact q
  | inr q => unfold cells at e; rw [List.getElem?_eq_none q] at e; exact absurd e.symm hc
theorem cells_push {h : AHeap} {n : Nat} {c : Cell} (e : n < h.length) : cells (h ++ [c]) n = cells h n := by
  unfold cells
  rw [List.getElem?_append_left e]
theorem cells_app {h l : AHeap} {n : Nat} (e : n < h.length) : cells (h ++ l) n = cells h n := by
  unfold cells
  rw [List.getElem?_append_left e]
theorem cells_put {h : AHeap} {n m : Nat} {c : Cell} (hn : n ≠ m) : cells (h.set n c) m = cells h m := by
  unfold cells
  rw [List.getElem?_set_ne hn]
theorem cells_set {h : AHeap} {n : Nat} {c : Cell} (hn : n < h.length) : cells (h.set n c) n = c := by
  unfold cells
  rw [List.getElem?_set_self hn]; rfl
theorem cells_last (h : AHeap) (c : Cell) : cells (h ++ [c]) h.length = c := by simp [cells]
theorem set_last (h : AHeap) (c d : Cell) : (h ++ [c]).set h.length d = h ++ [d] := by simp
theorem view_adr {h : AHeap} {n : Nat} {xs : List AV} (e : cells h n = .lst xs) : viewT h (.adr n) = some xs := by
  show view h (.adr n) = _
  simp only [view, e]
/-- the hand: draws, and where in them -/
def Hnd (a : Nat) (h : AHeap) : Prop := ∃ (ds : List Int) (k : Nat), cells h a = .lst [.lst (ds.map AV.int), .int k]
theorem Hnd.lt {a : Nat} {h : AHeap} (x : Hnd a h) : a < h.length := by
  obtain ⟨ds, k, e⟩ := x
  exact cells_pos e (fun z => by cases z)
/-- from one heap to a later one: the hand is one still, the other cells are as they were -/
structure Hx (a : Nat) (h h' : AHeap) : Prop where
  hand : Hnd a h'
  len : h.length ≤ h'.length
  keep : ∀ b, b < h.length → b ≠ a → cells h' b = cells h b
theorem Hx.refl {a : Nat} {h : AHeap} (x : Hnd a h) : Hx a h h := ⟨x, Nat.le_refl _, fun _ _ _ => rfl⟩
theorem Hx.trans {a : Nat} {h h' h'' : AHeap} (x : Hx a h h') (y : Hx a h' h'') : Hx a h h'' := ⟨y.hand, Nat.le_trans x.len y.len, fun b h1 h2 => (y.keep b (Nat.lt_of_lt_of_le h1 x.len) h2).trans (x.keep b h1 h2)⟩
theorem Hx.app {a : Nat} {h : AHeap} (x : Hnd a h) (l : List Cell) : Hx a h (h ++ l) := by
  have lt := x.lt
  obtain ⟨ds, k, e⟩ := x
  exact ⟨⟨ds, k, (cells_app lt).trans e⟩, by simp, fun b h1 _ => cells_app h1⟩
section
variable {P : Prg} [U P]
theorem take_ok {a n : Nat} {m : Int} {h Q} (hd : Hnd a h) (hm : 0 < m) (q : ∀ (r : Nat) h', Hx a h h' → (r : Int) < m → Q (.int (r : Int)) h') : callN P (n+1) 20 [.adr a, .int m] h Q := by
  have hp := hd.lt
  obtain ⟨ds, k, e⟩ := hd
  refine call_of U.f__law_take rfl ?_
  show WpSs (ctxOf P (callN P n)) b_law_take _ [.val (.adr a), .val (.int m), .no, .no] h
  push_cast [b_law_take]
  refine k_subL (d := .int k) (view_adr e) (fun _ h => by cases h) rfl ?_
  have ix : ixN 2 1 = some 1 := rfl
  push_cast [e, putC, List.length_cons, List.length_nil, ix]
  have e1 : (k : Int) + 1 = ((k + 1 : Nat) : Int) := by omega
  have e2 : cells (h.set a (.lst ([.lst (ds.map AV.int), .int k].set 1 (.int ((k : Int) + 1))))) a = .lst [.lst (ds.map AV.int), .int ((k + 1 : Nat) : Int)] := by
    rw [cells_set hp, e1]; rfl
  have hx : Hx a h (h.set a (.lst ([.lst (ds.map AV.int), .int k].set 1 (.int ((k : Int) + 1))))) := ⟨⟨ds, k + 1, e2⟩, by simp, fun b _ h2 => cells_put (Ne.symm h2)⟩
  refine k_subL (d := .lst (ds.map AV.int)) (view_adr e2) (fun _ h => by cases h) rfl ?_
  push_cast [WpSs]
  refine ite_b (fun c => q 0 _ hx hm) (fun c => ?_)
  have hk : k < ds.length := by simp at c; omega
  have e3 : atI (ds.map AV.int) (k : Int) = some (.int ds[k]) := by
    rw [atI_nat (by simpa using hk)]
    simp [hk]
  push_cast [b_law_take_1]
  refine k_subL viewT_lst (fun _ h => by cases h) e3 ?_
  push_cast [WpSs]
  refine ⟨divA (by decide) (by decide), hm, ?_⟩
  have h1 := Int.emod_nonneg (ds[k] / 7) (b := m) (by omega)
  have h2 := Int.emod_lt_of_pos (ds[k] / 7) hm
  obtain ⟨r, hr⟩ := Int.eq_ofNat_of_zero_le h1
  rw [hr] at h2 ⊢
  exact q r _ hx h2
theorem draws_ok {n m : Nat} {ns : List Int} {h Q} (hn : ns.length ≤ 63) (hm : m ≤ 100000) (q : ∀ ds : List Int, ds.length = m → Q (.lst (ds.map AV.int)) h) : callN P (n+1) 19 [.ro (ns.map AV.int), .int (m : Int)] h Q := by
  refine call_of U.f__law_draws rfl ?_
  show WpSs (ctxOf P (callN P n)) b_law_draws _ [.val (.ro (ns.map AV.int)), .val (.int (m : Int)), .no, .no, .no, .no, .no, .no] h
  push_cast [b_law_draws, viewT_ro]
  have hz1 : sizeLine = 16777216 := rfl
  refine ⟨by rw [List.length_map]; omega, ?_⟩
  refine comp_map (fun i => .int (if (ns[i]?).getD 0 < 0 then -(ns[i]?).getD 0 else (ns[i]?).getD 0)) ?_ ?_
  · intro i x R hx r
    obtain ⟨a, ha, rfl⟩ := items_map hx
    push_cast [if_true]
    rw [ha] at r
    exact r
  refine ⟨Nat.zero_le _, ⟨by omega, by omega⟩, ?_⟩
  refine for_inv (fun k ρ h' => h' = h ∧ ∃ (ls ds : List Int) (s4 s5 s6 s7 : Slot), ls.length = ns.length ∧ ds.length = k ∧ ρ = [.val (.ro (ns.map AV.int)), .val (.int (m : Int)), .own (.lst (ls.map AV.int)), .own (.lst (ds.map AV.int)), s4, s5, s6, s7]) ⟨rfl, (List.range ns.length).map (fun i => (if (ns[i]?).getD 0 < 0 then -(ns[i]?).getD 0 else (ns[i]?).getD 0)), [], .no, .no, .no, .no, by simp, rfl, ?_⟩ (fun _ _ _ _ _ => by trivial) ?_ ?_
  · rw [List.length_map, List.map_map]; rfl
  · rintro k x _ h D' hx ⟨rfl, ls, ds, s4, s5, s6, s7, hl, hd, rfl⟩ kn kc kr kb
    obtain ⟨hk, rfl⟩ := items_range hx
    have hk : k < m := by simpa using hk
    have rest : ∀ (i : Int) s6 s7, WpSs (ctxOf P (callN P n)) b_law_draws_1 D' [.val (.ro (ns.map AV.int)), .val (.int (m : Int)), .own (.lst (ls.map AV.int)), .own (.lst (ds.map AV.int)), .val (.int k), .val (.int i), s6, s7] h := by
      intro i s6 s7
      push_cast [b_law_draws_1, int_one]
      refine ⟨mulA_r (by decide) (by decide), mulA_r (by decide) (by decide), by decide, ?_⟩
      generalize i * 48271 + (k : Int) * 69621 + 11 = a
      have h1 := Int.emod_nonneg a (by decide : (2147483647 : Int) ≠ 0)
      have h2 := Int.emod_lt_of_pos a (by decide : (0 : Int) < 2147483647)
      generalize a % 2147483647 = b at h1 h2
      refine ⟨mulA_l (by omega) (by omega), divA (by decide) (by decide), by decide, ?_⟩
      generalize b * b / 4096 + b = c
      have h3 := Int.emod_nonneg c (by decide : (2147483629 : Int) ≠ 0)
      have h4 := Int.emod_lt_of_pos c (by decide : (0 : Int) < 2147483629)
      generalize c % 2147483629 = d at h3 h4
      refine ⟨mulA_l (by omega) (by omega), divA (by decide) (by decide), mulA_r (by decide) (by decide), by decide, by simp; omega, ?_⟩
      exact kn _ _ ⟨rfl, ls, _, _, _, _, _, hl, by simp [hd], rfl⟩
    push_cast [b_law_draws_2]
    refine ite_b (fun c => ?_) (fun c => rest _ _ _)
    rw [List.length_map] at c ⊢
    refine ⟨by omega, ?_⟩
    have h1 := Int.emod_nonneg (k : Int) (b := (ns.length : Int)) (by omega)
    have h2 := Int.emod_lt_of_pos (k : Int) (b := (ns.length : Int)) (by omega)
    obtain ⟨j, hj⟩ := Int.eq_ofNat_of_zero_le h1
    rw [hj] at h2 ⊢
    have hj1 : j < ns.length := by omega
    have hj2 : j < ls.length := by omega
    have en : atI (ns.map AV.int) (j : Int) = some (.int ns[j]) := by
      rw [atI_nat (by simpa using hj1)]
      simp [hj1]
    have el : atI (ls.map AV.int) (j : Int) = some (.int ls[j]) := by
      rw [atI_nat (by simpa using hj2)]
      simp [hj2]
    refine k_subL viewT_ro (fun _ h => by cases h) en ?_
    push_cast [WpSs]
    refine ⟨⟨by decide, by decide, by decide⟩, ?_⟩
    refine ite_b (fun c2 => ?_) (fun c2 => ?_)
    · refine k_subL viewT_lst (fun _ h => by cases h) el ?_
      push_cast [WpSs]
      refine ite_b (fun c3 => ?_) (fun c3 => rest _ _ _)
      refine k_subL viewT_lst (fun _ h => by cases h) el ?_
      push_cast [WpSs]
      refine ⟨by decide, by simp; omega, ?_⟩
      refine k_subL viewT_lst (fun _ h => by cases h) el ?_
      have ix : ixN (ls.map AV.int).length (j : Int) = some j := by
        rw [List.length_map]
        exact Evl.ixN_nat hj2
      push_cast [putC, ix, int_one, set_int]
      refine ⟨divA (by decide) (by decide), ?_⟩
      exact kc _ _ ⟨rfl, _, _, _, _, _, _, by simp [hl], by simp [hd], rfl⟩
    · push_cast [Bool.false_eq_true, if_false]
      exact rest _ _ _
  · rintro _ h ⟨rfl, ls, ds, s4, s5, s6, s7, hl, hd, rfl⟩
    push_cast [b_law_draws_3]
    exact q ds (by simpa using hd)
end
end Hd

set_option maxRecDepth 100000
set_option maxHeartbeats 400000
/-! what repr and == ask of data -/
namespace ShL
open PySem L2 VL Wd
/-- may be shown and compared, with a weight of at most w and a depth of at most d -/
structure Sh (p : PyData) (w d : Nat) : Prop where
  l : p.leavesShort 151 = true
  w : p.weight ≤ w
  s : p.showable = true
  n : p.hasDict = false
  d : p.depth ≤ d
  c : p.canLay0 = true
structure ShA (p : List PyData) (w d : Nat) : Prop where
  l : PyData.leavesShortAll 151 p = true
  w : PyData.weightAll p ≤ w
  s : PyData.showableAll p = true
  n : PyData.hasDictAll p = false
  d : PyData.depthAll p ≤ d
  c : PyData.canLayAll0 p = true
theorem ShA.nil {d : Nat} : ShA [] 0 d := ⟨rfl, Nat.le_refl _, rfl, rfl, Nat.zero_le _, rfl⟩
theorem ShA.cons {p : PyData} {ps : List PyData} {w v d : Nat} (a : Sh p w d) (b : ShA ps v d) : ShA (p :: ps) (w + 1 + v) d := by
  refine ⟨?_, ?_, ?_, ?_, ?_, ?_⟩
  · simp only [PyData.leavesShortAll, a.l, b.l, Bool.and_self]
  · simp only [PyData.weightAll]
    have := a.w; have := b.w
    omega
  · simp only [PyData.showableAll, a.s, b.s, Bool.and_self]
  · simp only [PyData.hasDictAll, a.n, b.n, Bool.or_self]
  · simp only [PyData.depthAll]
    exact Nat.max_le.mpr ⟨a.d, b.d⟩
  · simp only [PyData.canLayAll0, a.c, b.c, Bool.and_self]
theorem ShA.mapM {α : Type} {f : α → PyData} {w d : Nat} : ∀ {xs : List α}, (∀ x ∈ xs, Sh (f x) w d) → ShA (xs.map f) (xs.length * (w + 1)) d
  | [], _ => by
    rw [List.length_nil, Nat.zero_mul]
    exact .nil
  | x :: xs, h => by
    have b := ShA.cons (h x (List.mem_cons_self ..)) (ShA.mapM fun y hy => h y (List.mem_cons_of_mem _ hy))
    rw [List.length_cons, Nat.succ_mul, Nat.add_comm]
    exact b
theorem ShA.list {p : List PyData} {w d : Nat} (a : ShA p w d) : Sh (.list p) w (d + 1) := ⟨by simp only [PyData.leavesShort]; exact a.l, by simp only [PyData.weight]; exact a.w, by simp only [PyData.showable]; exact a.s, by simp only [PyData.hasDict]; exact a.n, by simp only [PyData.depth]; exact Nat.succ_le_succ a.d, by simp only [PyData.canLay0]; exact a.c⟩
theorem ShA.tup {p : List PyData} {w d : Nat} (a : ShA p w d) : Sh (.tuple p) w (d + 1) := ⟨by simp only [PyData.leavesShort]; exact a.l, by simp only [PyData.weight]; exact a.w, by simp only [PyData.showable]; exact a.s, by simp only [PyData.hasDict]; exact a.n, by simp only [PyData.depth]; exact Nat.succ_le_succ a.d, by simp only [PyData.canLay0]; exact a.c⟩
theorem Sh.mono {p : PyData} {w w' d d' : Nat} (a : Sh p w d) (h1 : w ≤ w') (h2 : d ≤ d') : Sh p w' d' := ⟨a.l, Nat.le_trans a.w h1, a.s, a.n, Nat.le_trans a.d h2, a.c⟩
theorem ShA.mono {p : List PyData} {w w' d d' : Nat} (a : ShA p w d) (h1 : w ≤ w') (h2 : d ≤ d') : ShA p w' d' := ⟨a.l, Nat.le_trans a.w h1, a.s, a.n, Nat.le_trans a.d h2, a.c⟩
theorem log64 {i : Int} (h1 : -18000000000000000000 ≤ i) (h2 : i ≤ 18000000000000000000) : i.natAbs.log2 < 64 := by
  have : i.natAbs < 2 ^ 64 := by
    have e : (2 ^ 64 : Nat) = 18446744073709551616 := by decide
    omega
  exact PySem.Flt.log2_lt_of (by decide : 0 < 64) this
theorem Sh.int {i : Int} {d : Nat} (h1 : -18000000000000000000 ≤ i) (h2 : i ≤ 18000000000000000000) : Sh (.int i) 64 d := by
  have h := log64 h1 h2
  refine ⟨?_, ?_, ?_, rfl, Nat.zero_le _, rfl⟩
  · simp only [PyData.leavesShort, decide_eq_true_eq]
    show (Str.ofString (toString i)).length ≤ 151
    rw [PySem.ofString_length]
    exact PySem.int_text_length_le (k := 150) (by decide) (by omega)
  · simp only [PyData.weight]
    split <;> omega
  · simp only [PyData.showable, decide_eq_true_eq]
    omega
theorem Sh.str {w : List Nat} {d : Nat} (h : ∀ c ∈ w, c < 128) : Sh (.str (mkS w)) w.length d := by
  refine ⟨?_, ?_, rfl, rfl, Nat.zero_le _, ?_⟩
  · simp only [PyData.leavesShort]
    rw [List.all_eq_true]
    intro c m
    have := h c m
    exact decide_eq_true (Nat.lt_of_lt_of_le this (by decide))
  · simp only [PyData.weight]
    exact Nat.le_of_eq (by simp [mkS])
  · simp only [PyData.canLay0, PyData.strOk]
    rw [← Array.all_toList, List.all_eq_true]
    intro c m
    have := h c m
    exact decide_eq_true (Nat.lt_of_lt_of_le this (by decide))
theorem Sh.ok {p : PyData} {w d : Nat} (a : Sh p w d) (h : w ≤ 100000) (h2 : d ≤ 50) : p.showable = true ∧ p.hasDict = false ∧ p.depth ≤ 50 ∧ p.shown.length ≤ sizeLine := by
  refine ⟨a.s, a.n, Nat.le_trans a.d h2, ?_⟩
  have s := PyData.shown_le 151 (by decide) _ a.l
  have hz1 : sizeLine = 16777216 := rfl
  have := a.w
  omega
theorem Sh.shaped {p : PyData} {w d : Nat} (a : Sh p w d) (h2 : d ≤ 50) : SeqAt.shaped p = true := by
  unfold SeqAt.shaped
  rw [Bool.and_eq_true]
  exact ⟨a.c, decide_eq_true (by have := a.d; omega)⟩
theorem k_repr {h : AHeap} {x : AV} {d : PyData} {Q : KA} (e : pdH h x = some d) (c : d.showable = true ∧ d.hasDict = false ∧ d.depth ≤ 50 ∧ d.shown.length ≤ sizeLine) (q : Q (.str d.shown)) : bltK h .repr [x] Q := by
  unfold bltK
  simp only [e]
  exact ⟨c, q⟩
theorem k_eqP {h : AHeap} {x y : AV} {d e : PyData} {w v : Nat} {Q : KA} (hx : pdH h x = some d) (hy : pdH h y = some e) (a : Sh d w 50) (b : Sh e v 50) (q : Q (.bl (PyData.eqv d e))) : eqGen h false x y Q := by
  unfold eqGen
  rw [hx, hy]
  exact ⟨a.shaped (Nat.le_refl _), b.shaped (Nat.le_refl _), q⟩
theorem k_neP {h : AHeap} {x y : AV} {d e : PyData} {w v : Nat} {Q : KA} (hx : pdH h x = some d) (hy : pdH h y = some e) (a : Sh d w 50) (b : Sh e v 50) (q : Q (.bl (!PyData.eqv d e))) : eqGen h true x y Q := by
  unfold eqGen
  rw [hx, hy]
  exact ⟨a.shaped (Nat.le_refl _), b.shaped (Nat.le_refl _), q⟩
theorem k_eqTT {h : AHeap} {xs ys : List AV} {Q : KA} : cmpK h .Eq (.tup xs) (.tup ys) Q = eqGen h false (.tup xs) (.tup ys) Q := rfl
theorem k_neTT {h : AHeap} {xs ys : List AV} {Q : KA} : cmpK h .NotEq (.tup xs) (.tup ys) Q = eqGen h true (.tup xs) (.tup ys) Q := rfl
end ShL

set_option maxRecDepth 100000
set_option maxHeartbeats 400000
/-! Papers: tokens, rows, how rows read back. -/
namespace PaL
open PySem L2 VL Wd Tm Tw
theorem split_gen {s : Nat} (hs : s < 256) (l : W) : Txt.split (mkS l) (mkS [s]) = (TL.spl [s] 0 [] l).map mkS :=
  SX.split_S (a := l) (b := [s]) (by simp) (by simp [hs])
theorem split_w {s : Nat} (hs : s < 256) {ls : List W} (hn : ls ≠ []) (h : ∀ l ∈ ls, s ∉ l) : Txt.split (mkS (TL.joinL [s] ls)) (mkS [s]) = ls.map mkS := by
  rw [split_gen hs, TL.spl_join hn h]
theorem join_flat (S : W) : ∀ (ls : List W) (r : List W), ls ≠ [] → TL.joinL S (TL.joinL S ls :: r) = TL.joinL S (ls ++ r)
  | [], _, h => absurd rfl h
  | [x], r, _ => rfl
  | x :: y :: ls, r, _ => by
    have ih := join_flat S (y :: ls) r (by simp)
    cases r with
    | nil => rw [List.append_nil]; rfl
    | cons z r =>
      show TL.joinL S (x :: y :: ls) ++ (S ++ TL.joinL S (z :: r)) = x ++ (S ++ TL.joinL S (y :: ls ++ z :: r))
      rw [← ih]
      show (x ++ (S ++ TL.joinL S (y :: ls))) ++ (S ++ TL.joinL S (z :: r)) = x ++ (S ++ (TL.joinL S (y :: ls) ++ (S ++ TL.joinL S (z :: r))))
      simp [List.append_assoc]
theorem join_flat2 (S a : W) (ls r : List W) (h : ls ≠ []) : TL.joinL S (a :: TL.joinL S ls :: r) = TL.joinL S (a :: (ls ++ r)) := by
  have e := join_flat S ls r h
  cases ls with
  | nil => exact absurd rfl h
  | cons x ls =>
    show a ++ (S ++ TL.joinL S (TL.joinL S (x :: ls) :: r)) = a ++ (S ++ TL.joinL S (x :: (ls ++ r)))
    rw [e]; rfl
/-! ### tokens -/
structure To where
  k : W
  ns : List Nat
deriving DecidableEq
def wDead : W := [100, 101, 97, 100]
def kinds : List (W × Nat) := [([111, 110], 0), ([111, 118, 101, 114], 0), ([112, 97, 105, 114], 2), ([119, 114, 105, 116, 101], 1), ([101, 105, 116, 104, 101, 114], 1), ([97, 108, 108], 2), ([109, 97, 116, 99, 104], 2), ([115, 111, 114, 116, 101, 100], 3), ([98, 101, 108, 111, 119], 3)]
def intsA (ns : List Nat) : List AV := ns.map fun (n : Nat) => AV.int (n : Int)
def To.av (t : To) : AV := if t.k = wDead then .tup [.str (mkS t.k), .tup (intsA t.ns)] else .tup (.str (mkS t.k) :: intsA t.ns)
def To.Kd (t : To) : Prop := (t.k = wDead ∧ 0 < t.ns.length) ∨ (t.k, t.ns.length) ∈ kinds
structure To.Ok (t : To) : Prop where
  kd : t.Kd
  lt : ∀ n ∈ t.ns, n < 1000000000000
  few : t.ns.length ≤ 10
def dgs (ns : List Nat) : List W := ns.map fun (n : Nat) => dg (n : Int)
def To.row (t : To) : W := TL.joinL [32] (t.k :: dgs t.ns)
/-! ### numbers of at most 12 figures -/
def n12 (w : W) : Option Nat := if 1 ≤ w.length ∧ w.length ≤ 12 ∧ ¬ (w[0]? = some 48 ∧ w ≠ [48]) ∧ ∀ c ∈ w, c ∈ figures then some (NumText.digitsVal w) else none
theorem dg_fig {n : Nat} : ∀ c ∈ dg (n : Int), c ∈ figures := by
  intro c hc
  rw [dg_nat] at hc
  obtain ⟨d, h1, rfl⟩ := List.mem_map.mp hc
  exact digit_fig h1
theorem dg_len12 {n : Nat} (h : n < 1000000000000) : 1 ≤ (dg (n : Int)).length ∧ (dg (n : Int)).length ≤ 12 := by
  rw [dg_nat, List.length_map]
  exact ⟨PySem.toDigits_len_ge 10 n, digits_len 11 n (by omega)⟩
theorem dg_zero : dg ((0 : Nat) : Int) = [48] := by decide +kernel
theorem dg_n12 {n : Nat} (h : n < 1000000000000) : n12 (dg (n : Int)) = some n := by
  unfold n12
  have l := dg_len12 h
  rw [if_pos]
  · have := dg_val n
    unfold nv at this
    have : (NumText.digitsVal (dg (n : Int))) = n := by omega
    rw [this]
  · refine ⟨l.1, l.2, ?_, dg_fig⟩
    rintro ⟨z1, z2⟩
    by_cases c : n = 0
    · subst c; exact z2 dg_zero
    · apply digits_head n (by omega)
      rw [dg_nat, List.getElem?_map] at z1
      obtain ⟨d, e1, e2⟩ := Option.map_eq_some_iff.mp z1
      rw [List.head?_eq_getElem?, e1]
      have : d.toNat = '0'.toNat := e2
      rw [Char.toNat_inj.mp this]
theorem fig_no {c : Nat} (h : c ∈ figures) : c ≠ 32 ∧ c ≠ 10 := by
  have : ∀ c ∈ figures, c ≠ 32 ∧ c ≠ 10 := by decide +kernel
  exact this c h
/-- what is read of a row's words -/
def allN : List W → Option (List Nat)
  | [] => some []
  | w :: r => match n12 w, allN r with
    | some n, some ns => some (n :: ns)
    | _, _ => none
def tokK (k : W) (ns : List Nat) : Option To := if k = wDead then (if 0 < ns.length then some ⟨wDead, ns⟩ else none) else if (k, ns.length) ∈ kinds then some ⟨k, ns⟩ else none
def tokOf : List W → Option To
  | [] => none
  | k :: ws => match allN ws with
    | none => none
    | some ns => tokK k ns
theorem allN_dgs {ns : List Nat} (h : ∀ n ∈ ns, n < 1000000000000) : allN (dgs ns) = some ns := by
  induction ns with
  | nil => rfl
  | cons n ns ih =>
    show (match n12 (dg (n : Int)), allN (dgs ns) with | some n, some ns => some (n :: ns) | _, _ => none) = _
    rw [dg_n12 (h n (by simp)), ih fun m hm => h m (List.mem_cons_of_mem _ hm)]
theorem kind_no : ∀ p ∈ kinds, p.1 ≠ wDead ∧ 32 ∉ p.1 ∧ 10 ∉ p.1 ∧ p.1.length ≤ 6 := by decide +kernel
theorem dead_no : 32 ∉ wDead ∧ 10 ∉ wDead ∧ wDead.length ≤ 6 := by decide +kernel
theorem kd_no {t : To} (h : t.Kd) : 32 ∉ t.k ∧ 10 ∉ t.k ∧ t.k.length ≤ 6 := by
  rcases h with ⟨e, _⟩ | m
  · rw [e]; exact dead_no
  · exact (kind_no _ m).2
theorem row_split {t : To} (h : t.Ok) : TL.spl [32] 0 [] t.row = t.k :: dgs t.ns := by
  refine TL.spl_join (by simp) fun p hp => ?_
  rcases List.mem_cons.mp hp with rfl | hp
  · exact (kd_no h.kd).1
  · obtain ⟨n, _, rfl⟩ := List.mem_map.mp hp
    exact fun z => (fig_no (dg_fig _ z)).1 rfl
theorem tok_back {t : To} (h : t.Ok) : tokOf (t.k :: dgs t.ns) = some t := by
  show (match allN (dgs t.ns) with | none => none | some ns => tokK t.k ns) = some t
  rw [allN_dgs h.lt]
  show tokK t.k t.ns = some t
  unfold tokK
  rcases h.kd with ⟨e, l⟩ | m
  · rw [if_pos e, if_pos l]
    obtain ⟨k, ns⟩ := t
    cases (show k = wDead from e)
    rfl
  · rw [if_neg (kind_no _ m).1, if_pos m]
theorem mem_join {S : W} {c : Nat} : ∀ {ls : List W}, c ∈ TL.joinL S ls → c ∈ S ∨ ∃ l ∈ ls, c ∈ l
  | [], h => by cases h
  | [x], h => .inr ⟨x, by simp, h⟩
  | x :: y :: r, h => by
    have h : c ∈ x ++ (S ++ TL.joinL S (y :: r)) := h
    rcases List.mem_append.mp h with h | h
    · exact .inr ⟨x, by simp, h⟩
    · rcases List.mem_append.mp h with h | h
      · exact .inl h
      · rcases mem_join h with h | ⟨l, m, h⟩
        · exact .inl h
        · exact .inr ⟨l, List.mem_cons_of_mem _ m, h⟩
theorem row_no {t : To} (h : t.Ok) : 10 ∉ t.row := by
  intro z
  rcases mem_join z with z | ⟨l, m, z⟩
  · simp at z
  · rcases List.mem_cons.mp m with rfl | m
    · exact (kd_no h.kd).2.1 z
    · obtain ⟨n, _, rfl⟩ := List.mem_map.mp m
      exact (fig_no (dg_fig _ z)).2 rfl
theorem join_len (S : W) (b : Nat) : ∀ ls : List W, (∀ l ∈ ls, l.length ≤ b) → (TL.joinL S ls).length ≤ ls.length * (b + S.length)
  | [], _ => by simp [TL.joinL]
  | [x], h => by
    have := h x (by simp)
    show x.length ≤ 1 * (b + S.length)
    omega
  | x :: y :: r, h => by
    have h1 := h x (by simp)
    have ih := join_len S b (y :: r) fun l m => h l (List.mem_cons_of_mem _ m)
    show (x ++ (S ++ TL.joinL S (y :: r))).length ≤ _
    simp only [List.length_append, List.length_cons] at ih ⊢
    rw [Nat.add_mul]
    omega
theorem row_len {t : To} (h : t.Ok) : t.row.length ≤ 200 := by
  have := join_len [32] 12 (t.k :: dgs t.ns) fun l m => by
    rcases List.mem_cons.mp m with rfl | m
    · have := (kd_no h.kd).2.2; omega
    · obtain ⟨n, hn, rfl⟩ := List.mem_map.mp m
      exact (dg_len12 (h.lt n hn)).2
  have l := h.few
  simp [dgs] at this
  show (TL.joinL [32] (t.k :: dgs t.ns)).length ≤ 200
  simp only [dgs] at this ⊢
  omega
/-! ### papers -/
structure Pp where
  ls : List W
  nm : W
  ts : List To
def wText : W := [116, 101, 120, 116, 32]
def wProc : W := [112, 114, 111, 99, 32]
def Pp.tx (p : Pp) : W := TL.joinL [10] p.ls
def Pp.rows (p : Pp) : List W := (wText ++ dg (p.ls.length : Int)) :: (p.ls ++ (wProc ++ p.nm) :: p.ts.map To.row)
structure Pp.Ok (p : Pp) : Prop where
  l0 : p.ls ≠ []
  l1 : p.ls.length ≤ 100
  ll : ∀ l ∈ p.ls, 10 ∉ l ∧ l.length ≤ 20
  nm : 10 ∉ p.nm ∧ p.nm.length ≤ 20
  t0 : p.ts ≠ []
  t1 : p.ts.length ≤ 100
  ok : ∀ t ∈ p.ts, t.Ok
theorem rows_no {p : Pp} (h : p.Ok) : ∀ l ∈ p.rows, 10 ∉ l := by
  intro l m
  have t10 : 10 ∉ wText ∧ 10 ∉ wProc := by decide
  unfold Pp.rows at m
  rcases List.mem_cons.mp m with rfl | m
  · intro z
    rcases List.mem_append.mp z with z | z
    · exact t10.1 z
    · exact (fig_no (dg_fig _ z)).2 rfl
  · rcases List.mem_append.mp m with m | m
    · exact (h.ll l m).1
    · rcases List.mem_cons.mp m with rfl | m
      · intro z
        rcases List.mem_append.mp z with z | z
        · exact t10.2 z
        · exact h.nm.1 z
      · obtain ⟨t, ht, rfl⟩ := List.mem_map.mp m
        exact row_no (h.ok t ht)
theorem rows_len {p : Pp} (h : p.Ok) : p.rows.length = p.ls.length + 2 + p.ts.length := by simp [Pp.rows]; omega
theorem row_lens {p : Pp} (h : p.Ok) : ∀ l ∈ p.rows, l.length ≤ 200 := by
  intro l m
  unfold Pp.rows at m
  rcases List.mem_cons.mp m with rfl | m
  · have := dg_len12 (n := p.ls.length) (by have := h.l1; omega)
    have : wText.length = 5 := rfl
    rw [List.length_append]; omega
  · rcases List.mem_append.mp m with m | m
    · have := (h.ll l m).2; omega
    · rcases List.mem_cons.mp m with rfl | m
      · have := h.nm.2
        have : wProc.length = 5 := rfl
        rw [List.length_append]; omega
      · obtain ⟨t, ht, rfl⟩ := List.mem_map.mp m
        exact row_len (h.ok t ht)
end PaL

set_option maxRecDepth 100000
set_option maxHeartbeats 400000
namespace Pa
open PySem L2 VL Wd Tm Tw PaL
local macro_rules
  | `(tactic| push_cast [$xs,*]) => `(tactic| try simp only [$xs,*, WpSs, WpS, WpE, WpEs, WpBs, WpO, WpN, WpI, WpC, WpT, getS, setS, tgK, setsS, wipeS, k_add, k_addT, k_sub, k_mul, k_fdiv, k_mod, k_neg, k_lt, k_le, k_gt, k_ge, k_eqI, k_neI, k_eqS, k_neS, k_eqB, k_neB, k_is, k_isn, k_isB, k_isnB, k_gIn, ctx_gdct, isNon_non, isNon_int, isNon_str, isNon_lst, isNon_tup, isNon_adr, k_lenS, k_lenL, k_lenR, k_lenT, k_int, k_str, k_abs, tru_bl, augK, ctx_call, ctx_glob, k_in, k_nin, k_inS, k_addS, k_intB, isi_non_int, isi_non_bool, isi_non_str, isi_non_list, isi_non_tuple, isi_bl_int, isi_bl_bool, isi_bl_str, isi_bl_list, isi_bl_tuple, isi_int_int, isi_int_bool, isi_int_str, isi_int_list, isi_int_tuple, isi_str_int, isi_str_bool, isi_str_str, isi_str_list, isi_str_tuple, isi_tup_int, isi_tup_bool, isi_tup_str, isi_tup_list, isi_tup_tuple, isi_lst_int, isi_lst_bool, isi_lst_str, isi_lst_list, isi_lst_tuple, isi_ro_int, isi_ro_bool, isi_ro_str, isi_ro_list, isi_ro_tuple])
theorem k_joinS {h : AHeap} {x : AV} {S : W} {ls : List (List Nat)} {Q : KA} (hx : viewT h x = some (wl ls)) (hz : ls.flatten.length + ls.length * S.length ≤ 16777216) (q : Q (.str (mkS (TL.joinL S ls)))) : smtK h .join (mkS S) x Q := by
  unfold smtK
  have e : Txt.join (mkS S) (ls.map mkS) = mkS (TL.joinL S ls) := SX.join_S S ls
  simp only [hx, Option.bind_some, wl_map, e]
  refine ⟨?_, q⟩
  rw [sum_lens, mkS_len, List.length_map]
  exact hz
theorem k_joinB {h : AHeap} {x : AV} {S : W} {ls : List (List Nat)} {b c : Nat} {Q : KA} (hx : viewT h x = some (wl ls)) (hb : ∀ p ∈ ls, p.length ≤ b) (hc : ls.length ≤ c) (hz : c * (b + S.length) ≤ 16777216) (q : Q (.str (mkS (TL.joinL S ls)))) : smtK h .join (mkS S) x Q := by
  refine k_joinS hx ?_ q
  have h1 := sum_le hb
  have h2 : ls.length * (b + S.length) ≤ c * (b + S.length) := Nat.mul_le_mul_right _ hc
  rw [Nat.mul_add] at h2
  omega
theorem plits : ("dead" : Str) = mkS wDead ∧ (" " : Str) = mkS [32] ∧ ("\n" : Str) = mkS [10] ∧ ("text " : Str) = mkS wText ∧ ("proc " : Str) = mkS wProc ∧ ("0" : Str) = mkS [48] := by decide +kernel
theorem cutS_mk (l : W) (lo hi : Option Int) : cutS (mkS l) lo hi = mkS (cut l lo hi) := by
  unfold cutS cut
  rw [mkS_len, mkS_list]
  rfl
def oN : Option Nat → AV
  | none => .non
  | some n => .int (n : Int)
def oTo : Option To → AV
  | none => .non
  | some t => t.av
theorem range_map {α : Type} (l : List α) (d : α) (f : α → AV) : (List.range l.length).map (fun i => f (l[i]?.getD d)) = l.map f := by
  apply List.ext_getElem
  · simp
  · intro i i1 i2
    simp only [List.length_map, List.length_range] at i1
    simp [i1]
section
variable {P : Prg} [U P] {n : Nat} {h : AHeap} {Q : AV → AHeap → Prop}
theorem read_number_ok {w : W} (hz : w.length ≤ 1000000) (q : Q (oN (n12 w)) h) : callN P (n+1) 117 [.str (mkS w)] h Q := by
  refine call_of U.f_read_number rfl ?_
  show WpSs (ctxOf P (callN P n)) b_read_number _ [.val (.str (mkS w)), .no] h
  have e1 : P.glob.lookup 2 = some (.str (mkS figures)) := by rw [U.g_FIGURES, figures_eq]
  have e5 : P.glob.lookup 5 = some (.int 12) := U.g_MOST_FIGURES
  have hz1 := sz1
  have fin : 1 ≤ w.length → w.length ≤ 12 → ¬ (w[0]? = some 48 ∧ w ≠ [48]) → WpSs (ctxOf P (callN P n)) b_read_number_3 { nx := fun x h => Q .non h, rt := Q } [.val (.str (mkS w)), .no] h := by
    intro h1 h2 h3
    push_cast [b_read_number_3, mkS_list]
    refine for_inv (fun i ρ h' => h' = h ∧ (∀ j, j < i → ∀ c, w[j]? = some c → c ∈ figures) ∧ ∃ s1, ρ = [.val (.str (mkS w)), s1]) ⟨rfl, (fun j hj => absurd hj (Nat.not_lt_zero _)), _, rfl⟩ (fun _ _ _ _ _ => by trivial) ?_ ?_
    · rintro i x _ _ D' hx ⟨rfl, hf, s1, rfl⟩ kn kc kr kb
      obtain ⟨c, hc, rfl⟩ := items_map hx
      push_cast [b_read_number_1, e1, mkS_list, if_true]
      by_cases m : c ∈ figures
      · have d : (c ∈ figures) = True := eq_true m
        push_cast [d, decide_true, Bool.not_true, Bool.false_eq_true, if_false]
        refine kn _ _ ⟨rfl, fun j hj c' hc' => ?_, _, rfl⟩
        by_cases e : j = i
        · subst e; rw [hc] at hc'; cases hc'; exact m
        · exact hf j (by omega) c' hc'
      · have d : (c ∈ figures) = False := eq_false m
        push_cast [d, decide_false, Bool.not_false, if_true]
        refine kr _ _ ?_
        have : n12 w = none := if_neg fun z => m (z.2.2.2 c (List.mem_of_getElem? hc))
        rw [this] at q
        exact q
    · rintro _ _ ⟨rfl, hf, s1, rfl⟩
      have all : ∀ c ∈ w, c ∈ figures := fun c m => by
        obtain ⟨j, hj, e⟩ := List.mem_iff_getElem.mp m
        refine hf j (by simpa using hj) c ?_
        rw [List.getElem?_eq_getElem hj, e]
      have : n12 w = some (NumText.digitsVal w) := if_pos ⟨h1, h2, h3, all⟩
      rw [this] at q
      push_cast [b_read_number_2]
      have num : PySem.intText? (mkS w) = some (NumText.digitsVal w : Int) := by
        have := PySem.intText_digits (x := mkS w) (by rw [mkS_list]; exact num_digits all) (by rw [mkS_list]; intro e; rw [e] at h1; exact absurd h1 (by decide)) (by rw [mkS_len]; omega)
        rw [mkS_list] at this
        exact this
      exact k_intS num (by rw [mkS_len]; omega) q
  push_cast [b_read_number, mkS_len, e5]
  refine ⟨by omega, ?_⟩
  by_cases c1 : 1 ≤ w.length
  · have d1 : decide ((1 : Int) ≤ (w.length : Int)) = true := decide_eq_true (by omega)
    by_cases c2 : w.length ≤ 12
    · have d2 : decide ((w.length : Int) ≤ 12) = true := decide_eq_true (by omega)
      push_cast [d1, d2, Bool.not_true, Bool.false_eq_true, if_false]
      have hw : (0 : Nat) < w.length := by omega
      refine k_subS (by rw [mkS_len]; omega) (k := 0) (c := w[0]) (List.getElem?_eq_getElem hw) ?_
      have z2 : (⟨#[w[0]]⟩ : Str) = mkS [w[0]] := rfl
      push_cast [z2, plits, mkS_eq]
      have g0 : w[0]? = some w[0] := List.getElem?_eq_getElem hw
      by_cases c3 : w[0] = 48
      · have d3 : decide ([w[0]] = [48]) = true := decide_eq_true (by rw [c3])
        by_cases c4 : w = [48]
        · have d4 : decide (w = [48]) = true := decide_eq_true c4
          push_cast [d3, d4, if_true, Bool.not_true, Bool.false_eq_true, if_false]
          exact fin c1 c2 fun z => z.2 c4
        · have d4 : decide (w = [48]) = false := decide_eq_false c4
          push_cast [d3, d4, if_true, Bool.not_false]
          have : n12 w = none := if_neg fun z => z.2.2.1 ⟨by rw [g0, c3], c4⟩
          rw [this] at q
          exact q
      · have d3 : decide ([w[0]] = [48]) = false := decide_eq_false (by simpa using c3)
        push_cast [d3, Bool.false_eq_true, if_false]
        exact fin c1 c2 (by rw [g0]; simp [c3])
    · have d2 : decide ((w.length : Int) ≤ 12) = false := decide_eq_false (by omega)
      push_cast [d1, d2, Bool.not_false, if_true]
      have : n12 w = none := if_neg fun z => c2 z.2.1
      rw [this] at q
      exact q
  · have d1 : decide ((1 : Int) ≤ (w.length : Int)) = false := decide_eq_false (by omega)
    push_cast [d1, Bool.not_false, if_true]
    have : n12 w = none := if_neg fun z => c1 z.1
    rw [this] at q
    exact q
theorem allN_cons (w : W) (ws : List W) : allN (w :: ws) = match n12 w, allN ws with | some n, some ns => some (n :: ns) | _, _ => none := rfl
theorem tokOf_cons (k : W) (ws : List W) : tokOf (k :: ws) = match allN ws with | none => none | some ns => tokK k ns := rfl
theorem at0 (k : W) (ws : List W) : atI (wl (k :: ws)) 0 = some (.str (mkS k)) := (atI_nat (l := wl (k :: ws)) (k := 0) (Nat.zero_lt_succ _)).trans rfl
theorem none_any : ∀ ws : List W, (ws.map fun w => oN (n12 w)).any (fun y => eqF y .non) = (allN ws).isNone
  | [] => rfl
  | w :: ws => by
    have ih := none_any ws
    rw [List.map_cons, List.any_cons, ih]
    rw [allN_cons]
    cases n12 w with
    | none => rfl
    | some k => cases allN ws <;> rfl
theorem all_flat : ∀ ws : List W, (ws.map fun w => oN (n12 w)).all flatA = true
  | [] => rfl
  | w :: ws => by
    rw [List.map_cons, List.all_cons, all_flat ws]
    cases n12 w <;> rfl
theorem all_ints : ∀ {ws : List W} {ns : List Nat}, allN ws = some ns → (ws.map fun w => oN (n12 w)) = intsA ns ∧ ns.length = ws.length
  | [], ns, e => by cases e; exact ⟨rfl, rfl⟩
  | w :: ws, ns, e => by
    rw [allN_cons] at e
    cases e1 : n12 w with
    | none => rw [e1] at e; cases e
    | some k =>
      cases e2 : allN ws with
      | none => rw [e1, e2] at e; cases e
      | some ks =>
        rw [e1, e2] at e
        cases e
        obtain ⟨i1, i2⟩ := all_ints e2
        refine ⟨?_, by simp [i2]⟩
        rw [List.map_cons, i1, e1]; rfl
def COUNTS : List (Str × Int) := [("on", 0), ("over", 0), ("pair", 2), ("write", 1), ("either", 1), ("all", 2), ("match", 2), ("sorted", 3), ("below", 3)]
theorem counts_eq : COUNTS = kinds.map fun p => (mkS p.1, (p.2 : Int)) := by decide +kernel
theorem counts_look (k : W) : COUNTS.lookup (mkS k) = (kinds.lookup k).map fun n => (n : Int) := by
  rw [counts_eq]
  generalize kinds = l
  induction l with
  | nil => rfl
  | cons p l ih =>
    obtain ⟨a, b⟩ := p
    rw [List.map_cons, List.lookup_cons, List.lookup_cons]
    have : (mkS k == mkS a) = (k == a) := SX.S_beq k a
    rw [this]
    cases k == a
    · exact ih
    · rfl
theorem kinds_nd : ∀ p ∈ kinds, kinds.lookup p.1 = some p.2 := by decide +kernel
theorem kinds_mem {k : W} {c : Nat} : (k, c) ∈ kinds ↔ kinds.lookup k = some c := ⟨fun m => kinds_nd _ m, fun e => look_mem e⟩
theorem read_token_ok {l k : W} {ws : List W} (hs : TL.spl [32] 0 [] l = k :: ws) (hz : l.length ≤ 100000) (hw : ∀ w ∈ ws, w.length ≤ 100000) (hl : ws.length ≤ 100000) (q : Q (oTo (tokOf (k :: ws))) h) : callN P (n+2) 118 [.str (mkS l)] h Q := by
  refine call_of U.f_read_token rfl ?_
  show WpSs (ctxOf P (callN P (n+1))) b_read_token _ [.val (.str (mkS l)), .no, .no, .no] h
  have hz1 := sz1
  have sp : (Txt.split (mkS l) (mkS [32])).map AV.str = wl (k :: ws) := by
    rw [split_gen (by decide), hs, List.map_map]; rfl
  push_cast [b_read_token, plits, mkS_len, sp]
  refine ⟨rfl, by omega, ?_⟩
  have cu : cut (wl (k :: ws)) (some 1) none = wl ws := cut_sn (wl (k :: ws)) 1
  push_cast [view_lst, cu, viewT_lst, wl_len]
  refine ⟨by omega, ?_⟩
  have eL : (wl ws).length = ws.length := wl_len ws
  refine comp_inv (fun i acc h' => h' = h ∧ acc = (ws.take i).map fun w => oN (n12 w)) ⟨rfl, rfl⟩ (fun _ _ _ _ _ => by trivial) ?_ ?_
  · rintro i x acc _ R hx ⟨rfl, rfl⟩ k1 k2
    obtain ⟨w, hwi, rfl⟩ := items_map hx
    push_cast [if_true]
    refine read_number_ok (by have := hw w (List.mem_of_getElem? hwi); omega) ?_
    refine k1 _ _ ⟨rfl, ?_⟩
    rw [List.take_succ, hwi]; simp
  · rintro _ h ⟨rfl, rfl⟩
    rw [eL, List.take_length]
    push_cast [WpSs]
    refine k_inF (xs := ws.map fun w => oN (n12 w)) rfl viewT_lst (all_flat ws) (fun _ z => by cases z) ?_
    rw [none_any]
    simp only [Bool.false_eq_true, if_false]
    cases ea : allN ws with
    | none =>
      push_cast [Option.isNone_none, if_true]
      have : tokOf (k :: ws) = none := by rw [tokOf_cons, ea]
      rw [this] at q
      exact q
    | some ns =>
      obtain ⟨i1, i2⟩ := all_ints ea
      have et : tokOf (k :: ws) = tokK k ns := by rw [tokOf_cons, ea]
      rw [et] at q
      rw [i1]
      have il : (intsA ns).length = ns.length := List.length_map ..
      push_cast [Option.isNone_some, Bool.false_eq_true, if_false, b_read_token_3, plits]
      refine k_subL (h := h) (d := .str (mkS k)) viewT_lst (fun _ z => by cases z) (at0 k ws) ?_
      push_cast [mkS_eq]
      unfold tokK at q
      refine ite_b (fun c => ?_) (fun c => ?_)
      · rw [if_pos c] at q
        push_cast [k_lenL, il]
        refine ite_b (fun c2 => ?_) (fun c2 => ?_)
        · have c2 : 0 < ns.length := by omega
          rw [if_pos c2] at q
          have e : oTo (some (⟨wDead, ns⟩ : To)) = .tup [.str (mkS wDead), .tup (intsA ns)] := by
            show To.av _ = _
            unfold To.av
            rw [if_pos rfl]
          rw [e] at q
          push_cast [bltK, view_lst]
          exact ⟨le2, q⟩
        · rw [if_neg (by omega)] at q
          exact q
      · rw [if_neg c] at q
        have gd : P.gdct.lookup 8 = some COUNTS := U.g_COUNTS
        push_cast [b_read_token_2, gd]
        refine k_subL (h := h) (d := .str (mkS k)) viewT_lst (fun _ z => by cases z) (at0 k ws) ?_
        push_cast [k_gIn, counts_look, if_true]
        cases ek : kinds.lookup k with
        | none =>
          have nm : (k, ns.length) ∉ kinds := fun m => by rw [kinds_mem, ek] at m; cases m
          rw [if_neg nm] at q
          push_cast [Option.map_none, Option.isSome_none, Bool.not_false, if_true]
          exact q
        | some c3 =>
          push_cast [Option.map_some, Option.isSome_some, Bool.not_true, Bool.false_eq_true, if_false, k_lenL, il]
          refine k_subL (h := h) (d := .str (mkS k)) viewT_lst (fun _ z => by cases z) (at0 k ws) ?_
          refine k_gGet (i := (c3 : Int)) (by rw [counts_look, ek]; rfl) ?_
          push_cast [WpSs]
          by_cases c4 : ns.length = c3
          · have d : decide ((ns.length : Int) = (c3 : Int)) = true := decide_eq_true (by omega)
            have m : (k, ns.length) ∈ kinds := by rw [kinds_mem, ek, c4]
            rw [if_pos m] at q
            have e : oTo (some (⟨k, ns⟩ : To)) = .tup (.str (mkS k) :: intsA ns) := by
              show To.av _ = _
              unfold To.av
              rw [if_neg c]
            rw [e] at q
            push_cast [d, Bool.not_true, Bool.false_eq_true, if_false, b_read_token_1]
            refine k_subL (h := h) (d := .str (mkS k)) viewT_lst (fun _ z => by cases z) (at0 k ws) ?_
            push_cast [bltK, view_lst, List.length_cons, List.length_nil]
            refine ⟨by omega, by rw [il]; omega, q⟩
          · have d : decide ((ns.length : Int) = (c3 : Int)) = false := decide_eq_false (by omega)
            have m : (k, ns.length) ∉ kinds := fun m => by rw [kinds_mem, ek] at m; exact c4 (Option.some.inj m).symm
            rw [if_neg m] at q
            push_cast [d, Bool.not_false, if_true]
            exact q
end
end Pa

set_option maxRecDepth 100000
set_option maxHeartbeats 400000
namespace Pa
open PySem L2 VL Wd Tm Tw PaL
local macro_rules
  | `(tactic| push_cast [$xs,*]) => `(tactic| try simp only [$xs,*, WpSs, WpS, WpE, WpEs, WpBs, WpO, WpN, WpI, WpC, WpT, getS, setS, tgK, setsS, wipeS, k_add, k_addT, k_sub, k_mul, k_fdiv, k_mod, k_neg, k_lt, k_le, k_gt, k_ge, k_eqI, k_neI, k_eqS, k_neS, k_eqB, k_neB, k_is, k_isn, k_isB, k_isnB, k_gIn, ctx_gdct, isNon_non, isNon_int, isNon_str, isNon_lst, isNon_tup, isNon_adr, k_lenS, k_lenL, k_lenR, k_lenT, k_int, k_str, k_abs, tru_bl, augK, ctx_call, ctx_glob, k_in, k_nin, k_inS, k_addS, k_intB, isi_non_int, isi_non_bool, isi_non_str, isi_non_list, isi_non_tuple, isi_bl_int, isi_bl_bool, isi_bl_str, isi_bl_list, isi_bl_tuple, isi_int_int, isi_int_bool, isi_int_str, isi_int_list, isi_int_tuple, isi_str_int, isi_str_bool, isi_str_str, isi_str_list, isi_str_tuple, isi_tup_int, isi_tup_bool, isi_tup_str, isi_tup_list, isi_tup_tuple, isi_lst_int, isi_lst_bool, isi_lst_str, isi_lst_list, isi_lst_tuple, isi_ro_int, isi_ro_bool, isi_ro_str, isi_ro_list, isi_ro_tuple])
section
variable {P : Prg} [U P] {n : Nat} {h : AHeap} {Q : AV → AHeap → Prop}
/-- a paper's cell -/
def pc (t m : W) (ts : List To) : Cell := .obj 0 [("text", .str (mkS t)), ("name", .str (mkS m)), ("tokens", .tup (ts.map To.av))]
theorem putFA_le (f : Str) (d : AV) : ∀ fs, (putFA f d fs).length ≤ fs.length + 1
  | [] => Nat.le_refl _
  | (g, u) :: r => by
    have := putFA_le f d r
    unfold putFA
    split
    · simp
    · simp only [List.length_cons]; omega
theorem init_ok {t m : W} {ts : List To} (q : Q .non (h ++ [pc t m ts])) : callN P (n+1) 113 [.adr h.length, .str (mkS t), .str (mkS m), .tup (ts.map To.av)] (h ++ [.obj 0 []]) Q := by
  refine call_of U.f_Paper___init__ rfl ?_
  show WpSs (ctxOf P (callN P n)) b_Paper___init__ _ [.val (.adr h.length), .val (.str (mkS t)), .val (.str (mkS m)), .val (.tup (ts.map To.av))] _
  push_cast [b_Paper___init__, Hd.cells_last, Hd.set_last]
  refine ⟨U.d_0_text, by decide, ?_⟩
  push_cast [Hd.cells_last, Hd.set_last]
  have p1 := putFA_le "text" (.str (mkS t)) []
  have p2 := putFA_le "name" (.str (mkS m)) (putFA "text" (.str (mkS t)) [])
  simp only [List.length_nil] at p1
  refine ⟨U.d_0_name, by omega, ?_⟩
  push_cast [Hd.cells_last, Hd.set_last]
  refine ⟨U.d_0_tokens, by omega, ?_⟩
  push_cast [Hd.cells_last, Hd.set_last]
  exact q
theorem lk1 (a b c : AV) : List.lookup ("text" : Str) [("text", a), ("name", b), ("tokens", c)] = some a := rfl
theorem lk2 (a b c : AV) : List.lookup ("name" : Str) [("text", a), ("name", b), ("tokens", c)] = some b := rfl
theorem lk3 (a b c : AV) : List.lookup ("tokens" : Str) [("text", a), ("name", b), ("tokens", c)] = some c := rfl
theorem dg_log {m : Nat} (h : m < 1000000000000) : ((m : Int)).natAbs.log2 < 1920 := by
  have l64 : (m : Int).natAbs < 2 ^ 64 := by
    have : (2 ^ 64 : Nat) = 18446744073709551616 := by decide
    omega
  have := PySem.Flt.log2_lt_of (by decide : 0 < 64) l64
  omega
theorem le3 : 3 ≤ sizeLine := by decide
theorem dg_l {m : Nat} (h : m < 1000000000000) : (dg (m : Int)).length ≤ 12 := (dg_len12 h).2
end
end Pa

set_option maxRecDepth 100000
set_option maxHeartbeats 400000
namespace Pa
open PySem L2 VL Wd Tm Tw PaL ShL
local macro_rules
  | `(tactic| push_cast [$xs,*]) => `(tactic| try simp only [$xs,*, WpSs, WpS, WpE, WpEs, WpBs, WpO, WpN, WpI, WpC, WpT, getS, setS, tgK, setsS, wipeS, k_add, k_addT, k_sub, k_mul, k_fdiv, k_mod, k_neg, k_lt, k_le, k_gt, k_ge, k_eqI, k_neI, k_eqS, k_neS, k_eqB, k_neB, k_is, k_isn, k_isB, k_isnB, k_gIn, ctx_gdct, isNon_non, isNon_int, isNon_str, isNon_lst, isNon_tup, isNon_adr, k_lenS, k_lenL, k_lenR, k_lenT, k_int, k_str, k_abs, tru_bl, augK, ctx_call, ctx_glob, k_in, k_nin, k_inS, k_addS, k_intB, isi_non_int, isi_non_bool, isi_non_str, isi_non_list, isi_non_tuple, isi_bl_int, isi_bl_bool, isi_bl_str, isi_bl_list, isi_bl_tuple, isi_int_int, isi_int_bool, isi_int_str, isi_int_list, isi_int_tuple, isi_str_int, isi_str_bool, isi_str_str, isi_str_list, isi_str_tuple, isi_tup_int, isi_tup_bool, isi_tup_str, isi_tup_list, isi_tup_tuple, isi_lst_int, isi_lst_bool, isi_lst_str, isi_lst_list, isi_lst_tuple, isi_ro_int, isi_ro_bool, isi_ro_str, isi_ro_list, isi_ro_tuple])
/-! ### one paper and another -/
def pdI (ns : List Nat) : List PyData := ns.map fun (n : Nat) => .int (n : Int)
def pdTo (t : To) : PyData := if t.k = wDead then .tuple [.str (mkS t.k), .tuple (pdI t.ns)] else .tuple (.str (mkS t.k) :: pdI t.ns)
theorem pdHs_ints (h : AHeap) : ∀ ns : List Nat, pdHs h (intsA ns) = some (pdI ns)
  | [] => rfl
  | n :: ns => by
    show ((pdH h (.int (n : Int))).bind fun d => (pdHs h (intsA ns)).map (d :: ·)) = _
    rw [pdHs_ints h ns]; rfl
theorem pdH_to (h : AHeap) (t : To) : pdH h t.av = some (pdTo t) := by
  unfold To.av pdTo
  by_cases c : t.k = wDead
  · rw [if_pos c, if_pos c]
    show ((pdHs h [.str (mkS t.k), .tup (intsA t.ns)])).map PyData.tuple = _
    have : pdHs h [.str (mkS t.k), .tup (intsA t.ns)] = some [.str (mkS t.k), .tuple (pdI t.ns)] := by
      simp only [pdHs, pdH, pdHs_ints]; rfl
    rw [this]; rfl
  · rw [if_neg c, if_neg c]
    show ((pdHs h (.str (mkS t.k) :: intsA t.ns))).map PyData.tuple = _
    have : pdHs h (.str (mkS t.k) :: intsA t.ns) = some (.str (mkS t.k) :: pdI t.ns) := by
      simp only [pdHs, pdH, pdHs_ints]; rfl
    rw [this]; rfl
theorem pdHs_tos (h : AHeap) : ∀ ts : List To, pdHs h (ts.map To.av) = some (ts.map pdTo)
  | [] => rfl
  | t :: ts => by
    show ((pdH h t.av).bind fun d => (pdHs h (ts.map To.av)).map (d :: ·)) = _
    rw [pdHs_tos h ts, pdH_to]; rfl
def pdP (t m : W) (ts : List To) : PyData := .tuple [.str (mkS t), .str (mkS m), .tuple (ts.map pdTo)]
theorem pdH_p (h : AHeap) (t m : W) (ts : List To) : pdH h (.tup [.str (mkS t), .str (mkS m), .tup (ts.map To.av)]) = some (pdP t m ts) := by
  simp only [pdH, pdHs, pdHs_tos]; rfl
/-! shapes -/
def Ch (w : W) : Prop := ∀ c ∈ w, c < 128
/-- a token that may be shown -/
structure To.Sm (t : To) : Prop where
  k : Ch t.k
  kl : t.k.length ≤ 10
  lt : ∀ n ∈ t.ns, n ≤ 1000000000000
  few : t.ns.length ≤ 10
theorem sh_to {t : To} (b : To.Sm t) : Sh (pdTo t) 680 3 := by
  have i : ShA (pdI t.ns) (t.ns.length * 65) 1 := ShA.mapM fun n m => Sh.int (by omega) (by have := b.lt n m; omega)
  have few := b.few
  have kl := b.kl
  unfold pdTo
  by_cases c : t.k = wDead
  · rw [if_pos c]
    exact ((ShA.cons (d := 2) (Sh.str b.k) (.cons (w := 650) (i.tup.mono (by omega) (by decide)) .nil)).tup).mono (by omega) (by decide)
  · rw [if_neg c]
    exact ((ShA.cons (d := 1) (Sh.str b.k) i).tup).mono (by omega) (by decide)
structure Sm (t m : W) (ts : List To) : Prop where
  tc : Ch t
  tl : t.length ≤ 10000
  mc : Ch m
  ml : m.length ≤ 100
  sc : ∀ x ∈ ts, To.Sm x
  tsl : ts.length ≤ 110
theorem sh_p {t m : W} {ts : List To} (b : Sm t m ts) : Sh (pdP t m ts) 90000 50 := by
  have i : ShA (ts.map pdTo) (ts.length * 681) 3 := ShA.mapM fun x mm => sh_to (b.sc x mm)
  have := b.tl; have := b.ml; have := b.tsl
  unfold pdP
  exact ((ShA.cons (d := 4) (Sh.str b.tc) (.cons (Sh.str b.mc) (.cons (w := 76000) (i.tup.mono (by omega) (by decide)) .nil))).tup).mono (by omega) (by decide)
/-! equality -/
theorem eqvS (a b : W) : PyData.eqv (.str (mkS a)) (.str (mkS b)) = decide (a = b) := by
  simp only [PyData.eqv]
  rw [show (mkS a == mkS b) = (a == b) from SX.S_beq a b]
  by_cases c : a = b
  · subst c; simp
  · simp [c]
theorem eqvI : ∀ a b : List Nat, PyData.eqvAll (pdI a) (pdI b) = decide (a = b)
  | [], [] => rfl
  | [], _ :: _ => by simp only [pdI, List.map_nil, List.map_cons, PyData.eqvAll]; rfl
  | _ :: _, [] => by simp only [pdI, List.map_nil, List.map_cons, PyData.eqvAll]; rfl
  | x :: a, y :: b => by
    have ih := eqvI a b
    simp only [pdI, List.map_cons, PyData.eqvAll, PyData.eqv] at ih ⊢
    rw [ih]
    by_cases c : x = y
    · subst c; simp
    · have : ¬ (x : Int) = (y : Int) := by omega
      simp [c, this]
theorem eqvT (a b : To) : PyData.eqv (pdTo a) (pdTo b) = decide (a = b) := by
  obtain ⟨k, ns⟩ := a
  obtain ⟨l, ms⟩ := b
  by_cases c : k = l
  · subst c
    unfold pdTo
    by_cases d : k = wDead
    · simp only [if_pos d, PyData.eqv, PyData.eqvAll, eqvI]
      simp [To.mk.injEq]
    · simp only [if_neg d, PyData.eqv, PyData.eqvAll, eqvI]
      simp [To.mk.injEq]
  · have e : decide ((⟨k, ns⟩ : To) = ⟨l, ms⟩) = false := decide_eq_false fun z => c (To.mk.inj z).1
    have s : PyData.eqv (.str (mkS k)) (.str (mkS l)) = false := by rw [eqvS]; exact decide_eq_false c
    rw [e]
    unfold pdTo
    split <;> split <;> simp only [PyData.eqv, PyData.eqvAll] at s ⊢ <;> simp [s]
theorem eqvTs : ∀ a b : List To, PyData.eqvAll (a.map pdTo) (b.map pdTo) = decide (a = b)
  | [], [] => rfl
  | [], _ :: _ => by simp only [List.map_nil, List.map_cons, PyData.eqvAll]; rfl
  | _ :: _, [] => by simp only [List.map_nil, List.map_cons, PyData.eqvAll]; rfl
  | x :: a, y :: b => by
    have ih := eqvTs a b
    simp only [List.map_cons, PyData.eqvAll, ih, eqvT]
    by_cases c : x = y
    · subst c; simp
    · simp [c]
theorem eqvP (t m t' m' : W) (ts ts' : List To) : PyData.eqv (pdP t m ts) (pdP t' m' ts') = decide (t = t' ∧ m = m' ∧ ts = ts') := by
  have e1 := eqvS t t'; have e2 := eqvS m m'; have e3 := eqvTs ts ts'
  simp only [PyData.eqv] at e1 e2
  simp only [pdP, PyData.eqv, PyData.eqvAll, e1, e2, e3]
  by_cases c1 : t = t' <;> by_cases c2 : m = m' <;> by_cases c3 : ts = ts' <;> simp [c1, c2, c3]
end Pa

set_option maxRecDepth 100000
set_option maxHeartbeats 400000
namespace Pa
open PySem L2 VL Wd Tm Tw PaL ShL
local macro_rules
  | `(tactic| push_cast [$xs,*]) => `(tactic| try simp only [$xs,*, WpSs, WpS, WpE, WpEs, WpBs, WpO, WpN, WpI, WpC, WpT, getS, setS, tgK, setsS, wipeS, k_add, k_addT, k_sub, k_mul, k_fdiv, k_mod, k_neg, k_lt, k_le, k_gt, k_ge, k_eqI, k_neI, k_eqS, k_neS, k_eqB, k_neB, k_is, k_isn, k_isB, k_isnB, k_gIn, ctx_gdct, isNon_non, isNon_int, isNon_str, isNon_lst, isNon_tup, isNon_adr, k_lenS, k_lenL, k_lenR, k_lenT, k_int, k_str, k_abs, tru_bl, augK, ctx_call, ctx_glob, k_in, k_nin, k_inS, k_addS, k_intB, isi_non_int, isi_non_bool, isi_non_str, isi_non_list, isi_non_tuple, isi_bl_int, isi_bl_bool, isi_bl_str, isi_bl_list, isi_bl_tuple, isi_int_int, isi_int_bool, isi_int_str, isi_int_list, isi_int_tuple, isi_str_int, isi_str_bool, isi_str_str, isi_str_list, isi_str_tuple, isi_tup_int, isi_tup_bool, isi_tup_str, isi_tup_list, isi_tup_tuple, isi_lst_int, isi_lst_bool, isi_lst_str, isi_lst_list, isi_lst_tuple, isi_ro_int, isi_ro_bool, isi_ro_str, isi_ro_list, isi_ro_tuple])
section
variable {P : Prg} [U P] {n : Nat} {h : AHeap} {Q : AV → AHeap → Prop}
/-! ### reading a paper of the right form -/
theorem read_count_ok {m : Nat} (m1 : 0 < m) (m2 : m < 1000000000000) (q : Q (.int (m : Int)) h) : callN P (n+2) 119 [.str (mkS (wText ++ dg (m : Int)))] h Q := by
  refine call_of U.f_read_count rfl ?_
  show WpSs (ctxOf P (callN P (n+1))) b_read_count _ [.val (.str (mkS (wText ++ dg (m : Int)))), .no] h
  have hz1 := sz1
  have wt : wText.length = 5 := rfl
  have d12 := dg_l m2
  have c1 : cut (wText ++ dg (m : Int)) none (some 5) = wText := (cut_ns _ 5).trans (List.take_left (l₁ := wText))
  have c2 : cut (wText ++ dg (m : Int)) (some 5) none = dg (m : Int) := (cut_sn _ 5).trans (List.drop_left (l₁ := wText))
  push_cast [b_read_count, plits, k_sliceS, cutS_mk, c1, mkS_len, mkS_eq, List.length_append]
  refine ⟨by omega, ?_⟩
  push_cast [decide_true, Bool.not_true, Bool.false_eq_true, if_false, b_read_count_2, k_sliceS, cutS_mk, c2, mkS_len, List.length_append]
  refine ⟨by omega, ?_⟩
  refine read_number_ok (by omega) ?_
  rw [dg_n12 m2]
  have e : oN (some m) = .int (m : Int) := rfl
  have z : decide ((m : Int) = 0) = false := decide_eq_false (by omega)
  push_cast [e, z, Bool.false_eq_true, if_false, b_read_count_1]
  exact q
theorem wl_at {ws : List W} {i : Nat} {w : W} (h : ws[i]? = some w) : atI (wl ws) (i : Int) = some (.str (mkS w)) := by
  have hl := (List.getElem?_eq_some_iff.mp h).1
  rw [atI_nat (by rw [wl_len]; exact hl)]
  unfold wl
  rw [List.getElem?_map, h]; rfl
theorem dgs_len {t : To} (b : t.Ok) : ∀ w ∈ dgs t.ns, w.length ≤ 100000 := fun w m => by
  obtain ⟨x, hx, rfl⟩ := List.mem_map.mp m
  have := dg_l (b.lt x hx); omega
theorem rows_0 (p : Pp) : p.rows[0]? = some (wText ++ dg (p.ls.length : Int)) := rfl
theorem rows_l (p : Pp) {i : Nat} (hi : i < p.ls.length) : p.rows[i + 1]? = p.ls[i]? := by
  unfold Pp.rows
  rw [List.getElem?_cons_succ, List.getElem?_append_left hi]
theorem rows_n (p : Pp) : p.rows[p.ls.length + 1]? = some (wProc ++ p.nm) := by
  unfold Pp.rows
  rw [List.getElem?_cons_succ, List.getElem?_append_right (Nat.le_refl _), Nat.sub_self]; rfl
theorem rows_t (p : Pp) (i : Nat) : p.rows[p.ls.length + 2 + i]? = (p.ts[i]?).map To.row := by
  unfold Pp.rows
  rw [show p.ls.length + 2 + i = (p.ls.length + 1 + i) + 1 by omega, List.getElem?_cons_succ, List.getElem?_append_right (by omega), show p.ls.length + 1 + i - p.ls.length = i + 1 by omega, List.getElem?_cons_succ, List.getElem?_map]
theorem rows_cut (p : Pp) : (p.rows.drop 1).take (p.ls.length + 1 - 1) = p.ls := by
  unfold Pp.rows
  rw [List.drop_succ_cons, List.drop_zero, Nat.add_sub_cancel, List.take_left']
  rfl
theorem read_paper_ok {p : Pp} (b : p.Ok) (q : Q (.adr h.length) (h ++ [pc p.tx p.nm p.ts])) : callN P (n+3) 120 [.str (mkS (TL.joinL [10] p.rows))] h Q := by
  refine call_of U.f_read_paper rfl ?_
  show WpSs (ctxOf P (callN P (n+2))) b_read_paper _ [.val (.str (mkS (TL.joinL [10] p.rows))), .no, .no, .no, .no, .no] h
  have hz1 := sz1
  have l1 := b.l1
  have t1 := b.t1
  have rl := rows_len b
  have l0 : 0 < p.ls.length := List.length_pos_iff.mpr b.l0
  have t0 : 0 < p.ts.length := List.length_pos_iff.mpr b.t0
  have nm := b.nm.2
  have wp : wProc.length = 5 := rfl
  have jl := join_len [10] 200 p.rows (row_lens b)
  simp only [List.length_cons, List.length_nil] at jl
  have jl2 : (TL.joinL [10] p.rows).length ≤ 100000 := by
    have : p.rows.length * (200 + (0 + 1)) ≤ 202 * 201 := Nat.mul_le_mul (by omega) (Nat.le_refl _)
    omega
  have sp : (Txt.split (mkS (TL.joinL [10] p.rows)) (mkS [10])).map AV.str = wl p.rows := by
    rw [split_w (by decide) (by unfold Pp.rows; simp) (rows_no b), List.map_map]; rfl
  push_cast [b_read_paper, plits, mkS_len, sp]
  refine ⟨rfl, by omega, ?_⟩
  refine k_subL viewT_lst (fun _ z => by cases z) (wl_at (i := 0) (rows_0 p)) ?_
  refine read_count_ok l0 (by omega) ?_
  have e2 : (p.ls.length : Int) + 2 = ((p.ls.length + 2 : Nat) : Int) := by omega
  have e1 : (p.ls.length : Int) + 1 = ((p.ls.length + 1 : Nat) : Int) := by omega
  have d1 : decide (((p.rows.length : Nat) : Int) < ((p.ls.length + 2 : Nat) : Int)) = false := decide_eq_false (by omega)
  push_cast [b_read_paper_7, k_lenL, wl_len, e2, d1, Bool.false_eq_true, if_false, b_read_paper_6, e1]
  refine k_subL viewT_lst (fun _ z => by cases z) (wl_at (rows_n p)) ?_
  have c1 : cut (wProc ++ p.nm) none (some 5) = wProc := (cut_ns _ 5).trans (List.take_left (l₁ := wProc))
  have c2 : cut (wProc ++ p.nm) (some 5) none = p.nm := (cut_sn _ 5).trans (List.drop_left (l₁ := wProc))
  push_cast [plits, k_sliceS, cutS_mk, c1, mkS_len, mkS_eq, List.length_append]
  refine ⟨by omega, ?_⟩
  push_cast [decide_true, Bool.not_true, Bool.false_eq_true, if_false, b_read_paper_5, k_lenL, wl_len, e2]
  refine ⟨Nat.zero_le _, by omega, ?_⟩
  have en : (((p.rows.length : Nat) : Int) - ((p.ls.length + 2 : Nat) : Int)).toNat = p.ts.length := by omega
  rw [en]
  refine for_inv (fun i ρ h' => h' = h ∧ ∃ s4 s5 : Slot, ρ = [.val (.str (mkS (TL.joinL [10] p.rows))), .val (.lst (wl p.rows)), .val (.int (p.ls.length : Int)), .own (.lst ((p.ts.take i).map To.av)), s4, s5]) ⟨rfl, _, _, rfl⟩ (fun _ _ _ _ _ => by trivial) ?_ ?_
  · rintro i x _ h D' hx ⟨rfl, s4, s5, rfl⟩ kn kc kr kb
    obtain ⟨hi, rfl⟩ := items_range hx
    have ht : p.ts[i]? = some p.ts[i] := List.getElem?_eq_getElem hi
    have bt := b.ok _ (List.getElem_mem hi)
    have e4 : ((p.ls.length + 2 : Nat) : Int) + (i : Int) = ((p.ls.length + 2 + i : Nat) : Int) := by omega
    push_cast [b_read_paper_2, e4]
    refine k_subL viewT_lst (fun _ z => by cases z) (wl_at (w := p.ts[i].row) (by rw [rows_t, ht]; rfl)) ?_
    refine read_token_ok (row_split bt) (by have := row_len bt; omega) (dgs_len bt) (by have := bt.few; simp [dgs]; omega) ?_
    rw [tok_back bt]
    have nn : isNon (oTo (some p.ts[i])) = false := by
      show isNon (p.ts[i]).av = false
      unfold To.av
      split <;> rfl
    have eo : oTo (some p.ts[i]) = (p.ts[i]).av := rfl
    push_cast [nn, Bool.false_eq_true, if_false, b_read_paper_1]
    refine ⟨by simp; omega, ?_⟩
    have et : (p.ts.take i).map To.av ++ [oTo (some p.ts[i])] = (p.ts.take (i + 1)).map To.av := by rw [List.take_succ, ht, eo, List.map_append]; rfl
    rw [et]
    exact kn _ _ ⟨rfl, _, _, rfl⟩
  · rintro _ h ⟨rfl, s4, s5, rfl⟩
    rw [List.length_map, List.length_range, List.take_length]
    have d2 : decide (((p.ts.length : Nat) : Int) = 0) = false := decide_eq_false (by omega)
    push_cast [b_read_paper_4, k_lenL, List.length_map, d2, Bool.false_eq_true, if_false, b_read_paper_3, e1, view_lst]
    have cu : cut (wl p.rows) (some 1) (some ((p.ls.length + 1 : Nat) : Int)) = wl p.ls := by
      have := cut_ss (wl p.rows) 1 (p.ls.length + 1)
      have e : ((1 : Nat) : Int) = 1 := rfl
      rw [e] at this
      rw [this]
      unfold wl
      rw [← List.map_drop, ← List.map_take, rows_cut]
    have tl : (TL.joinL [10] p.ls).length ≤ 10000 := by
      have := join_len [10] 20 p.ls fun l m => (b.ll l m).2
      simp at this
      omega
    rw [cu, plits.2.2.1]
    refine k_joinB (b := 20) (c := 100) viewT_lst (fun l m => (b.ll l m).2) (by omega) (by decide) ?_
    refine k_subL viewT_lst (fun _ z => by cases z) (wl_at (rows_n p)) ?_
    push_cast [k_sliceS, cutS_mk, c2, mkS_len, List.length_append]
    refine ⟨by omega, ?_⟩
    push_cast [bltK, view_lst]
    have ci : (ctxOf P (callN P (n+2))).init 0 = some 113 := U.i_0
    push_cast [ci]
    exact init_ok q
end
end Pa

set_option maxRecDepth 100000
set_option maxHeartbeats 400000
/-! Papers: the first wrong row. -/
namespace PaL
open PySem L2 VL Wd Tm Tw
def cntOf (w : W) : Option Nat := if w.take 5 = wText then (match n12 (w.drop 5) with
  | some 0 => none
  | o => o) else none
def tokRow (w : W) : Option To := tokOf (TL.spl [32] 0 [] w)
inductive Bad (rows : List W) : Nat → Prop where
  | cnt : cntOf (rows[0]?.getD []) = none → Bad rows 1
  | few (c : Nat) : cntOf (rows[0]?.getD []) = some c → rows.length < c + 2 → Bad rows (rows.length + 1)
  | nam (c : Nat) : cntOf (rows[0]?.getD []) = some c → c + 2 ≤ rows.length → (rows[c + 1]?.getD []).take 5 ≠ wProc → Bad rows (c + 2)
  | tok (c j : Nat) : cntOf (rows[0]?.getD []) = some c → (rows[c + 1]?.getD []).take 5 = wProc → c + 2 + j < rows.length → (∀ i, i < j → ∃ t, tokRow (rows[c + 2 + i]?.getD []) = some t) → tokRow (rows[c + 2 + j]?.getD []) = none → Bad rows (c + 2 + j + 1)
  | non (c : Nat) : cntOf (rows[0]?.getD []) = some c → (rows[c + 1]?.getD []).take 5 = wProc → rows.length = c + 2 → Bad rows (rows.length + 1)
theorem Bad.pos {rows : List W} {r : Nat} (b : Bad rows r) : 1 ≤ r := by
  cases b <;> omega
/-- the rows behind the first wrong one say nothing -/
theorem Bad.same {rows rows' : List W} {r : Nat} (b : Bad rows r) (hr : r ≤ rows.length) (e : ∀ i, i < r → rows'[i]? = rows[i]?) : Bad rows' r := by
  have hr' : r ≤ rows'.length := by
    have h1 := b.pos
    have h2 := e (r - 1) (by omega)
    rw [List.getElem?_eq_getElem (show r - 1 < rows.length by omega)] at h2
    have := (List.getElem?_eq_some_iff.mp h2).1
    omega
  cases b with
  | cnt h => exact .cnt (by rw [e 0 (by omega)]; exact h)
  | few c h1 h2 => omega
  | nam c h1 h2 h3 => exact .nam c (by rw [e 0 (by omega)]; exact h1) hr' (by rw [e _ (by omega)]; exact h3)
  | tok c j h1 h2 h3 h4 h5 => exact .tok c j (by rw [e 0 (by omega)]; exact h1) (by rw [e _ (by omega)]; exact h2) (by omega) (fun i hi => by rw [e _ (by omega)]; exact h4 i hi) (by rw [e _ (by omega)]; exact h5)
  | non c h1 h2 h3 => omega
theorem allN_none : ∀ {ws : List W} {w : W}, w ∈ ws → n12 w = none → allN ws = none
  | [], _, h, _ => by cases h
  | x :: r, w, h, e => by
    unfold allN
    rcases List.mem_cons.mp h with rfl | h
    · rw [e]
    · rw [allN_none h e]
      cases n12 x <;> rfl
theorem n12_fig {w : W} {c : Nat} (h : c ∈ w) (hc : c ∉ figures) : n12 w = none := if_neg fun z => hc (z.2.2.2 c h)
theorem n12_len {w : W} (h : w.length = 0 ∨ 12 < w.length) : n12 w = none := if_neg fun z => by omega
theorem n12_zero {w : W} (h : w ≠ []) : n12 (48 :: w) = none := if_neg fun z => z.2.2.1 ⟨rfl, fun e => h (List.cons.inj e).2⟩
theorem tok_none {k : W} {ws : List W} {w : W} (hk : 32 ∉ k) (hs : ∀ x ∈ ws, 32 ∉ x) (h : w ∈ ws) (e : n12 w = none) : tokRow (TL.joinL [32] (k :: ws)) = none := by
  unfold tokRow
  rw [TL.spl_join (by simp) (fun p hp => (List.mem_cons.mp hp).elim (fun z => z ▸ hk) (hs p))]
  show (match allN ws with | none => none | some ns => tokK k ns) = none
  rw [allN_none h e]
/-! the drawn wrong ones -/
def wFirsts (d : W) : List W := (["", "text", "text ", "text 0"] : List Str).map cL ++ [cL "text 0" ++ d, cL "text -" ++ d, cL "text +" ++ d, cL "text x", cL "texts " ++ d] ++ [cL "text " ++ d ++ cL " ", cL " text " ++ d, cL "text  " ++ d, cL "text " ++ d ++ cL " 1", cL "Text " ++ d, d] ++
  [cL "text 1000000000000", cL "text " ++ d ++ cL ".0", cL "text 1_0", cL "text\t" ++ d]
theorem wFirsts_ok : ∀ m : Fin 101, ∀ w ∈ wFirsts (dg ((m.val : Nat) : Int)), cntOf w = none ∧ 10 ∉ w ∧ w.length ≤ 40 := by decide +kernel
def wNames : List W := (["", "proc", "procs x", "Proc x", " proc x", "pro x", "text 1", "proc\tx"] : List Str).map cL
theorem wNames_ok : ∀ w ∈ wNames, w.take 5 ≠ wProc ∧ 10 ∉ w ∧ w.length ≤ 40 := by decide +kernel
def wT1 : List W := (["", "onn", "on ", " on", "on 1", "over 0", "ON", "over ", "dead", "dead ", "dead x", "dead -1", "dead 01"] : List Str).map cL
def wT2 : List W := (["dead 1  2", "dead 1 2 ", "dead 1000000000000", "dead 1 01", "dead 1,2", "dead +1", "dead 1_0"] : List Str).map cL
def wT3 : List W := (["pair", "pair 1", "pair 1 2 3", "pair 1 x", "pair -1 2", "pair 01 2", "pair 1 1000000000000"] : List Str).map cL
def wT4 : List W := (["met 0", "write"] : List Str).map cL
def wT5 : List W := (["write 1 2", "write x", "either", "either 0 0", "all 1", "all 1 2 3", "all 1 -2", "match 1"] : List Str).map cL
def wT6 : List W := (["match 1 2 3", "match 0 00", "sorted 1 2", "sorted 1 2 3 4", "sorted 1 2 x", "below 1 2"] : List Str).map cL
def wT7 : List W := (["dead 1 -2", "pair  1 2", "pair 1 2 "] : List Str).map cL
def wT8 : List W := (["below 1 2 3 4", "below 1 2 03", "text 1", "proc x", "pairs 1 2", "dead\t1", "on\t"] : List Str).map cL
def wToks : List W := wT1 ++ wT2 ++ wT3 ++ wT4 ++ wT5 ++ wT6 ++ wT7 ++ wT8
theorem wToks_ok : ∀ w ∈ wToks, tokRow w = none ∧ 10 ∉ w ∧ w.length ≤ 40 := by decide +kernel
/-! pieces -/
theorem spl_ne (S : List Nat) : ∀ (l : W) (k : Nat) (cur : W), ∃ x r, TL.spl S k cur l = x :: r
  | [], k, cur => ⟨_, _, rfl⟩
  | c :: r, 0, cur => by
    unfold TL.spl
    split
    · exact ⟨_, _, rfl⟩
    · exact spl_ne S r 0 _
  | c :: r, k + 1, cur => by
    unfold TL.spl
    exact spl_ne S r k cur
theorem spl_len (S : List Nat) : ∀ (l : W) (k : Nat) (cur : W), (∀ w ∈ TL.spl S k cur l, w.length ≤ l.length + cur.length) ∧ (TL.spl S k cur l).length ≤ l.length + 1
  | [], k, cur => by
    unfold TL.spl
    exact ⟨fun w m => by rw [List.mem_singleton.mp m]; simp, by simp⟩
  | c :: r, 0, cur => by
    unfold TL.spl
    split
    · have ih := spl_len S r (S.length - 1) []
      refine ⟨fun w m => ?_, by simp only [List.length_cons]; have := ih.2; omega⟩
      rcases List.mem_cons.mp m with rfl | m
      · simp
      · have := ih.1 w m
        simp at this ⊢; omega
    · have ih := spl_len S r 0 (cur ++ [c])
      refine ⟨fun w m => ?_, by simp only [List.length_cons]; have := ih.2; omega⟩
      have := ih.1 w m
      simp at this ⊢; omega
  | c :: r, k + 1, cur => by
    unfold TL.spl
    have ih := spl_len S r k cur
    refine ⟨fun w m => ?_, by simp only [List.length_cons]; have := ih.2; omega⟩
    have := ih.1 w m
    simp at this ⊢; omega
theorem row_words {l : W} : ∃ k ws, TL.spl [32] 0 [] l = k :: ws ∧ (∀ w ∈ ws, w.length ≤ l.length) ∧ ws.length ≤ l.length := by
  obtain ⟨k, ws, e⟩ := spl_ne [32] l 0 []
  have h := spl_len [32] l 0 []
  rw [e] at h
  exact ⟨k, ws, e, fun w m => by have := h.1 w (List.mem_cons_of_mem _ m); simpa using this, by have := h.2; simp at this; omega⟩
theorem val_lt : ∀ (w : W) (acc : Nat), (∀ c ∈ w, c ∈ figures) → w.foldl (fun a c => a * 10 + (c - 48)) acc < (acc + 1) * 10 ^ w.length
  | [], acc, _ => by simp
  | c :: r, acc, h => by
    have ih := val_lt r (acc * 10 + (c - 48)) fun d m => h d (List.mem_cons_of_mem _ m)
    have hc : c - 48 ≤ 9 := by
      have : ∀ c ∈ figures, c - 48 ≤ 9 := by decide +kernel
      exact this c (h c (by simp))
    rw [List.foldl_cons, List.length_cons, Nat.pow_succ]
    refine Nat.lt_of_lt_of_le ih ?_
    have : (acc * 10 + (c - 48) + 1) ≤ (acc + 1) * 10 := by omega
    calc (acc * 10 + (c - 48) + 1) * 10 ^ r.length ≤ ((acc + 1) * 10) * 10 ^ r.length := Nat.mul_le_mul_right _ this
      _ = (acc + 1) * (10 ^ r.length * 10) := by rw [Nat.mul_assoc, Nat.mul_comm 10]
theorem n12_lt {w : W} {m : Nat} (e : n12 w = some m) : m < 1000000000000 := by
  unfold n12 at e
  split at e
  · rename_i h
    cases e
    have := val_lt w 0 h.2.2.2
    have p : 10 ^ w.length ≤ 10 ^ 12 := Nat.pow_le_pow_right (by decide) h.2.1
    have e : NumText.digitsVal w = w.foldl (fun a c => a * 10 + (c - 48)) 0 := rfl
    rw [e]
    omega
  · cases e
theorem cnt_lt {w : W} {c : Nat} (e : cntOf w = some c) : c < 1000000000000 := by
  unfold cntOf at e
  split at e
  · split at e
    · cases e
    · exact n12_lt e
  · cases e
end PaL

set_option maxRecDepth 100000
set_option maxHeartbeats 400000
namespace Pa
open PySem L2 VL Wd Tm Tw PaL ShL
local macro_rules
  | `(tactic| push_cast [$xs,*]) => `(tactic| try simp only [$xs,*, WpSs, WpS, WpE, WpEs, WpBs, WpO, WpN, WpI, WpC, WpT, getS, setS, tgK, setsS, wipeS, k_add, k_addT, k_sub, k_mul, k_fdiv, k_mod, k_neg, k_lt, k_le, k_gt, k_ge, k_eqI, k_neI, k_eqS, k_neS, k_eqB, k_neB, k_is, k_isn, k_isB, k_isnB, k_gIn, ctx_gdct, isNon_non, isNon_int, isNon_str, isNon_lst, isNon_tup, isNon_adr, k_lenS, k_lenL, k_lenR, k_lenT, k_int, k_str, k_abs, tru_bl, augK, ctx_call, ctx_glob, k_in, k_nin, k_inS, k_addS, k_intB, isi_non_int, isi_non_bool, isi_non_str, isi_non_list, isi_non_tuple, isi_bl_int, isi_bl_bool, isi_bl_str, isi_bl_list, isi_bl_tuple, isi_int_int, isi_int_bool, isi_int_str, isi_int_list, isi_int_tuple, isi_str_int, isi_str_bool, isi_str_str, isi_str_list, isi_str_tuple, isi_tup_int, isi_tup_bool, isi_tup_str, isi_tup_list, isi_tup_tuple, isi_lst_int, isi_lst_bool, isi_lst_str, isi_lst_list, isi_lst_tuple, isi_ro_int, isi_ro_bool, isi_ro_str, isi_ro_list, isi_ro_tuple])
section
variable {P : Prg} [U P] {n : Nat} {h : AHeap} {Q : AV → AHeap → Prop} {E : Nat → Int → AHeap → Prop}
theorem k_eqN0 {o : Option Nat} {Q : KA} (q : Q (.bl (decide (o = some 0)))) : cmpK h .Eq (oN o) (.int 0) Q := by
  cases o with
  | none =>
    show eqGen h false .non (.int 0) Q
    have s1 : Sh .none 100 50 := ⟨by simp [PyData.leavesShort], by simp [PyData.weight], by simp [PyData.showable], by simp [PyData.hasDict], by simp [PyData.depth], by simp [PyData.canLay0]⟩
    refine k_eqP (d := .none) (e := .int 0) rfl rfl s1 ((Sh.int (d := 50) (by omega) (by omega))) ?_
    have : PyData.eqv .none (.int 0) = false := by simp [PyData.eqv]
    rw [this]
    exact q
  | some m =>
    show Q (.bl (decide ((m : Int) = 0)))
    have : decide ((m : Int) = 0) = decide (some m = some 0) := by
      by_cases c : m = 0
      · subst c; rfl
      · rw [decide_eq_false (by omega), decide_eq_false (by simpa using c)]
    rw [this]
    exact q
theorem read_count_gen {w : W} (hz : w.length ≤ 100000) (q : Q (oN (cntOf w)) h) : callN P (n+2) 119 [.str (mkS w)] h Q := by
  refine call_of U.f_read_count rfl ?_
  show WpSs (ctxOf P (callN P (n+1))) b_read_count _ [.val (.str (mkS w)), .no] h
  have hz1 := sz1
  have c1 : cut w none (some 5) = w.take 5 := cut_ns _ 5
  have c2 : cut w (some 5) none = w.drop 5 := cut_sn _ 5
  unfold cntOf at q
  push_cast [b_read_count, plits, k_sliceS, cutS_mk, c1, mkS_len, mkS_eq]
  refine ⟨by omega, ?_⟩
  by_cases c : w.take 5 = wText
  · rw [if_pos c] at q
    have d : decide (w.take 5 = wText) = true := decide_eq_true c
    push_cast [d, Bool.not_true, Bool.false_eq_true, if_false, b_read_count_2, k_sliceS, cutS_mk, c2, mkS_len]
    refine ⟨by omega, ?_⟩
    refine read_number_ok (by rw [List.length_drop]; omega) ?_
    push_cast [WpSs]
    refine k_eqN0 ?_
    by_cases z : n12 (w.drop 5) = some 0
    · have d2 : decide (n12 (w.drop 5) = some 0) = true := decide_eq_true z
      rw [z] at q
      push_cast [d2, if_true]
      exact q
    · have d2 : decide (n12 (w.drop 5) = some 0) = false := decide_eq_false z
      push_cast [d2, Bool.false_eq_true, if_false, b_read_count_1]
      cases e : n12 (w.drop 5) with
      | none => rw [e] at q; exact q
      | some m => cases m with
        | zero => exact absurd e z
        | succ m => rw [e] at q; exact q
  · rw [if_neg c] at q
    have d : decide (w.take 5 = wText) = false := decide_eq_false c
    push_cast [d, Bool.not_false, if_true]
    exact q
/-- a text whose first wrong row is r -/
theorem read_bad {rows : List W} {r : Nat} (b : Bad rows r) (h0 : rows ≠ []) (h10 : ∀ l ∈ rows, 10 ∉ l) (hl : ∀ l ∈ rows, l.length ≤ 1000) (hn : rows.length ≤ 400) (q : E 1 (r : Int) h) :
    bodyW P (callN P (n+2)) 120 [.str (mkS (TL.joinL [10] rows))] h Q E := by
  refine body_of U.f_read_paper rfl ?_
  show WpSs (ctxOf P (callN P (n+2))) b_read_paper _ [.val (.str (mkS (TL.joinL [10] rows))), .no, .no, .no, .no, .no] h
  have hz1 := sz1
  have jl := join_len [10] 1000 rows hl
  simp only [List.length_cons, List.length_nil] at jl
  have jl2 : (TL.joinL [10] rows).length ≤ 500000 := by
    have : rows.length * (1000 + (0 + 1)) ≤ 400 * 1001 := Nat.mul_le_mul hn (Nat.le_refl _)
    omega
  have sp : (Txt.split (mkS (TL.joinL [10] rows)) (mkS [10])).map AV.str = wl rows := by
    rw [split_w (by decide) h0 h10, List.map_map]; rfl
  have hp : 0 < rows.length := List.length_pos_iff.mpr h0
  have hat : ∀ i, i < rows.length → atI (wl rows) (i : Int) = some (.str (mkS (rows[i]?.getD []))) ∧ (rows[i]?.getD []).length ≤ 1000 := fun i hi => by
    have e : rows[i]? = some rows[i] := List.getElem?_eq_getElem hi
    refine ⟨wl_at (by rw [e]; rfl), ?_⟩
    rw [e]
    exact hl _ (List.getElem_mem hi)
  push_cast [b_read_paper, plits, mkS_len, sp]
  refine ⟨rfl, by omega, ?_⟩
  refine k_subL viewT_lst (fun _ z => by cases z) (hat 0 hp).1 ?_
  refine read_count_gen (by have := (hat 0 hp).2; omega) ?_
  cases ec : cntOf (rows[0]?.getD []) with
  | none =>
    have e : r = 1 := by
      cases b with
      | cnt _ => rfl
      | few c h1 _ => rw [ec] at h1; cases h1
      | nam c h1 _ _ => rw [ec] at h1; cases h1
      | tok c j h1 _ _ _ _ => rw [ec] at h1; cases h1
      | non c h1 _ _ => rw [ec] at h1; cases h1
    subst e
    have eo : oN none = .non := rfl
    push_cast [eo, if_true]
    exact q
  | some c =>
    have cl := cnt_lt ec
    have eo : oN (some c) = .int (c : Int) := rfl
    have e2 : (c : Int) + 2 = ((c + 2 : Nat) : Int) := by omega
    have e1 : (c : Int) + 1 = ((c + 1 : Nat) : Int) := by omega
    have el : ((rows.length : Nat) : Int) + 1 = ((rows.length + 1 : Nat) : Int) := by omega
    push_cast [eo, Bool.false_eq_true, if_false, b_read_paper_7, k_lenL, wl_len, e2]
    refine ite_b (fun c1 => ?_) (fun c1 => ?_)
    · have e : r = rows.length + 1 := by
        cases b with
        | cnt h1 => rw [ec] at h1; cases h1
        | few _ _ _ => rfl
        | nam c' h1 h2 _ => rw [ec] at h1; cases h1; omega
        | tok c' j h1 _ h3 _ _ => rw [ec] at h1; cases h1; omega
        | non c' h1 _ h3 => rfl
      subst e
      push_cast [k_lenL, wl_len, el]
      exact q
    · have c1 : c + 2 ≤ rows.length := by omega
      push_cast [b_read_paper_6, e1]
      refine k_subL viewT_lst (fun _ z => by cases z) (hat (c + 1) (by omega)).1 ?_
      have ln := (hat (c + 1) (by omega)).2
      have cu1 : ∀ w : W, cut w none (some 5) = w.take 5 := fun w => cut_ns w 5
      push_cast [plits, k_sliceS, cutS_mk, cu1, mkS_len, mkS_eq]
      refine ⟨by omega, ?_⟩
      by_cases cn : (rows[c + 1]?.getD []).take 5 = wProc
      · have d : decide ((rows[c + 1]?.getD []).take 5 = wProc) = true := decide_eq_true cn
        push_cast [d, Bool.not_true, Bool.false_eq_true, if_false, b_read_paper_5, k_lenL, wl_len, e2]
        refine ⟨Nat.zero_le _, by omega, ?_⟩
        have en : (((rows.length : Nat) : Int) - ((c + 2 : Nat) : Int)).toNat = rows.length - (c + 2) := by omega
        rw [en]
        refine for_invX (fun i ρ h' => h' = h ∧ (∀ k, k < i → ∃ t, tokRow (rows[c + 2 + k]?.getD []) = some t) ∧ ∃ (ts : List AV) (s4 s5 : Slot), ts.length = i ∧ ρ = [.val (.str (mkS (TL.joinL [10] rows))), .val (.lst (wl rows)), .val (.int (c : Int)), .own (.lst ts), s4, s5]) ⟨rfl, (fun k hk => absurd hk (Nat.not_lt_zero _)), [], _, _, rfl, rfl⟩ (fun _ _ _ _ _ => by trivial) ?_ ?_
        · rintro i x _ h D' hx ⟨rfl, hf, ts, s4, s5, hts, rfl⟩ kn kc kr kb kx
          obtain ⟨hi, rfl⟩ := items_range hx
          have e4 : ((c + 2 : Nat) : Int) + (i : Int) = ((c + 2 + i : Nat) : Int) := by omega
          have hr := hat (c + 2 + i) (by omega)
          obtain ⟨k, ws, ew, wz, wn⟩ := row_words (l := rows[c + 2 + i]?.getD [])
          push_cast [b_read_paper_2, e4]
          refine k_subL viewT_lst (fun _ z => by cases z) hr.1 ?_
          refine read_token_ok ew (by have := hr.2; omega) (fun w m => by have := wz w m; have := hr.2; omega) (by have := hr.2; omega) ?_
          have et : tokRow (rows[c + 2 + i]?.getD []) = tokOf (k :: ws) := by unfold tokRow; rw [ew]
          rw [← et]
          cases ek : tokRow (rows[c + 2 + i]?.getD []) with
          | none =>
            have e5 : ((c + 2 + i : Nat) : Int) + 1 = ((c + 2 + i + 1 : Nat) : Int) := by omega
            have e : r = c + 2 + i + 1 := by
              cases b with
              | cnt h1 => rw [ec] at h1; cases h1
              | few c' h1 h2 => rw [ec] at h1; cases h1; omega
              | nam c' h1 h2 h3 => rw [ec] at h1; cases h1; exact absurd cn h3
              | tok c' j h1 h2 h3 h4 h5 =>
                rw [ec] at h1; cases h1
                have : j = i := by
                  rcases Nat.lt_trichotomy j i with z | z | z
                  · obtain ⟨t, ht⟩ := hf j z
                    rw [h5] at ht; cases ht
                  · exact z
                  · obtain ⟨t, ht⟩ := h4 i z
                    rw [ek] at ht; cases ht
                omega
              | non c' h1 h2 h3 => rw [ec] at h1; cases h1; omega
            subst e
            have eo2 : oTo none = .non := rfl
            push_cast [eo2, if_true, e5]
            exact kx _ _ _ q
          | some t =>
            have nn : isNon (oTo (some t)) = false := by
              show isNon t.av = false
              unfold To.av
              split <;> rfl
            push_cast [nn, Bool.false_eq_true, if_false, b_read_paper_1]
            refine ⟨by omega, ?_⟩
            refine kn _ _ ⟨rfl, fun k hk => ?_, _, _, _, ?_, rfl⟩
            · by_cases e : k = i
              · subst e; exact ⟨t, ek⟩
              · exact hf k (by omega)
            · simp [hts]
        · rintro _ h ⟨rfl, hf, ts, s4, s5, hts, rfl⟩
          rw [List.length_map, List.length_range] at hts hf
          have e : r = rows.length + 1 ∧ rows.length = c + 2 := by
            cases b with
            | cnt h1 => rw [ec] at h1; cases h1
            | few c' h1 h2 => rw [ec] at h1; cases h1; omega
            | nam c' h1 h2 h3 => rw [ec] at h1; cases h1; exact absurd cn h3
            | tok c' j h1 h2 h3 h4 h5 =>
              rw [ec] at h1; cases h1
              obtain ⟨t, ht⟩ := hf j (by omega)
              rw [h5] at ht; cases ht
            | non c' h1 h2 h3 => rw [ec] at h1; cases h1; exact ⟨rfl, h3⟩
          obtain ⟨e, e'⟩ := e
          subst e
          have d2 : decide ((ts.length : Int) = 0) = true := decide_eq_true (by omega)
          push_cast [b_read_paper_4, k_lenL, d2, if_true, wl_len, el]
          exact q
      · have d : decide ((rows[c + 1]?.getD []).take 5 = wProc) = false := decide_eq_false cn
        have e : r = c + 2 := by
          cases b with
          | cnt h1 => rw [ec] at h1; cases h1
          | few c' h1 h2 => rw [ec] at h1; cases h1; omega
          | nam c' h1 h2 h3 => rw [ec] at h1; cases h1; rfl
          | tok c' j h1 h2 h3 h4 h5 => rw [ec] at h1; cases h1; exact absurd h2 cn
          | non c' h1 h2 h3 => rw [ec] at h1; cases h1; exact absurd h2 cn
        subst e
        push_cast [d, Bool.not_false, if_true, e2]
        exact q
end
end Pa

set_option maxRecDepth 100000
set_option maxHeartbeats 400000
namespace Gp
open PySem L2 VL Wd Tm Tw Hd PaL Pa ShL
local macro_rules
  | `(tactic| push_cast [$xs,*]) => `(tactic| try simp only [$xs,*, WpSs, WpS, WpE, WpEs, WpBs, WpO, WpN, WpI, WpC, WpT, getS, setS, tgK, setsS, wipeS, k_add, k_addT, k_sub, k_mul, k_fdiv, k_mod, k_neg, k_lt, k_le, k_gt, k_ge, k_eqI, k_neI, k_eqS, k_neS, k_eqB, k_neB, k_is, k_isn, k_isB, k_isnB, k_gIn, ctx_gdct, isNon_non, isNon_int, isNon_str, isNon_lst, isNon_tup, isNon_adr, k_lenS, k_lenL, k_lenR, k_lenT, k_int, k_str, k_abs, tru_bl, augK, ctx_call, ctx_glob, k_in, k_nin, k_inS, k_addS, k_intB, isi_non_int, isi_non_bool, isi_non_str, isi_non_list, isi_non_tuple, isi_bl_int, isi_bl_bool, isi_bl_str, isi_bl_list, isi_bl_tuple, isi_int_int, isi_int_bool, isi_int_str, isi_int_list, isi_int_tuple, isi_str_int, isi_str_bool, isi_str_str, isi_str_list, isi_str_tuple, isi_tup_int, isi_tup_bool, isi_tup_str, isi_tup_list, isi_tup_tuple, isi_lst_int, isi_lst_bool, isi_lst_str, isi_lst_list, isi_lst_tuple, isi_ro_int, isi_ro_bool, isi_ro_str, isi_ro_list, isi_ro_tuple])
theorem k_pickF {α : Type} (f : α → AV) {xs : List α} {r : Nat} {h : AHeap} {Q : KA} (hr : (r : Int) < (xs.length : Int)) (q : ∀ v ∈ xs, Q (f v)) : subK h (.lst (xs.map f)) (.int (r : Int)) Q :=
  have hr' : r < xs.length := by omega
  k_subL viewT_lst (fun _ h => by cases h) (d := f xs[r]) (by rw [atI_nat (by simpa using hr')]; simp [hr']) (q _ (List.getElem_mem hr'))
theorem k_pickI {xs : List Int} {r : Nat} {h : AHeap} {Q : KA} (hr : (r : Int) < (xs.length : Int)) (q : ∀ v ∈ xs, Q (.int v)) : subK h (.lst (xs.map AV.int)) (.int (r : Int)) Q := k_pickF AV.int hr q
theorem k_pickW {xs : List W} {r : Nat} {h : AHeap} {Q : KA} (hr : (r : Int) < (xs.length : Int)) (q : ∀ v ∈ xs, Q (.str (mkS v))) : subK h (.lst (wl xs)) (.int (r : Int)) Q := k_pickF (fun w => .str (mkS w)) hr q
/-- a drawn line -/
structure Ln (l : W) : Prop where
  n : 10 ∉ l
  c : Ch l
  l : l.length ≤ 20
def sgn : W := cL "abcdefghijklmnopqrstuvwxyz ABCXYZ 0123456789 <>=+-()[],:.;_#' "
def sgt : W := cL "\t~{&"
def trick : List W := (["", "on", "over", "text 1", "proc x", "dead 0", "pair 0 1", "proc ", " ", "all 0 0", "text 0", "dead"] : List Str).map cL
theorem trick_ln : ∀ w ∈ trick, Ln w := by
  have : ∀ w ∈ trick, 10 ∉ w ∧ (∀ c ∈ w, c < 128) ∧ w.length ≤ 20 := by decide +kernel
  exact fun w m => ⟨(this w m).1, (this w m).2.1, (this w m).2.2⟩
theorem sgn_ok : (∀ c ∈ sgn, c ≠ 10 ∧ c < 128) ∧ 0 < sgn.length ∧ sgn.length ≤ 100 ∧ (∀ c ∈ sgt, c ≠ 10 ∧ c < 128) ∧ sgt.length = 4 := by decide +kernel
theorem tens : (10 : Int) ^ ((6 : Int).toNat) = 1000000 ∧ (10 : Int) ^ ((9 : Int).toNat) = 1000000000 ∧ (10 : Int) ^ ((12 : Int).toNat) = 1000000000000 := by decide
section
variable {P : Prg} [Hd.U P] [Pa.U P] [U P] {n a : Nat} {h : AHeap} {Q : AV → AHeap → Prop}
theorem wide_ok {m : Int} (hd : Hnd a h) (hm : 0 < m) (q : ∀ (r : Nat) h', Hx a h h' → (r : Int) < m → Q (.int (r : Int)) h') : callN P (n+2) 33 [.adr a, .int m] h Q := by
  refine call_of U.f__law_wide rfl ?_
  show WpSs (ctxOf P (callN P (n+1))) b_law_wide _ [.val (.adr a), .val (.int m), .no] h
  push_cast [b_law_wide]
  refine take_ok hd (by decide) fun r1 h1 x1 _ => ?_
  push_cast [WpSs]
  refine ⟨mulA_r (by decide) (by decide), ?_⟩
  refine take_ok x1.hand (by decide) fun r2 h2 x2 _ => ?_
  push_cast [WpSs]
  refine ⟨hm, ?_⟩
  have e1 := Int.emod_nonneg ((r1 : Int) * 100003 + r2) (b := m) (by omega)
  have e2 := Int.emod_lt_of_pos ((r1 : Int) * 100003 + r2) hm
  obtain ⟨r, hr⟩ := Int.eq_ofNat_of_zero_le e1
  rw [hr] at e2 ⊢
  exact q r _ (x1.trans x2) e2
theorem pw {e : Int} (h1 : 0 ≤ e) (h2 : e ≤ 12) : CPow 10 e := ⟨h1, by omega, by decide⟩
theorem number_ok (hd : Hnd a h) (q : ∀ (r : Nat) h', Hx a h h' → r < 1000000000000 → Q (.int (r : Int)) h') : callN P (n+3) 121 [.adr a] h Q := by
  refine call_of U.f__law_number rfl ?_
  show WpSs (ctxOf P (callN P (n+2))) b_law_number _ [.val (.adr a)] h
  push_cast [b_law_number]
  refine take_ok hd (by decide) fun r1 h1 x1 _ => ?_
  push_cast [WpSs]
  refine ite_b (fun _ => ?_) (fun _ => ?_)
  · push_cast [k_pow, tens]
    refine ⟨pw (by decide) (by decide), ?_⟩
    refine take_ok x1.hand (by decide) fun r2 h2 x2 hr2 => ?_
    have e : (1000000000000 : Int) - 1 - (r2 : Int) = ((1000000000000 - 1 - r2 : Nat) : Int) := by omega
    push_cast [WpSs]
    rw [e]
    exact q _ _ (x1.trans x2) (by omega)
  · push_cast [b_law_number_1, k_pow, tens, List.length_cons, List.length_nil]
    refine ⟨pw (by decide) (by decide), pw (by decide) (by decide), by show 4 ≤ sizeLine; decide, ?_⟩
    refine take_ok x1.hand (by decide) fun r2 h2 x2 hr2 => ?_
    refine k_pickI (xs := [10, 1000, 1000000, 1000000000]) (by simpa using hr2) fun v hv => ?_
    have bv : 0 < v ∧ v ≤ 1000000000 := by
      simp only [List.mem_cons, List.not_mem_nil, or_false] at hv
      omega
    refine wide_ok x2.hand bv.1 fun r3 h3 x3 hr3 => ?_
    push_cast [List.length_cons, List.length_nil]
    refine ⟨by show 4 ≤ sizeLine; decide, ?_⟩
    refine take_ok x3.hand (by decide) fun r4 h4 x4 hr4 => ?_
    refine k_pickI (xs := [1, 1, 1, 999]) (by simpa using hr4) fun v2 hv2 => ?_
    have bv2 : v2 = 1 ∨ v2 = 999 := by
      simp only [List.mem_cons, List.not_mem_nil, or_false] at hv2
      omega
    push_cast [WpSs]
    refine ⟨mulA_r (by omega) (by omega), ?_⟩
    have x := ((x1.trans x2).trans x3).trans x4
    rcases bv2 with rfl | rfl
    · rw [Int.mul_one]; exact q _ _ x (by omega)
    · have e : (r3 : Int) * 999 = ((r3 * 999 : Nat) : Int) := by omega
      rw [e]
      exact q _ _ x (by omega)
theorem line_ok (hd : Hnd a h) (q : ∀ l h', Hx a h h' → Ln l → Q (.str (mkS l)) h') : callN P (n+2) 122 [.adr a] h Q := by
  refine call_of U.f__law_line rfl ?_
  show WpSs (ctxOf P (callN P (n+1))) b_law_line _ [.val (.adr a), .no, .no, .no, .no] h
  have hz := sz1
  obtain ⟨so1, so2, so3, so4, so5⟩ := sgn_ok
  have es : ("abcdefghijklmnopqrstuvwxyz ABCXYZ 0123456789 <>=+-()[],:.;_#' " : Str) = mkS sgn := rfl
  have et : ("\t~{&" : Str) = mkS sgt := rfl
  have em : ("" : Str) = mkS [] := lits.2.2.2.2.2.2.2
  have el : ([.str "", .str "on", .str "over", .str "text 1", .str "proc x", .str "dead 0", .str "pair 0 1", .str "proc ", .str " ", .str "all 0 0", .str "text 0", .str "dead"] : List AV) = wl trick := rfl
  have tl : trick.length = 12 := by decide
  push_cast [b_law_line]
  rw [es, el]
  refine ⟨by rw [wl_len, tl]; decide, ?_⟩
  refine take_ok hd (by decide) fun r1 h1 x1 _ => ?_
  push_cast [WpSs]
  refine ite_b (fun _ => ?_) (fun _ => ?_)
  · push_cast [k_lenL, wl_len, tl]
    refine take_ok x1.hand (by decide) fun r2 h2 x2 hr2 => ?_
    refine k_pickW (by rw [tl]; exact hr2) fun w hw => ?_
    exact q _ _ (x1.trans x2) (trick_ln w hw)
  · push_cast [b_law_line_4, em]
    refine take_ok x1.hand (by decide) fun r2 h2 x2 hr2 => ?_
    push_cast [WpSs]
    refine ⟨by omega, ?_⟩
    have sub_s : ∀ {z : W} {r : Nat} {h : AHeap} {Q : KA}, z.length ≤ 100 → (∀ c ∈ z, c ≠ 10 ∧ c < 128) → r < z.length → (∀ c, c ≠ 10 → c < 128 → Q (.str (mkS [c]))) → subK h (.str (mkS z)) (.int (r : Int)) Q := by
      intro z r h Q h1 h2 h3 h4
      refine k_subS (by rw [mkS_len]; omega) (k := r) (c := z[r]) (List.getElem?_eq_getElem h3) ?_
      have := h2 _ (List.getElem_mem h3)
      exact h4 _ this.1 this.2
    refine for_inv (fun i ρ h' => Hx a h2 h' ∧ ∃ (l : W) (s4 : Slot), ρ = [.val (.adr a), .val (.str (mkS sgn)), .val (.lst (wl trick)), .val (.str (mkS l)), s4] ∧ 10 ∉ l ∧ Ch l ∧ l.length ≤ i) ⟨.refl x2.hand, [], _, rfl, by simp, (fun c m => nomatch m), Nat.le_refl _⟩ (fun _ _ _ _ _ => by trivial) ?_ ?_
    · rintro i x _ h3 D' hx ⟨x3, l, s4, rfl, l1, l2, l3⟩ kn kc kr kb
      obtain ⟨hi, rfl⟩ := items_range hx
      have hi : i < 9 := by omega
      push_cast [b_law_line_1, mkS_len]
      refine ⟨by omega, ?_⟩
      refine take_ok x3.hand (by omega) fun r3 h4 x4 hr3 => ?_
      refine sub_s so3 so1 (by omega) fun c c1 c2 => ?_
      push_cast [mkS_len, mkS_app, List.length_cons, List.length_nil]
      refine ⟨by omega, ?_⟩
      refine kn _ _ ⟨x3.trans x4, l ++ [c], _, rfl, ?_, ?_, by simp; omega⟩
      · intro m; rcases List.mem_append.mp m with m | m
        · exact l1 m
        · exact c1 (List.mem_singleton.mp m).symm
      · intro d m; rcases List.mem_append.mp m with m | m
        · exact l2 d m
        · rw [List.mem_singleton.mp m]; exact c2
    · rintro _ h3 ⟨x3, l, s4, rfl, l1, l2, l3⟩
      have l3 : l.length ≤ 9 := by simp at l3; omega
      push_cast [b_law_line_3]
      refine take_ok x3.hand (by decide) fun r3 h4 x4 hr3 => ?_
      push_cast [WpSs]
      refine ite_b (fun _ => ?_) (fun _ => ?_)
      · push_cast [et]
        refine take_ok x4.hand (by decide) fun r5 h5 x5 hr5 => ?_
        refine sub_s (by omega) so4 (by omega) fun c c1 c2 => ?_
        push_cast [mkS_len, mkS_app, List.length_cons, List.length_nil, b_law_line_2]
        refine ⟨by omega, ?_⟩
        refine q _ _ ((((x1.trans x2).trans x3).trans x4).trans x5) ⟨?_, ?_, by simp; omega⟩
        · intro m; rcases List.mem_append.mp m with m | m
          · exact l1 m
          · exact c1 (List.mem_singleton.mp m).symm
        · intro d m; rcases List.mem_append.mp m with m | m
          · exact l2 d m
          · rw [List.mem_singleton.mp m]; exact c2
      · push_cast [b_law_line_2]
        exact q _ _ (((x1.trans x2).trans x3).trans x4) ⟨l1, l2, by omega⟩
end
end Gp

set_option maxRecDepth 100000
set_option maxHeartbeats 400000
namespace Gp
open PySem L2 VL Wd Tm Tw Hd PaL Pa ShL
local macro_rules
  | `(tactic| push_cast [$xs,*]) => `(tactic| try simp only [$xs,*, WpSs, WpS, WpE, WpEs, WpBs, WpO, WpN, WpI, WpC, WpT, getS, setS, tgK, setsS, wipeS, k_add, k_addT, k_sub, k_mul, k_fdiv, k_mod, k_neg, k_lt, k_le, k_gt, k_ge, k_eqI, k_neI, k_eqS, k_neS, k_eqB, k_neB, k_is, k_isn, k_isB, k_isnB, k_gIn, ctx_gdct, isNon_non, isNon_int, isNon_str, isNon_lst, isNon_tup, isNon_adr, k_lenS, k_lenL, k_lenR, k_lenT, k_int, k_str, k_abs, tru_bl, augK, ctx_call, ctx_glob, k_in, k_nin, k_inS, k_addS, k_intB, isi_non_int, isi_non_bool, isi_non_str, isi_non_list, isi_non_tuple, isi_bl_int, isi_bl_bool, isi_bl_str, isi_bl_list, isi_bl_tuple, isi_int_int, isi_int_bool, isi_int_str, isi_int_list, isi_int_tuple, isi_str_int, isi_str_bool, isi_str_str, isi_str_list, isi_str_tuple, isi_tup_int, isi_tup_bool, isi_tup_str, isi_tup_list, isi_tup_tuple, isi_lst_int, isi_lst_bool, isi_lst_str, isi_lst_list, isi_lst_tuple, isi_ro_int, isi_ro_bool, isi_ro_str, isi_ro_list, isi_ro_tuple])
def ktab : List (W × Nat) := kinds ++ [(wDead, 1)]
def kws : List W := [[111, 110], [111, 118, 101, 114], wDead, [112, 97, 105, 114], [119, 114, 105, 116, 101], [101, 105, 116, 104, 101, 114], [97, 108, 108], [109, 97, 116, 99, 104], [115, 111, 114, 116, 101, 100], [98, 101, 108, 111, 119]]
theorem klits : (["on", "over", "dead", "pair", "write", "either", "all", "match", "sorted", "below"] : List Str) = kws.map mkS := by decide +kernel
theorem klit2 : ("on" : Str) = mkS [111, 110] ∧ ("over" : Str) = mkS [111, 118, 101, 114] ∧ ("pair" : Str) = mkS [112, 97, 105, 114] ∧ ("write" : Str) = mkS [119, 114, 105, 116, 101] ∧ ("either" : Str) = mkS [101, 105, 116, 104, 101, 114] ∧ ("all" : Str) = mkS [97, 108, 108] ∧ ("match" : Str) = mkS [109, 97, 116, 99, 104] ∧ ("sorted" : Str) = mkS [115, 111, 114, 116, 101, 100] ∧ ("below" : Str) = mkS [98, 101, 108, 111, 119] := by decide +kernel
/-- how many numbers a word wants, by the tests of the drawing -/
def cnt (w : W) : Nat := if w = [111, 110] ∨ w = [111, 118, 101, 114] then 0 else if w ∈ [([115, 111, 114, 116, 101, 100] : W), [98, 101, 108, 111, 119]] then 3 else if w ∈ [([112, 97, 105, 114] : W), [97, 108, 108], [109, 97, 116, 99, 104]] then 2 else 1
theorem cnt_ok : ∀ w ∈ kws, w ≠ wDead → (w, cnt w) ∈ kinds := by decide +kernel
theorem kws_sm : ∀ w ∈ kws, (∀ c ∈ w, c < 128) ∧ w.length ≤ 10 := by decide +kernel
theorem sm_tok {t : To} (b : t.Ok) (k : t.k ∈ kws) : Pa.To.Sm t := ⟨(kws_sm _ k).1, (kws_sm _ k).2, fun n m => by have := b.lt n m; omega, b.few⟩
section
variable {P : Prg} [Hd.U P] [Pa.U P] [U P] {n a : Nat} {h : AHeap} {Q : AV → AHeap → Prop}
theorem le1 : 1 ≤ sizeLine := by decide
/-- numbers, drawn -/
theorem nums_ok {m : Nat} {R : List AV → AHeap → Prop} (hd : Hnd a h) (q : ∀ (ns : List Nat) h', Hx a h h' → ns.length = m → (∀ x ∈ ns, x < 1000000000000) → R (intsA ns) h') :
    compL (fun x h2 R => callN P (n+3) 121 [.adr a] h2 fun y h4 => R (some y) h4) (fun _ => True) ((List.range m).map fun (k : Nat) => .int (k : Int)) [] h R := by
  refine comp_inv (fun i acc h' => Hx a h h' ∧ ∃ ns : List Nat, acc = intsA ns ∧ ns.length = i ∧ ∀ x ∈ ns, x < 1000000000000) ⟨.refl hd, [], rfl, rfl, fun _ m => nomatch m⟩ (fun _ _ _ _ _ => trivial) ?_ ?_
  · rintro i x acc h1 R hx ⟨x1, ns, rfl, l1, l2⟩ k1 k2
    refine number_ok x1.hand fun r h2 x2 hr => ?_
    refine k1 _ _ ⟨x1.trans x2, ns ++ [r], ?_, by simp [l1], fun y m => ?_⟩
    · unfold intsA; rw [List.map_append]; rfl
    · rcases List.mem_append.mp m with m | m
      · exact l2 y m
      · rw [List.mem_singleton.mp m]; exact hr
  · rintro acc h1 ⟨x1, ns, rfl, l1, l2⟩
    exact q ns h1 x1 (by rw [l1]; simp) l2
theorem token_ok (hd : Hnd a h) (q : ∀ (t : To) h', Hx a h h' → t.Ok → t.k ∈ kws → Q t.av h') : callN P (n+4) 123 [.adr a] h Q := by
  refine call_of U.f__law_token rfl ?_
  show WpSs (ctxOf P (callN P (n+3))) b_law_token _ [.val (.adr a), .no, .no, .no] h
  have hz := sz1
  have el : ([.str "on", .str "over", .str "dead", .str "pair", .str "write", .str "either", .str "all", .str "match", .str "sorted", .str "below"] : List AV) = wl kws := by
    have : ([.str "on", .str "over", .str "dead", .str "pair", .str "write", .str "either", .str "all", .str "match", .str "sorted", .str "below"] : List AV) = (["on", "over", "dead", "pair", "write", "either", "all", "match", "sorted", "below"] : List Str).map AV.str := rfl
    rw [this, klits, List.map_map]; rfl
  have kl : kws.length = 10 := rfl
  push_cast [b_law_token]
  rw [el]
  refine ⟨by rw [wl_len, kl]; omega, ?_⟩
  refine take_ok hd (by decide) fun r1 h1 x1 hr1 => ?_
  refine k_pickW (by rw [kl]; exact hr1) fun w hw => ?_
  obtain ⟨k1, k2, k3, k4, k5, k6, k7, k8, k9⟩ := klit2
  push_cast [k1, k2, mkS_eq]
  have zero : (w = [111, 110] ∨ w = [111, 118, 101, 114]) → w ∈ kws → Q (.tup [.str (mkS w)]) h1 := by
    intro hz hw
    have ok : (⟨w, []⟩ : To).Ok := by
      refine ⟨.inr ?_, (fun _ m => nomatch m), Nat.zero_le _⟩
      rcases hz with rfl | rfl <;> decide
    have e : (⟨w, []⟩ : To).av = .tup [.str (mkS w)] := by
      unfold To.av
      rw [if_neg (by rcases hz with rfl | rfl <;> decide)]; rfl
    have := q ⟨w, []⟩ h1 x1 ok hw
    rw [e] at this
    exact this
  refine ite_b (fun c => ⟨le1, zero (.inl c) hw⟩) (fun c1 => ?_)
  refine ite_b (fun c => ⟨le1, zero (.inr c) hw⟩) (fun c2 => ?_)
  push_cast [b_law_token_4, plits, mkS_eq]
  refine ite_b (fun c => ?_) (fun c3 => ?_)
  · refine take_ok x1.hand (by decide) fun r2 h2 x2 hr2 => ?_
    push_cast [WpSs]
    refine take_ok x2.hand (by decide) fun r3 h3 x3 hr3 => ?_
    have em : (1 : Int) + (r2 : Int) * (r3 : Int) = ((1 + r2 * r3 : Nat) : Int) := by push_cast; rfl
    have bm : r2 * r3 ≤ 6 := by
      have := Nat.mul_le_mul (show r2 ≤ 2 by omega) (show r3 ≤ 3 by omega)
      exact this
    push_cast [em, if_true, Int.toNat_natCast]
    refine ⟨mulA_r (by omega) (by omega), by omega, by simp; omega, ?_⟩
    refine nums_ok x3.hand fun ns h4 x4 l1 l2 => ?_
    push_cast [bltK, view_lst]
    refine ⟨le2, ?_⟩
    subst c
    have ok : (⟨wDead, ns⟩ : To).Ok := ⟨.inl ⟨rfl, by show 0 < ns.length; omega⟩, l2, by show ns.length ≤ 10; omega⟩
    have e : (⟨wDead, ns⟩ : To).av = .tup [.str (mkS wDead), .tup (intsA ns)] := by
      unfold To.av
      rw [if_pos rfl]
    have := q ⟨wDead, ns⟩ h4 (((x1.trans x2).trans x3).trans x4) ok hw
    rw [e] at this
    exact this
  · -- so many numbers
    have fin : ∀ m : Nat, m = cnt w → WpSs (ctxOf P (callN P (n+3))) b_law_token_1 { nx := fun x h => Q .non h, rt := Q } [.val (.adr a), .val (.str (mkS w)), .val (.int (m : Int)), .no] h1 := by
      intro m hm
      have mk := cnt_ok w hw c3
      rw [← hm] at mk
      have m3 : m ≤ 3 := by
        have : ∀ p ∈ kinds, p.2 ≤ 3 := by decide
        exact this _ mk
      push_cast [b_law_token_1, if_true, Int.toNat_natCast]
      refine ⟨le1, by omega, by simp; omega, ?_⟩
      refine nums_ok x1.hand fun ns h4 x4 l1 l2 => ?_
      have il : (intsA ns).length = ns.length := List.length_map ..
      push_cast [bltK, view_lst, List.length_cons, List.length_nil, il]
      refine ⟨by omega, ?_⟩
      have ok : (⟨w, ns⟩ : To).Ok := ⟨.inr (by show (w, ns.length) ∈ kinds; rw [l1]; exact mk), l2, by show ns.length ≤ 10; omega⟩
      have e : (⟨w, ns⟩ : To).av = .tup (.str (mkS w) :: intsA ns) := by
        unfold To.av
        rw [if_neg c3]
      have := q ⟨w, ns⟩ h4 (x1.trans x4) ok hw
      rw [e] at this
      exact this
    have c12 : ¬ (w = [111, 110] ∨ w = [111, 118, 101, 114]) := fun z => z.elim c1 c2
    have l3 : ([.str (mkS [112, 97, 105, 114]), .str (mkS [97, 108, 108]), .str (mkS [109, 97, 116, 99, 104])] : List AV) = wl [[112, 97, 105, 114], [97, 108, 108], [109, 97, 116, 99, 104]] := rfl
    have l2 : ([.str (mkS [115, 111, 114, 116, 101, 100]), .str (mkS [98, 101, 108, 111, 119])] : List AV) = wl [[115, 111, 114, 116, 101, 100], [98, 101, 108, 111, 119]] := rfl
    push_cast [b_law_token_3, k3, k6, k7, l3]
    refine ⟨by rw [wl_len]; decide, ?_⟩
    refine in_wl viewT_lst (fun _ z => by cases z) ?_
    push_cast [Bool.false_eq_true, if_false]
    have go2 : ∀ m : Nat, (m = if w ∈ [([112, 97, 105, 114] : W), [97, 108, 108], [109, 97, 116, 99, 104]] then 2 else 1) → WpSs (ctxOf P (callN P (n+3))) b_law_token_2 { nx := fun x h => Q .non h, rt := Q } [.val (.adr a), .val (.str (mkS w)), .val (.int (m : Int)), .no] h1 := by
      intro m hm
      push_cast [b_law_token_2, k8, k9, l2]
      refine ⟨by rw [wl_len]; decide, ?_⟩
      refine in_wl viewT_lst (fun _ z => by cases z) ?_
      push_cast [Bool.false_eq_true, if_false]
      refine ite_b (fun c => ?_) (fun c => ?_)
      · refine fin 3 ?_
        unfold cnt; rw [if_neg c12, if_pos c]
      · refine fin m ?_
        unfold cnt; rw [if_neg c12, if_neg c]; exact hm
    refine ite_b (fun c => ?_) (fun c => ?_)
    · exact go2 2 (by rw [if_pos c])
    · exact go2 1 (by rw [if_neg c])
end
end Gp

set_option maxRecDepth 100000
set_option maxHeartbeats 400000
namespace Gp
open PySem L2 VL Wd Tm Tw Hd PaL Pa ShL
local macro_rules
  | `(tactic| push_cast [$xs,*]) => `(tactic| try simp only [$xs,*, WpSs, WpS, WpE, WpEs, WpBs, WpO, WpN, WpI, WpC, WpT, getS, setS, tgK, setsS, wipeS, k_add, k_addT, k_sub, k_mul, k_fdiv, k_mod, k_neg, k_lt, k_le, k_gt, k_ge, k_eqI, k_neI, k_eqS, k_neS, k_eqB, k_neB, k_is, k_isn, k_isB, k_isnB, k_gIn, ctx_gdct, isNon_non, isNon_int, isNon_str, isNon_lst, isNon_tup, isNon_adr, k_lenS, k_lenL, k_lenR, k_lenT, k_int, k_str, k_abs, tru_bl, augK, ctx_call, ctx_glob, k_in, k_nin, k_inS, k_addS, k_intB, isi_non_int, isi_non_bool, isi_non_str, isi_non_list, isi_non_tuple, isi_bl_int, isi_bl_bool, isi_bl_str, isi_bl_list, isi_bl_tuple, isi_int_int, isi_int_bool, isi_int_str, isi_int_list, isi_int_tuple, isi_str_int, isi_str_bool, isi_str_str, isi_str_list, isi_str_tuple, isi_tup_int, isi_tup_bool, isi_tup_str, isi_tup_list, isi_tup_tuple, isi_lst_int, isi_lst_bool, isi_lst_str, isi_lst_list, isi_lst_tuple, isi_ro_int, isi_ro_bool, isi_ro_str, isi_ro_list, isi_ro_tuple])
section
variable {P : Prg} [Hd.U P] [Pa.U P] [U P] {n a : Nat} {h : AHeap} {Q : AV → AHeap → Prop}
theorem lines_ok (hd : Hnd a h) (q : ∀ (ls : List W) h', Hx a h h' → ls ≠ [] → ls.length ≤ 100 → (∀ l ∈ ls, Ln l) → Q (.lst (wl ls)) h') : callN P (n+3) 124 [.adr a] h Q := by
  refine call_of U.f__law_lines rfl ?_
  show WpSs (ctxOf P (callN P (n+2))) b_law_lines _ [.val (.adr a), .no, .no, .no] h
  have hz := sz1
  have fin : ∀ (m : Nat) h1, Hx a h h1 → 0 < m → m ≤ 100 → WpSs (ctxOf P (callN P (n+2))) b_law_lines_1 { nx := fun x h => Q .non h, rt := Q } [.val (.adr a), .val (.int (m : Int)), .no, .no] h1 := by
    intro m h1 x1 m0 m1
    have em : (if (5 : Int) < (m : Int) then (5 : Int) else (m : Int)) = ((min m 5 : Nat) : Int) := by split <;> omega
    push_cast [b_law_lines_1, k_min2, em, if_true, Int.toNat_natCast]
    refine ⟨by omega, by simp; omega, ?_⟩
    refine comp_inv (fun i acc h' => Hx a h1 h' ∧ ∃ ls : List W, acc = wl ls ∧ ls.length = i ∧ ∀ x ∈ ls, Ln x) ⟨.refl x1.hand, [], rfl, rfl, fun _ m => nomatch m⟩ (fun _ _ _ _ _ => trivial) ?_ ?_
    · rintro i x acc h2 R hx ⟨x2, ls, rfl, l1, l2⟩ k1 k2
      refine line_ok x2.hand fun l h3 x3 hl => ?_
      refine k1 _ _ ⟨x2.trans x3, ls ++ [l], wl_one ls l, by simp [l1], fun y m => ?_⟩
      rcases List.mem_append.mp m with m | m
      · exact l2 y m
      · rw [List.mem_singleton.mp m]; exact hl
    · rintro acc h2 ⟨x2, ls, rfl, l1, l2⟩
      have l1 : ls.length = min m 5 := by rw [l1]; simp
      push_cast [if_true, k_lenL, wl_len, Int.toNat_natCast]
      refine ⟨by omega, by simp; omega, ?_⟩
      refine comp_map (fun i => .str (mkS (ls[i % ls.length]?.getD []))) ?_ ?_
      · intro i x R hx r
        obtain ⟨hi, rfl⟩ := items_range hx
        have lt : i % ls.length < ls.length := Nat.mod_lt _ (by omega)
        have eM : (i : Int) % ((ls.length : Nat) : Int) = ((i % ls.length : Nat) : Int) := by push_cast; rfl
        push_cast [eM]
        refine ⟨by omega, ?_⟩
        refine k_subL viewT_lst (fun _ z => by cases z) (wl_at (List.getElem?_eq_getElem lt)) ?_
        rw [List.getElem?_eq_getElem lt] at r
        exact r
      · have e : (List.range ((List.range m).map fun (k : Nat) => AV.int (k : Int)).length).map (fun i => AV.str (mkS (ls[i % ls.length]?.getD []))) = wl ((List.range m).map fun i => ls[i % ls.length]?.getD []) := by
          rw [List.length_map, List.length_range]; unfold wl; rw [List.map_map]; rfl
        rw [e]
        refine q _ _ (x1.trans x2) ?_ (by simp; omega) ?_
        · intro z
          have := congrArg List.length z
          simp at this
          omega
        · intro l ml
          obtain ⟨i, hi, rfl⟩ := List.mem_map.mp ml
          have lt : i % ls.length < ls.length := Nat.mod_lt _ (by omega)
          rw [List.getElem?_eq_getElem lt]
          exact l2 _ (List.getElem_mem lt)
  push_cast [b_law_lines]
  refine take_ok hd (by decide) fun r1 h1 x1 hr1 => ?_
  have e1 : (1 : Int) + (r1 : Int) = ((1 + r1 : Nat) : Int) := by omega
  push_cast [WpSs]
  refine take_ok x1.hand (by decide) fun r2 h2 x2 hr2 => ?_
  push_cast [WpSs]
  refine ite_b (fun _ => ?_) (fun _ => ?_)
  · refine take_ok x2.hand (by decide) fun r3 h3 x3 hr3 => ?_
    have e3 : (6 : Int) + (r3 : Int) = ((6 + r3 : Nat) : Int) := by omega
    push_cast [WpSs]
    rw [e3]
    exact fin _ _ ((x1.trans x2).trans x3) (by omega) (by omega)
  · rw [e1]
    exact fin _ _ (x1.trans x2) (by omega) (by omega)
theorem rep_map (k : Nat) (ts : List To) : (List.replicate k (ts.map To.av)).flatten = ((List.replicate k ts).flatten).map To.av := by
  induction k with
  | zero => rfl
  | succ k ih => rw [List.replicate_succ, List.flatten_cons, ih, List.replicate_succ, List.flatten_cons, List.map_append]
theorem tokens_ok (hd : Hnd a h) (q : ∀ (ts : List To) h', Hx a h h' → ts ≠ [] → ts.length ≤ 100 → (∀ t ∈ ts, t.Ok ∧ t.k ∈ kws) → Q (.tup (ts.map To.av)) h') : callN P (n+5) 126 [.adr a] h Q := by
  refine call_of U.f__law_tokens rfl ?_
  show WpSs (ctxOf P (callN P (n+4))) b_law_tokens _ [.val (.adr a), .no, .no] h
  have hz := sz1
  push_cast [b_law_tokens, if_true]
  refine take_ok hd (by decide) fun r1 h1 x1 hr1 => ?_
  have e1 : (1 : Int) + (r1 : Int) = ((1 + r1 : Nat) : Int) := by omega
  push_cast [e1, Int.toNat_natCast]
  refine ⟨by omega, by simp; omega, ?_⟩
  refine comp_inv (fun i acc h' => Hx a h1 h' ∧ ∃ ts : List To, acc = ts.map To.av ∧ ts.length = i ∧ ∀ x ∈ ts, x.Ok ∧ x.k ∈ kws) ⟨.refl x1.hand, [], rfl, rfl, fun _ m => nomatch m⟩ (fun _ _ _ _ _ => trivial) ?_ ?_
  · rintro i x acc h2 R hx ⟨x2, ts, rfl, l1, l2⟩ k1 k2
    refine token_ok x2.hand fun t h3 x3 b hk => ?_
    refine k1 _ _ ⟨x2.trans x3, ts ++ [t], by rw [List.map_append]; rfl, by simp [l1], fun y m => ?_⟩
    rcases List.mem_append.mp m with m | m
    · exact l2 y m
    · rw [List.mem_singleton.mp m]; exact ⟨b, hk⟩
  · rintro acc h2 ⟨x2, ts, rfl, l1, l2⟩
    have l1 : ts.length = 1 + r1 := by rw [l1]; simp
    push_cast [WpSs]
    refine take_ok x2.hand (by decide) fun r2 h3 x3 hr2 => ?_
    push_cast [WpSs]
    refine ite_b (fun _ => ?_) (fun _ => ?_)
    · refine take_ok x3.hand (by decide) fun r3 h4 x4 hr3 => ?_
      have e3 : (2 : Int) + (r3 : Int) = ((2 + r3 : Nat) : Int) := by omega
      have lm : ts.length * (2 + r3) ≤ 100 := Nat.le_trans (Nat.mul_le_mul (show ts.length ≤ 7 by omega) (show 2 + r3 ≤ 10 by omega)) (by decide)
      push_cast [e3, viewW_lst, Int.toNat_natCast, List.length_map]
      refine ⟨⟨by omega, by omega⟩, by omega, ?_⟩
      rw [rep_map]
      push_cast [b_law_tokens_1, bltK, view_lst]
      refine q _ _ (((x1.trans x2).trans x3).trans x4) ?_ ?_ ?_
      · intro z
        have e0 : ((List.replicate (2 + r3) ts).flatten).length = (2 + r3) * ts.length := by simp only [List.length_flatten, List.map_replicate, List.sum_replicate_nat]
        rw [z, List.length_nil] at e0
        have : 0 < (2 + r3) * ts.length := Nat.mul_pos (by omega) (by omega)
        omega
      · simp only [List.length_flatten, List.map_replicate, List.sum_replicate_nat]
        rw [Nat.mul_comm]; exact lm
      · intro t m
        obtain ⟨l, m1, m2⟩ := List.mem_flatten.mp m
        rw [(List.mem_replicate.mp m1).2] at m2
        exact l2 t m2
    · push_cast [b_law_tokens_1, bltK, view_lst]
      refine q _ _ ((x1.trans x2).trans x3) ?_ (by omega) l2
      intro z
      rw [z] at l1
      simp at l1
      omega
theorem rows_ok {p : Pp} (b : p.Ok) (q : Q (.lst (wl p.rows)) h) : callN P (n+1) 125 [.lst (wl p.ls), .str (mkS p.nm), .tup (p.ts.map To.av)] h Q := by
  refine call_of U.f__law_rows rfl ?_
  show WpSs (ctxOf P (callN P n)) b_law_rows _ [.val (.lst (wl p.ls)), .val (.str (mkS p.nm)), .val (.tup (p.ts.map To.av)), .no, .no, .no, .no] h
  have hz := sz1
  have l1 := b.l1
  have t1 := b.t1
  have d12 := dg_l (m := p.ls.length) (by omega)
  have nm := b.nm.2
  have wt : wText.length = 5 := rfl
  have wp : wProc.length = 5 := rfl
  have w1 : ∀ w : W, ([AV.str (mkS w)] : List AV) = wl [w] := fun _ => rfl
  push_cast [b_law_rows, plits, k_lenL, wl_len, dg_str, mkS_len, mkS_app, List.length_append, List.length_cons, List.length_nil, w1, viewW_lst, wl_app, viewT_tup]
  refine ⟨dg_log (by omega), by omega, by omega, by omega, by omega, by omega, by omega, ?_⟩
  refine for_inv (fun i ρ h' => h' = h ∧ ∃ s4 s5 s6 : Slot, ρ = [.val (.lst (wl p.ls)), .val (.str (mkS p.nm)), .val (.tup (p.ts.map To.av)), .own (.lst (wl ([wText ++ dg (p.ls.length : Int)] ++ p.ls ++ [wProc ++ p.nm] ++ (p.ts.take i).map To.row))), s4, s5, s6]) ⟨rfl, _, _, _, by rw [List.take_zero, List.map_nil, List.append_nil]⟩ (fun _ _ _ _ _ => by trivial) ?_ ?_
  · rintro i x _ h D' hx ⟨rfl, s4, s5, s6, rfl⟩ kn kc kr kb
    obtain ⟨t, ht, rfl⟩ := items_map hx
    have bt := b.ok t (List.mem_of_getElem? ht)
    have few := bt.few
    -- the row, from its words
    have go : ∀ s5 : Slot, s5 = .val (.tup (intsA t.ns)) → (∀ Q : KA, Q (.str (mkS t.k)) → subK h t.av (.int 0) Q) → WpSs (ctxOf P (callN P n)) b_law_rows_1 D' [.val (.lst (wl p.ls)), .val (.str (mkS p.nm)), .val (.tup (p.ts.map To.av)), .own (.lst (wl ([wText ++ dg (p.ls.length : Int)] ++ p.ls ++ [wProc ++ p.nm] ++ (p.ts.take i).map To.row))), .val t.av, s5, s6] h := by
      rintro _ rfl hk
      push_cast [b_law_rows_1, plits]
      refine hk _ ?_
      have il : (intsA t.ns).length = t.ns.length := List.length_map ..
      push_cast [viewT_tup, List.length_cons, List.length_nil, if_true]
      refine ⟨by omega, by rw [il]; omega, ?_⟩
      refine comp_map (fun i => .str (mkS (dg ((t.ns[i]?.getD 0 : Nat) : Int)))) ?_ ?_
      · intro i x R hx r
        obtain ⟨m, hm, rfl⟩ := items_map hx
        push_cast [WpSs]
        refine ⟨dg_log (bt.lt m (List.mem_of_getElem? hm)), ?_⟩
        rw [hm] at r; exact r
      · have e : (List.range (intsA t.ns).length).map (fun i => AV.str (mkS (dg ((t.ns[i]?.getD 0 : Nat) : Int)))) = wl (dgs t.ns) := by
          rw [il, range_map t.ns 0 (fun m => AV.str (mkS (dg (m : Int))))]
          unfold wl dgs
          rw [List.map_map]; rfl
        rw [e]
        have e2 : [AV.str (mkS t.k)] ++ wl (dgs t.ns) = wl (t.k :: dgs t.ns) := rfl
        have dl : (dgs t.ns).length = t.ns.length := List.length_map ..
        push_cast [viewW_lst, e2, wl_len, List.length_cons, List.length_nil]
        refine ⟨by omega, ?_⟩
        refine k_joinB (b := 20) (c := 20) viewT_lst (fun p hp => ?_) (by simp; omega) (by decide) ?_
        · rcases List.mem_cons.mp hp with rfl | hp
          · have := (kd_no bt.kd).2.2; omega
          · obtain ⟨m, hm, rfl⟩ := List.mem_map.mp hp
            have := (dg_len12 (bt.lt m hm)).2; omega
        · refine ⟨by simp; omega, ?_⟩
          have er : wl ([wText ++ dg (p.ls.length : Int)] ++ p.ls ++ [wProc ++ p.nm] ++ (p.ts.take i).map To.row) ++ [AV.str (mkS (TL.joinL [32] (t.k :: dgs t.ns)))] = wl ([wText ++ dg (p.ls.length : Int)] ++ p.ls ++ [wProc ++ p.nm] ++ (p.ts.take (i + 1)).map To.row) := by
            rw [List.take_succ, ht, wl_one, List.map_append, List.append_assoc]; rfl
          rw [er]
          exact kn _ _ ⟨rfl, _, _, _, rfl⟩
    push_cast [b_law_rows_2, plits]
    by_cases c : t.k = wDead
    · have e : t.av = .tup [.str (mkS t.k), .tup (intsA t.ns)] := if_pos c
      have s0 : ∀ Q : KA, Q (.str (mkS t.k)) → subK h t.av (.int 0) Q := fun Q q => by
        rw [e]; exact k_subL (d := .str (mkS t.k)) viewT_tup (fun _ z => by cases z) rfl q
      rw [e]
      push_cast [k_sliceT]
      rw [← e]
      refine s0 _ ?_
      have d : (t.k = wDead) = True := eq_true c
      push_cast [mkS_eq, d, decide_true, if_true]
      rw [e]
      refine k_subL (d := .tup (intsA t.ns)) viewT_tup (fun _ z => by cases z) rfl ?_
      rw [← e]
      exact go _ rfl s0
    · have e : t.av = .tup (.str (mkS t.k) :: intsA t.ns) := if_neg c
      have a0 : atI (.str (mkS t.k) :: intsA t.ns) 0 = some (.str (mkS t.k)) := (atI_nat (l := .str (mkS t.k) :: intsA t.ns) (k := 0) (Nat.zero_lt_succ _)).trans rfl
      have s0 : ∀ Q : KA, Q (.str (mkS t.k)) → subK h t.av (.int 0) Q := fun Q q => by
        rw [e]; exact k_subL (d := .str (mkS t.k)) viewT_tup (fun _ z => by cases z) a0 q
      have cu : cut (.str (mkS t.k) :: intsA t.ns) (some 1) none = intsA t.ns := cut_sn (.str (mkS t.k) :: intsA t.ns) 1
      rw [e]
      push_cast [k_sliceT, cu]
      rw [← e]
      refine s0 _ ?_
      have d : (t.k = wDead) = False := eq_false c
      push_cast [mkS_eq, d, decide_false, Bool.false_eq_true, if_false]
      exact go _ rfl s0
  · rintro _ h ⟨rfl, s4, s5, s6, rfl⟩
    rw [List.length_map, List.take_length]
    push_cast [b_law_rows_3]
    have e : [wText ++ dg (p.ls.length : Int)] ++ p.ls ++ [wProc ++ p.nm] ++ p.ts.map To.row = p.rows := by unfold Pp.rows; simp
    rw [e]
    exact q
end
end Gp

set_option maxRecDepth 100000
set_option maxHeartbeats 400000
namespace K24
open PySem L2 VL Wd Tm Tw Hd PaL Pa ShL Gp
local macro_rules
  | `(tactic| push_cast [$xs,*]) => `(tactic| try simp only [$xs,*, WpSs, WpS, WpE, WpEs, WpBs, WpO, WpN, WpI, WpC, WpT, getS, setS, tgK, setsS, wipeS, k_add, k_addT, k_sub, k_mul, k_fdiv, k_mod, k_neg, k_lt, k_le, k_gt, k_ge, k_eqI, k_neI, k_eqS, k_neS, k_eqB, k_neB, k_is, k_isn, k_isB, k_isnB, k_gIn, ctx_gdct, isNon_non, isNon_int, isNon_str, isNon_lst, isNon_tup, isNon_adr, k_lenS, k_lenL, k_lenR, k_lenT, k_int, k_str, k_abs, tru_bl, augK, ctx_call, ctx_glob, k_in, k_nin, k_inS, k_addS, k_intB, isi_non_int, isi_non_bool, isi_non_str, isi_non_list, isi_non_tuple, isi_bl_int, isi_bl_bool, isi_bl_str, isi_bl_list, isi_bl_tuple, isi_int_int, isi_int_bool, isi_int_str, isi_int_list, isi_int_tuple, isi_str_int, isi_str_bool, isi_str_str, isi_str_list, isi_str_tuple, isi_tup_int, isi_tup_bool, isi_tup_str, isi_tup_list, isi_tup_tuple, isi_lst_int, isi_lst_bool, isi_lst_str, isi_lst_list, isi_lst_tuple, isi_ro_int, isi_ro_bool, isi_ro_str, isi_ro_list, isi_ro_tuple])
def s1 : W := cL "text 0"
def s2 : W := cL "text -"
def s3 : W := cL "text +"
def s4 : W := cL "texts "
def s5 : W := cL " text "
def s6 : W := cL "text  "
def s7 : W := cL " 1"
def s8 : W := cL "Text "
def s9 : W := cL ".0"
def s10 : W := cL "text\t"
def s11 : W := cL " "
def s12 : W := cL "text "
theorem slits : ("text 0" : Str) = mkS s1 ∧ ("text -" : Str) = mkS s2 ∧ ("text +" : Str) = mkS s3 ∧ ("texts " : Str) = mkS s4 ∧ (" text " : Str) = mkS s5 ∧ ("text  " : Str) = mkS s6 ∧ (" 1" : Str) = mkS s7 ∧ ("Text " : Str) = mkS s8 ∧ (".0" : Str) = mkS s9 ∧ ("text\t" : Str) = mkS s10 ∧ (" " : Str) = mkS s11 ∧ ("text " : Str) = mkS s12 := ⟨rfl, rfl, rfl, rfl, rfl, rfl, rfl, rfl, rfl, rfl, rfl, rfl⟩
theorem slens : s1.length = 6 ∧ s2.length = 6 ∧ s3.length = 6 ∧ s4.length = 6 ∧ s5.length = 6 ∧ s6.length = 6 ∧ s7.length = 2 ∧ s8.length = 5 ∧ s9.length = 2 ∧ s10.length = 5 ∧ s11.length = 1 ∧ s12.length = 5 := by decide +kernel
def wF1 (d : W) : List W := (["", "text", "text "] : List Str).map cL ++ [s1, s1 ++ d, s2 ++ d, s3 ++ d, cL "text x", s4 ++ d]
def wF2 (d : W) : List W := [s12 ++ d ++ s11, s5 ++ d, s6 ++ d, s12 ++ d ++ s7, s8 ++ d, d]
def wF3 (d : W) : List W := [cL "text 1000000000000", s12 ++ d ++ s9, cL "text 1_0", s10 ++ d]
theorem wF_eq (d : W) : wF1 d ++ wF2 d ++ wF3 d = wFirsts d := rfl
section
variable {P : Prg} [Hd.U P] [Pa.U P] [Gp.U P] [U P] {n a : Nat} {h : AHeap} {Q : AV → AHeap → Prop}
theorem pick_ok {xs : List AV} (hd : Hnd a h) (h0 : 0 < xs.length) (h1 : xs.length < 100000) (q : ∀ v, v ∈ xs → ∀ h', Hx a h h' → Q v h') : callN P (n+2) 130 [.adr a, .lst xs] h Q := by
  refine call_of U.f__law_pick rfl ?_
  show WpSs (ctxOf P (callN P (n+1))) b_law_pick _ [.val (.adr a), .val (.lst xs)] h
  have hz1 := sz1
  push_cast [b_law_pick, k_lenL]
  refine take_ok hd (by omega) fun r h2 x2 hr => ?_
  have hr' : r < xs.length := by omega
  exact k_subL viewT_lst (fun _ z => by cases z) (d := xs[r]) (by rw [atI_nat hr', List.getElem?_eq_getElem hr']) (q _ (List.getElem_mem hr') _ x2)
theorem pickW_ok {ls : List W} (hd : Hnd a h) (h0 : 0 < ls.length) (h1 : ls.length < 100000) (q : ∀ w, w ∈ ls → ∀ h', Hx a h h' → Q (.str (mkS w)) h') : callN P (n+2) 130 [.adr a, .lst (wl ls)] h Q :=
  pick_ok hd (by rw [wl_len]; exact h0) (by rw [wl_len]; exact h1) fun v m h' x => by
    obtain ⟨w, mw, rfl⟩ := List.mem_map.mp m
    exact q w mw h' x
theorem first_ok {m : Nat} (hd : Hnd a h) (hm : m ≤ 100) (q : ∀ w, w ∈ wFirsts (dg (m : Int)) → ∀ h', Hx a h h' → Q (.str (mkS w)) h') : callN P (n+3) 131 [.adr a, .int (m : Int)] h Q := by
  refine call_of U.f__law_wrong_first rfl ?_
  show WpSs (ctxOf P (callN P (n+2))) b_law_wrong_first _ [.val (.adr a), .val (.int (m : Int)), .no, .no] h
  have hz1 := sz1
  have dl := (dg_len12 (n := m) (by omega)).2
  obtain ⟨l1, l2, l3, l4, l5, l6, l7, l8, l9, l10, l11, l12⟩ := slens
  push_cast [b_law_wrong_first, dg_str]
  refine ⟨dg_log (by omega), ?_⟩
  generalize dg (m : Int) = d at *
  push_cast [slits, mkS_len, mkS_app, List.length_append, l1, l2, l3, l4, l5, l6, l7, l8, l9, l10, l11, l12]
  refine ⟨by omega, by omega, by omega, by omega, (show 9 ≤ sizeLine by decide), ?_⟩
  have e1 : ([AV.str "", .str "text", .str (mkS s12), .str (mkS s1), .str (mkS (s1 ++ d)), .str (mkS (s2 ++ d)), .str (mkS (s3 ++ d)), .str "text x", .str (mkS (s4 ++ d))] : List AV) = wl (wF1 d) := rfl
  have e2 : ([.str (mkS (s12 ++ d ++ s11)), .str (mkS (s5 ++ d)), .str (mkS (s6 ++ d)), .str (mkS (s12 ++ d ++ s7)), .str (mkS (s8 ++ d)), .str (mkS d)] : List AV) = wl (wF2 d) := rfl
  have e3 : ([.str "text 1000000000000", .str (mkS (s12 ++ d ++ s9)), .str "text 1_0", .str (mkS (s10 ++ d))] : List AV) = wl (wF3 d) := rfl
  have n1 : (wF1 d).length = 9 := rfl
  have n2 : (wF2 d).length = 6 := rfl
  have n3 : (wF3 d).length = 4 := rfl
  refine ⟨by omega, by omega, by omega, by omega, by omega, by omega, by omega, (show 6 ≤ sizeLine by decide), ?_⟩
  rw [e1, e2]
  push_cast [viewW_lst, wl_len, wl_app, n1, n2, slits, mkS_len, mkS_app, List.length_append, l1, l2, l3, l4, l5, l6, l7, l8, l9, l10, l11, l12]
  refine ⟨by omega, by omega, by omega, by omega, (show 4 ≤ sizeLine by decide), ?_⟩
  rw [e3]
  push_cast [viewW_lst, wl_len, wl_app, n1, n2, n3, List.length_append]
  refine ⟨by omega, ?_⟩
  rw [wF_eq]
  exact pickW_ok hd (by rw [← wF_eq]; simp [n1, n2, n3]) (by rw [← wF_eq]; simp [n1, n2, n3]) q
theorem name_ok (hd : Hnd a h) (q : ∀ w, w ∈ wNames → ∀ h', Hx a h h' → Q (.str (mkS w)) h') : callN P (n+3) 132 [.adr a] h Q := by
  refine call_of U.f__law_wrong_name rfl ?_
  show WpSs (ctxOf P (callN P (n+2))) b_law_wrong_name _ [.val (.adr a)] h
  push_cast [b_law_wrong_name]
  refine ⟨by decide, ?_⟩
  exact pickW_ok (ls := wNames) hd (by decide) (by decide) q
theorem tokw_ok (hd : Hnd a h) (q : ∀ w, w ∈ wToks → ∀ h', Hx a h h' → Q (.str (mkS w)) h') : callN P (n+3) 133 [.adr a] h Q := by
  refine call_of U.f__law_wrong_token rfl ?_
  show WpSs (ctxOf P (callN P (n+2))) b_law_wrong_token _ [.val (.adr a), .no] h
  push_cast [b_law_wrong_token]
  have t1 : ([.str "", .str "onn", .str "on ", .str " on", .str "on 1", .str "over 0", .str "ON", .str "over ", .str "dead", .str "dead ", .str "dead x", .str "dead -1", .str "dead 01"] : List AV) = wl wT1 := rfl
  have t2 : ([.str "dead 1  2", .str "dead 1 2 ", .str "dead 1000000000000", .str "dead 1 01", .str "dead 1,2", .str "dead +1", .str "dead 1_0"] : List AV) = wl wT2 := rfl
  have t3 : ([.str "pair", .str "pair 1", .str "pair 1 2 3", .str "pair 1 x", .str "pair -1 2", .str "pair 01 2", .str "pair 1 1000000000000"] : List AV) = wl wT3 := rfl
  have t4 : ([.str "met 0", .str "write"] : List AV) = wl wT4 := rfl
  have t5 : ([.str "write 1 2", .str "write x", .str "either", .str "either 0 0", .str "all 1", .str "all 1 2 3", .str "all 1 -2", .str "match 1"] : List AV) = wl wT5 := rfl
  have t6 : ([.str "match 1 2 3", .str "match 0 00", .str "sorted 1 2", .str "sorted 1 2 3 4", .str "sorted 1 2 x", .str "below 1 2"] : List AV) = wl wT6 := rfl
  have t7 : ([.str "dead 1 -2", .str "pair  1 2", .str "pair 1 2 "] : List AV) = wl wT7 := rfl
  have t8 : ([.str "below 1 2 3 4", .str "below 1 2 03", .str "text 1", .str "proc x", .str "pairs 1 2", .str "dead\t1", .str "on\t"] : List AV) = wl wT8 := rfl
  have z1 : wT1.length = 13 ∧ wT2.length = 7 ∧ wT3.length = 7 ∧ wT4.length = 2 ∧ wT5.length = 8 ∧ wT6.length = 6 ∧ wT7.length = 3 ∧ wT8.length = 7 := ⟨rfl, rfl, rfl, rfl, rfl, rfl, rfl, rfl⟩
  obtain ⟨m1, m2, m3, m4, m5, m6, m7, m8⟩ := z1
  have hz1 := sz1
  rw [t1, t2, t3, t4, t5, t6, t7, t8]
  push_cast [viewW_lst, wl_len, wl_app, List.length_append, m1, m2, m3, m4, m5, m6, m7, m8]
  refine ⟨by omega, by omega, by omega, by omega, by omega, by omega, by omega, by omega, by omega, by omega, by omega, by omega, by omega, by omega, by omega, ?_⟩
  exact pickW_ok (ls := wToks) hd (by decide) (by decide) q
/-! a number spoilt -/
def x1 : W := cL "0"
def x2 : W := cL "-"
def x3 : W := cL "+"
def x4 : W := cL "000000000000"
def x5 : W := cL "x"
def x6 : W := cL ","
def x7 : W := cL "_0"
def x8 : W := cL "."
def x9 : W := cL "\t"
def xb : W := cL "b"
theorem xlits : ("0" : Str) = mkS x1 ∧ ("-" : Str) = mkS x2 ∧ ("+" : Str) = mkS x3 ∧ ("000000000000" : Str) = mkS x4 ∧ ("x" : Str) = mkS x5 ∧ ("," : Str) = mkS x6 ∧ ("_0" : Str) = mkS x7 ∧ ("." : Str) = mkS x8 ∧ ("\t" : Str) = mkS x9 ∧ ("b" : Str) = mkS xb ∧ ("" : Str) = mkS [] ∧ (" " : Str) = mkS [32] := ⟨rfl, rfl, rfl, rfl, rfl, rfl, rfl, rfl, rfl, rfl, rfl, rfl⟩
theorem xlens : x1.length = 1 ∧ x2.length = 1 ∧ x3.length = 1 ∧ x4.length = 12 ∧ x5.length = 1 ∧ x6.length = 1 ∧ x7.length = 2 ∧ x8.length = 1 ∧ x9.length = 1 ∧ xb.length = 1 := by decide +kernel
def turnA (w : W) : List W := [x1 ++ w, x2 ++ w, x3 ++ w, w ++ x4, w ++ x5, w ++ x6, w ++ x7, w ++ x8]
def turnB (w : W) : List W := [w ++ x9, x9 ++ w, [], w ++ xb]
theorem turn_ok {w : W} (h0 : w ≠ []) (hf : ∀ c ∈ w, c ∈ figures) (hl : w.length ≤ 12) : ∀ v ∈ turnA w ++ turnB w, n12 v = none ∧ 32 ∉ v ∧ 10 ∉ v ∧ v.length ≤ 24 := by
  have no : ∀ x : W, (∀ c ∈ x, c ≠ 32 ∧ c ≠ 10) → x.length ≤ 12 → (32 ∉ x ++ w ∧ 10 ∉ x ++ w ∧ (x ++ w).length ≤ 24) ∧ (32 ∉ w ++ x ∧ 10 ∉ w ++ x ∧ (w ++ x).length ≤ 24) := by
    intro x hx hxl
    have hw : ∀ c ∈ w, c ≠ 32 ∧ c ≠ 10 := fun c m => fig_no (hf c m)
    refine ⟨⟨fun m => ?_, fun m => ?_, by simp; omega⟩, ⟨fun m => ?_, fun m => ?_, by simp; omega⟩⟩ <;> rcases List.mem_append.mp m with m | m
    · exact (hx _ m).1 rfl
    · exact (hw _ m).1 rfl
    · exact (hx _ m).2 rfl
    · exact (hw _ m).2 rfl
    · exact (hw _ m).1 rfl
    · exact (hx _ m).1 rfl
    · exact (hw _ m).2 rfl
    · exact (hx _ m).2 rfl
  have fg : ∀ x : W, (∃ c ∈ x, c ∉ figures) → n12 (x ++ w) = none ∧ n12 (w ++ x) = none := fun x ⟨c, m, hc⟩ => ⟨n12_fig (List.mem_append_left _ m) hc, n12_fig (List.mem_append_right _ m) hc⟩
  have dec : ∀ x ∈ [x1, x2, x3, x4, x5, x6, x7, x8, x9, xb], (∀ c ∈ x, c ≠ 32 ∧ c ≠ 10) ∧ x.length ≤ 12 := by decide +kernel
  have dec2 : ∀ x ∈ [x2, x3, x5, x6, x7, x8, x9, xb], ∃ c ∈ x, c ∉ figures := by decide +kernel
  intro v m
  simp only [turnA, turnB, List.cons_append, List.nil_append, List.mem_cons, List.not_mem_nil, or_false] at m
  rcases m with rfl | rfl | rfl | rfl | rfl | rfl | rfl | rfl | rfl | rfl | rfl | rfl
  · exact ⟨n12_zero h0, (no x1 (dec _ (by simp)).1 (dec _ (by simp)).2).1⟩
  · exact ⟨(fg x2 (dec2 _ (by simp))).1, (no x2 (dec _ (by simp)).1 (dec _ (by simp)).2).1⟩
  · exact ⟨(fg x3 (dec2 _ (by simp))).1, (no x3 (dec _ (by simp)).1 (dec _ (by simp)).2).1⟩
  · exact ⟨n12_len (.inr (by rw [List.length_append, xlens.2.2.2.1]; have := List.length_pos_iff.mpr h0; omega)), (no x4 (dec _ (by simp)).1 (dec _ (by simp)).2).2⟩
  · exact ⟨(fg x5 (dec2 _ (by simp))).2, (no x5 (dec _ (by simp)).1 (dec _ (by simp)).2).2⟩
  · exact ⟨(fg x6 (dec2 _ (by simp))).2, (no x6 (dec _ (by simp)).1 (dec _ (by simp)).2).2⟩
  · exact ⟨(fg x7 (dec2 _ (by simp))).2, (no x7 (dec _ (by simp)).1 (dec _ (by simp)).2).2⟩
  · exact ⟨(fg x8 (dec2 _ (by simp))).2, (no x8 (dec _ (by simp)).1 (dec _ (by simp)).2).2⟩
  · exact ⟨(fg x9 (dec2 _ (by simp))).2, (no x9 (dec _ (by simp)).1 (dec _ (by simp)).2).2⟩
  · exact ⟨(fg x9 (dec2 _ (by simp))).1, (no x9 (dec _ (by simp)).1 (dec _ (by simp)).2).1⟩
  · exact ⟨n12_len (.inl rfl), by simp, by simp, by simp⟩
  · exact ⟨(fg xb (dec2 _ (by simp))).2, (no xb (dec _ (by simp)).1 (dec _ (by simp)).2).2⟩
/-- a wrong row of a token -/
structure Wr (w : W) : Prop where
  t : tokRow w = none
  n : 10 ∉ w
  l : w.length ≤ 300
theorem one_wr {t : To} (b : t.Ok) (h0 : t.ns = []) {r : Nat} (hr : r < 10) : Wr (t.k ++ [32] ++ dg (r : Int)) := by
  have kn := kd_no b.kd
  have e : t.k ++ [32] ++ dg (r : Int) = TL.joinL [32] [t.k, dg (r : Int)] := by
    show _ = t.k ++ ([32] ++ dg (r : Int))
    rw [List.append_assoc]
  have dl := dg_len12 (n := r) (by omega)
  refine ⟨?_, ?_, ?_⟩
  · rw [e]
    unfold tokRow
    rw [TL.spl_join (by simp) (fun p hp => ?_)]
    · show (match allN [dg (r : Int)] with | none => none | some ns => tokK t.k ns) = none
      have : allN [dg (r : Int)] = some [r] := allN_dgs (ns := [r]) fun m hm => by rw [List.mem_singleton.mp hm]; omega
      rw [this]
      show tokK t.k [r] = none
      have k0 : (t.k, 0) ∈ kinds := by
        rcases b.kd with ⟨_, z⟩ | z
        · rw [h0] at z; exact absurd z (by decide)
        · rw [h0] at z; exact z
      unfold tokK
      rw [if_neg (kind_no _ k0).1, if_neg]
      intro z
      have z : (t.k, 1) ∈ kinds := z
      rw [kinds_mem] at k0 z
      rw [k0] at z
      cases z
    · rcases List.mem_cons.mp hp with rfl | hp
      · exact kn.1
      · rw [List.mem_singleton.mp hp]
        exact fun z => (fig_no (dg_fig _ z)).1 rfl
  · intro m
    rcases List.mem_append.mp m with m | m
    · rcases List.mem_append.mp m with m | m
      · exact kn.2.1 m
      · exact absurd (List.mem_singleton.mp m) (by decide)
    · exact (fig_no (dg_fig _ m)).2 rfl
  · have := kn.2.2
    simp; omega
theorem mid_wr {t : To} (b : t.Ok) {i : Nat} {v : W} (hv : n12 v = none ∧ 32 ∉ v ∧ 10 ∉ v ∧ v.length ≤ 24) (hi : i < t.ns.length) : Wr (TL.joinL [32] (t.k :: ((dgs t.ns).take i ++ [v] ++ (dgs t.ns).drop (i + 1)))) := by
  have kn := kd_no b.kd
  have mem : ∀ x ∈ (dgs t.ns).take i ++ [v] ++ (dgs t.ns).drop (i + 1), 32 ∉ x ∧ 10 ∉ x ∧ x.length ≤ 24 := by
    have d : ∀ x ∈ dgs t.ns, 32 ∉ x ∧ 10 ∉ x ∧ x.length ≤ 24 := fun x m => by
      obtain ⟨y, hy, rfl⟩ := List.mem_map.mp m
      exact ⟨fun z => (fig_no (dg_fig _ z)).1 rfl, fun z => (fig_no (dg_fig _ z)).2 rfl, by have := (dg_len12 (b.lt y hy)).2; omega⟩
    intro x m
    rcases List.mem_append.mp m with m | m
    · rcases List.mem_append.mp m with m | m
      · exact d x (List.mem_of_mem_take m)
      · rw [List.mem_singleton.mp m]; exact hv.2
    · exact d x (List.mem_of_mem_drop m)
  refine ⟨tok_none kn.1 (fun x m => (mem x m).1) (w := v) (by simp) hv.1, fun m => ?_, ?_⟩
  · rcases mem_join m with m | ⟨l, ml, m⟩
    · exact absurd (List.mem_singleton.mp m) (by decide)
    · rcases List.mem_cons.mp ml with rfl | ml
      · exact kn.2.1 m
      · exact (mem l ml).2.1 m
  · have few := b.few
    have jl := join_len [32] 24 (t.k :: ((dgs t.ns).take i ++ [v] ++ (dgs t.ns).drop (i + 1))) fun l ml => by
      rcases List.mem_cons.mp ml with rfl | ml
      · have := kn.2.2; omega
      · exact (mem l ml).2.2
    have n0 : (t.k :: ((dgs t.ns).take i ++ [v] ++ (dgs t.ns).drop (i + 1))).length ≤ 12 := by simp [dgs]; omega
    have : (t.k :: ((dgs t.ns).take i ++ [v] ++ (dgs t.ns).drop (i + 1))).length * (24 + [32].length) ≤ 12 * (24 + 1) := Nat.mul_le_mul_right _ n0
    omega
theorem number_sp {t : To} (b : t.Ok) (hd : Hnd a h) (q : ∀ w, Wr w → ∀ h', Hx a h h' → Q (.str (mkS w)) h') : callN P (n+3) 134 [.adr a, .str (mkS t.row)] h Q := by
  refine call_of U.f__law_spoilt_number rfl ?_
  show WpSs (ctxOf P (callN P (n+2))) b_law_spoilt_number _ [.val (.adr a), .val (.str (mkS t.row)), .no, .no, .no, .no] h
  have hz1 := sz1
  have few := b.few
  have rl := row_len b
  have kn := kd_no b.kd
  have sp : (Txt.split (mkS t.row) (mkS [32])).map AV.str = wl (t.k :: dgs t.ns) := by
    rw [split_gen (by decide), row_split b, List.map_map]; rfl
  have dl : (dgs t.ns).length = t.ns.length := List.length_map ..
  push_cast [b_law_spoilt_number, xlits, mkS_len, sp, k_lenL, wl_len, List.length_cons, dl]
  refine ⟨rfl, by omega, ?_⟩
  refine ite_b (fun c => ?_) (fun c => ?_)
  · have h0 : t.ns = [] := List.length_eq_zero_iff.mp (by omega)
    have er : t.row = t.k := by unfold To.row; rw [h0]; rfl
    rw [er]
    push_cast [xlits, mkS_len, mkS_app, List.length_append, List.length_cons, List.length_nil]
    refine ⟨by omega, ?_⟩
    refine take_ok hd (by decide) fun r h1 y1 hr => ?_
    have dr := dg_len12 (n := r) (by omega)
    push_cast [dg_str, mkS_len, mkS_app, List.length_append, List.length_cons, List.length_nil]
    refine ⟨dg_log (by omega), by omega, ?_⟩
    exact q _ (one_wr b h0 (by omega)) _ y1
  · have e0 : (((t.ns.length + 1 : Nat) : Int) - 1) = ((t.ns.length : Nat) : Int) := by omega
    push_cast [b_law_spoilt_number_1, k_lenL, wl_len, List.length_cons, dl, e0]
    refine take_ok hd (by omega) fun i h1 y1 hi => ?_
    have hi : i < t.ns.length := by omega
    have e1 : (1 : Int) + (i : Int) = ((1 + i : Nat) : Int) := by omega
    have gd : (dgs t.ns)[i]? = some (dg ((t.ns[i] : Nat) : Int)) := by unfold dgs; rw [List.getElem?_map, List.getElem?_eq_getElem hi]; rfl
    have lt := b.lt _ (List.getElem_mem hi)
    have d12 := dg_len12 lt
    have ok := turn_ok (w := dg ((t.ns[i] : Nat) : Int)) (fun z => by rw [z] at d12; exact absurd d12.1 (by decide)) dg_fig d12.2
    push_cast [e1]
    refine k_subL (h := h1) viewT_lst (fun _ z => by cases z) (wl_at (ws := t.k :: dgs t.ns) (i := 1 + i) (by rw [Nat.add_comm, List.getElem?_cons_succ]; exact gd)) ?_
    generalize dg ((t.ns[i] : Nat) : Int) = w at *
    obtain ⟨l1, l2, l3, l4, l5, l6, l7, l8, l9, lb⟩ := xlens
    have eA : ([.str (mkS (x1 ++ w)), .str (mkS (x2 ++ w)), .str (mkS (x3 ++ w)), .str (mkS (w ++ x4)), .str (mkS (w ++ x5)), .str (mkS (w ++ x6)), .str (mkS (w ++ x7)), .str (mkS (w ++ x8))] : List AV) = wl (turnA w) := rfl
    have eB : ([.str (mkS (w ++ x9)), .str (mkS (x9 ++ w)), .str (mkS []), .str (mkS (w ++ xb))] : List AV) = wl (turnB w) := rfl
    have nA : (turnA w).length = 8 := rfl
    have nB : (turnB w).length = 4 := rfl
    push_cast [xlits, mkS_len, mkS_app, List.length_append, l1, l2, l3, l4, l5, l6, l7, l8, l9, lb]
    rw [eA]
    refine ⟨by omega, by omega, by omega, by omega, by omega, by omega, by omega, by omega, (show 8 ≤ sizeLine by decide), ?_⟩
    refine ⟨by omega, by omega, by omega, (show 4 ≤ sizeLine by decide), ?_⟩
    rw [eB]
    push_cast [viewW_lst, wl_app, wl_len, nA, nB, List.length_append]
    refine ⟨by omega, ?_⟩
    refine take_ok y1.hand (by decide) fun r h2 y2 hr => ?_
    refine k_pickW (xs := turnA w ++ turnB w) (by rw [List.length_append, nA, nB]; exact hr) fun v hv => ?_
    have vo := ok v hv
    have e2 : ((1 + i : Nat) : Int) + 1 = ((2 + i : Nat) : Int) := by omega
    have c1 : cut (wl (t.k :: dgs t.ns)) none (some ((1 + i : Nat) : Int)) = wl (t.k :: (dgs t.ns).take i) := by
      rw [cut_ns, Nat.add_comm]; unfold wl; rw [List.map_cons, List.take_succ_cons, List.map_cons, List.map_take]
    have c2 : cut (wl (t.k :: dgs t.ns)) (some ((2 + i : Nat) : Int)) none = wl ((dgs t.ns).drop (i + 1)) := by
      rw [cut_sn, show 2 + i = (i + 1) + 1 by omega]; unfold wl; rw [List.map_cons, List.drop_succ_cons, List.map_drop]
    have ev : ([.str (mkS v)] : List AV) = wl [v] := rfl
    push_cast [view_lst, viewW_lst, e2, c1, c2, ev, wl_app, wl_len, List.length_append, List.length_cons, List.length_nil, List.length_take, List.length_drop, dl]
    refine ⟨by omega, by omega, by omega, ?_⟩
    have wr := mid_wr b vo hi
    have ej : t.k :: (dgs t.ns).take i ++ [v] ++ (dgs t.ns).drop (i + 1) = t.k :: ((dgs t.ns).take i ++ [v] ++ (dgs t.ns).drop (i + 1)) := rfl
    rw [ej]
    have nl : (t.k :: ((dgs t.ns).take i ++ [v] ++ (dgs t.ns).drop (i + 1))).length ≤ 12 := by simp [dgs]; omega
    refine k_joinB (b := 24) (c := 12) viewT_lst (fun x m => ?_) nl (by decide) (q _ wr _ (y1.trans y2))
    rcases List.mem_cons.mp m with rfl | m
    · have := kn.2.2; omega
    · rcases List.mem_append.mp m with m | m
      · rcases List.mem_append.mp m with m | m
        · obtain ⟨y, hy, rfl⟩ := List.mem_map.mp (List.mem_of_mem_take m)
          have := (dg_len12 (b.lt y hy)).2; omega
        · rw [List.mem_singleton.mp m]; exact vo.2.2.2
      · obtain ⟨y, hy, rfl⟩ := List.mem_map.mp (List.mem_of_mem_drop m)
        have := (dg_len12 (b.lt y hy)).2; omega
end
end K24

set_option maxRecDepth 100000
set_option maxHeartbeats 400000
namespace K24
open PySem L2 VL Wd Tm Tw Hd PaL Pa ShL Gp
local macro_rules
  | `(tactic| push_cast [$xs,*]) => `(tactic| try simp only [$xs,*, WpSs, WpS, WpE, WpEs, WpBs, WpO, WpN, WpI, WpC, WpT, getS, setS, tgK, setsS, wipeS, k_add, k_addT, k_sub, k_mul, k_fdiv, k_mod, k_neg, k_lt, k_le, k_gt, k_ge, k_eqI, k_neI, k_eqS, k_neS, k_eqB, k_neB, k_is, k_isn, k_isB, k_isnB, k_gIn, ctx_gdct, isNon_non, isNon_int, isNon_str, isNon_lst, isNon_tup, isNon_adr, k_lenS, k_lenL, k_lenR, k_lenT, k_int, k_str, k_abs, tru_bl, augK, ctx_call, ctx_glob, k_in, k_nin, k_inS, k_addS, k_intB, isi_non_int, isi_non_bool, isi_non_str, isi_non_list, isi_non_tuple, isi_bl_int, isi_bl_bool, isi_bl_str, isi_bl_list, isi_bl_tuple, isi_int_int, isi_int_bool, isi_int_str, isi_int_list, isi_int_tuple, isi_str_int, isi_str_bool, isi_str_str, isi_str_list, isi_str_tuple, isi_tup_int, isi_tup_bool, isi_tup_str, isi_tup_list, isi_tup_tuple, isi_lst_int, isi_lst_bool, isi_lst_str, isi_lst_list, isi_lst_tuple, isi_ro_int, isi_ro_bool, isi_ro_str, isi_ro_list, isi_ro_tuple])
theorem mid_at {α : Type} {l : List α} {k : Nat} {x : α} (hk : k < l.length) (i : Nat) : (l.take k ++ [x] ++ l.drop (k + 1))[i]? = if i = k then some x else l[i]? := by
  have lt : (l.take k).length = k := by rw [List.length_take]; omega
  rw [List.append_assoc]
  by_cases c : i < k
  · rw [List.getElem?_append_left (by omega), List.getElem?_take_of_lt c, if_neg (by omega)]
  · rw [List.getElem?_append_right (by omega), lt]
    by_cases e : i = k
    · subst e; simp
    · rw [if_neg e, List.getElem?_append_right (by simp; omega), List.getElem?_drop]
      congr 1
      simp
      omega
theorem mid_mem {α : Type} {l : List α} {k : Nat} {x y : α} (h : y ∈ l.take k ++ [x] ++ l.drop (k + 1)) : y = x ∨ y ∈ l := by
  rcases List.mem_append.mp h with h | h
  · rcases List.mem_append.mp h with h | h
    · exact .inr (List.mem_of_mem_take h)
    · exact .inl (List.mem_singleton.mp h)
  · exact .inr (List.mem_of_mem_drop h)
theorem cnt_dg {m : Nat} (h0 : 0 < m) (h1 : m < 1000000000000) : cntOf (wText ++ dg (m : Int)) = some m := by
  unfold cntOf
  have c1 : (wText ++ dg (m : Int)).take 5 = wText := List.take_left (l₁ := wText)
  have c2 : (wText ++ dg (m : Int)).drop 5 = dg (m : Int) := List.drop_left (l₁ := wText)
  rw [if_pos c1, c2, dg_n12 h1]
  cases m with
  | zero => omega
  | succ m => rfl
theorem p_cnt {p : Pp} (b : p.Ok) : cntOf (p.rows[0]?.getD []) = some p.ls.length := by
  rw [rows_0]
  exact cnt_dg (List.length_pos_iff.mpr b.l0) (by have := b.l1; omega)
theorem p_nam {p : Pp} : (p.rows[p.ls.length + 1]?.getD []).take 5 = wProc := by
  rw [rows_n]
  exact List.take_left (l₁ := wProc)
theorem p_tok {p : Pp} (b : p.Ok) {i : Nat} (hi : i < p.ts.length) : ∃ t, tokRow (p.rows[p.ls.length + 2 + i]?.getD []) = some t := by
  rw [rows_t, List.getElem?_eq_getElem hi]
  refine ⟨p.ts[i], ?_⟩
  have bt := b.ok _ (List.getElem_mem hi)
  show tokRow (p.ts[i]).row = _
  unfold tokRow
  rw [row_split bt, tok_back bt]
/-- the rows spoilt -/
structure Sp (rows : List W) (r : Nat) : Prop where
  bad : Bad rows (if r = 0 then rows.length else r)
  ne : rows ≠ []
  ok : ∀ l ∈ rows, 10 ∉ l ∧ l.length ≤ 300
  few : rows.length ≤ 220
theorem p_ok {p : Pp} (b : p.Ok) : ∀ l ∈ p.rows, 10 ∉ l ∧ l.length ≤ 300 := fun l m => ⟨rows_no b l m, by have := row_lens b l m; omega⟩
theorem p_few {p : Pp} (b : p.Ok) : p.rows.length = p.ls.length + 2 + p.ts.length ∧ 0 < p.ls.length ∧ p.ls.length ≤ 100 ∧ 0 < p.ts.length ∧ p.ts.length ≤ 100 :=
  ⟨rows_len b, List.length_pos_iff.mpr b.l0, b.l1, List.length_pos_iff.mpr b.t0, b.t1⟩
theorem sp_first {p : Pp} (b : p.Ok) {w : W} (h : cntOf w = none ∧ 10 ∉ w ∧ w.length ≤ 40) : Sp (w :: p.rows.drop 1) 1 := by
  obtain ⟨f1, f2, f3, f4, f5⟩ := p_few b
  refine ⟨.cnt h.1, by simp, fun l m => ?_, by simp; omega⟩
  rcases List.mem_cons.mp m with rfl | m
  · exact ⟨h.2.1, by have := h.2.2; omega⟩
  · exact p_ok b l (List.mem_of_mem_drop m)
theorem sp_count {p : Pp} (b : p.Ok) {c : Nat} (h0 : p.rows.length ≤ c + 1) (h1 : c < 1000000000000) : Sp ((wText ++ dg (c : Int)) :: p.rows.drop 1) (p.rows.length + 1) := by
  obtain ⟨f1, f2, f3, f4, f5⟩ := p_few b
  have l : ((wText ++ dg (c : Int)) :: p.rows.drop 1).length = p.rows.length := by simp; omega
  have e : cntOf ((((wText ++ dg (c : Int)) :: p.rows.drop 1)[0]?).getD []) = some c := cnt_dg (by omega) h1
  have := Bad.few (rows := (wText ++ dg (c : Int)) :: p.rows.drop 1) c e (by rw [l]; omega)
  rw [l] at this
  refine ⟨by rw [if_neg (by omega)]; exact this, by simp, fun l m => ?_, by rw [l]; omega⟩
  have d12 := (dg_len12 h1).2
  rcases List.mem_cons.mp m with rfl | m
  · refine ⟨fun m => ?_, by have : wText.length = 5 := rfl; rw [List.length_append]; omega⟩
    rcases List.mem_append.mp m with m | m
    · exact absurd m (by decide)
    · exact (fig_no (dg_fig _ m)).2 rfl
  · exact p_ok b l (List.mem_of_mem_drop m)
theorem sp_name {p : Pp} (b : p.Ok) {w : W} (h : w.take 5 ≠ wProc ∧ 10 ∉ w ∧ w.length ≤ 40) : Sp (p.rows.take (p.ls.length + 1) ++ [w] ++ p.rows.drop (p.ls.length + 2)) (p.ls.length + 2) := by
  obtain ⟨f1, f2, f3, f4, f5⟩ := p_few b
  have hk : p.ls.length + 1 < p.rows.length := by omega
  have at_ := fun i => mid_at (x := w) hk i
  have l : (p.rows.take (p.ls.length + 1) ++ [w] ++ p.rows.drop (p.ls.length + 2)).length = p.rows.length := by simp; omega
  refine ⟨?_, by simp, fun l m => ?_, by rw [l]; omega⟩
  · rw [if_neg (by omega)]
    refine .nam p.ls.length ?_ (by rw [l]; omega) ?_
    · rw [at_ 0, if_neg (by omega)]; exact p_cnt b
    · rw [at_, if_pos rfl]; exact h.1
  · rcases mid_mem m with rfl | m
    · exact ⟨h.2.1, by have := h.2.2; omega⟩
    · exact p_ok b l m
theorem take_at {α : Type} (l : List α) {k i : Nat} (h : i < k) : (l.take k)[i]? = l[i]? := List.getElem?_take_of_lt h
theorem sp_cut {p : Pp} (b : p.Ok) {k : Nat} (h0 : 0 < k) (h1 : k ≤ p.ls.length + 2) : Sp (p.rows.take k) (k + 1) := by
  obtain ⟨f1, f2, f3, f4, f5⟩ := p_few b
  have l : (p.rows.take k).length = k := by rw [List.length_take]; omega
  have ec : cntOf ((p.rows.take k)[0]?.getD []) = some p.ls.length := by rw [take_at _ h0]; exact p_cnt b
  refine ⟨?_, fun z => by rw [z] at l; simp at l; omega, fun x m => p_ok b x (List.mem_of_mem_take m), by rw [l]; omega⟩
  rw [if_neg (by omega)]
  have fin : Bad (p.rows.take k) ((p.rows.take k).length + 1) := by
    by_cases c : k = p.ls.length + 2
    · refine .non p.ls.length ec ?_ (by rw [l]; exact c)
      rw [take_at _ (by omega)]
      exact p_nam
    · exact .few p.ls.length ec (by rw [l]; omega)
  rw [l] at fin
  exact fin
theorem sp_empty : Sp [[]] 0 := by
  refine ⟨.cnt (by decide +kernel), by simp, fun l m => ?_, by decide⟩
  rw [List.mem_singleton.mp m]
  exact ⟨by simp, by simp⟩
theorem sp_more {p : Pp} (b : p.Ok) : Sp (p.rows ++ [[]]) 0 := by
  obtain ⟨f1, f2, f3, f4, f5⟩ := p_few b
  have at_ : ∀ i, i < p.rows.length → (p.rows ++ [[]])[i]? = p.rows[i]? := fun i hi => List.getElem?_append_left hi
  refine ⟨?_, by simp, fun l m => ?_, by simp; omega⟩
  · have e : (if (0 : Nat) = 0 then (p.rows ++ [[]]).length else 0) = p.ls.length + 2 + p.ts.length + 1 := by simp; omega
    rw [e]
    refine .tok p.ls.length p.ts.length ?_ ?_ (by simp; omega) (fun i hi => ?_) ?_
    · rw [at_ 0 (by omega)]; exact p_cnt b
    · rw [at_ _ (by omega)]; exact p_nam
    · rw [at_ _ (by omega)]; exact p_tok b hi
    · rw [← f1, List.getElem?_append_right (Nat.le_refl _), Nat.sub_self]
      exact (by decide +kernel : tokRow [] = none)
  · rcases List.mem_append.mp m with m | m
    · exact p_ok b l m
    · rw [List.mem_singleton.mp m]
      exact ⟨by simp, by simp⟩
theorem sp_tok {p : Pp} (b : p.Ok) {w : W} (h : Wr w) {i : Nat} (hi : i < p.ts.length) : Sp (p.rows.take (p.ls.length + 2 + i) ++ [w] ++ p.rows.drop (p.ls.length + 2 + i + 1)) (p.ls.length + 2 + i + 1) := by
  obtain ⟨f1, f2, f3, f4, f5⟩ := p_few b
  have hk : p.ls.length + 2 + i < p.rows.length := by omega
  have at_ := fun j => mid_at (x := w) hk j
  have l : (p.rows.take (p.ls.length + 2 + i) ++ [w] ++ p.rows.drop (p.ls.length + 2 + i + 1)).length = p.rows.length := by simp; omega
  refine ⟨?_, by simp, fun l m => ?_, by rw [l]; omega⟩
  · rw [if_neg (by omega)]
    refine .tok p.ls.length i ?_ ?_ (by rw [l]; omega) (fun j hj => ?_) ?_
    · rw [at_ 0, if_neg (by omega)]; exact p_cnt b
    · rw [at_, if_neg (by omega)]; exact p_nam
    · rw [at_, if_neg (by omega)]; exact p_tok b (by omega)
    · rw [at_, if_pos rfl]; exact h.t
  · rcases mid_mem m with rfl | m
    · exact ⟨h.n, h.l⟩
    · exact p_ok b l m
section
variable {P : Prg} [Hd.U P] [Pa.U P] [Gp.U P] [U P] {n a : Nat} {h : AHeap} {Q : AV → AHeap → Prop}
theorem spoilt_ok {p : Pp} (b : p.Ok) (hd : Hnd a h) (q : ∀ rows r, Sp rows r → ∀ h', Hx a h h' → Q (.tup [.lst (wl rows), .int (r : Int)]) h') : callN P (n+4) 135 [.adr a, .lst (wl p.rows), .int (p.ls.length : Int)] h Q := by
  refine call_of U.f__law_spoilt rfl ?_
  show WpSs (ctxOf P (callN P (n+3))) b_law_spoilt _ [.val (.adr a), .val (.lst (wl p.rows)), .val (.int (p.ls.length : Int)), .no, .no, .no, .no, .no, .no] h
  have hz1 := sz1
  obtain ⟨f1, f2, f3, f4, f5⟩ := p_few b
  have w1 : ∀ w : W, ([AV.str (mkS w)] : List AV) = wl [w] := fun _ => rfl
  have ef : (p.ls.length : Int) + 2 = ((p.ls.length + 2 : Nat) : Int) := by omega
  have cd1 : cut (wl p.rows) (some 1) none = wl (p.rows.drop 1) := (cut_sn (wl p.rows) 1).trans (by unfold wl; rw [List.map_drop])
  push_cast [b_law_spoilt, ef]
  refine take_ok hd (by decide) fun k h1 y1 hk => ?_
  push_cast [WpSs]
  refine ite_b (fun _ => ?_) (fun _ => ?_)
  · refine first_ok (n := n) y1.hand f3 fun w mw h2 y2 => ?_
    have wo := wFirsts_ok ⟨p.ls.length, by omega⟩ w mw
    push_cast [view_lst, viewW_lst, cd1, w1, wl_app, wl_len, List.length_cons, List.length_nil, List.length_drop]
    refine ⟨by omega, by omega, by omega, ?_⟩
    exact q _ 1 (sp_first b wo) _ (y1.trans y2)
  push_cast [b_law_spoilt_5]
  refine ite_b (fun _ => ?_) (fun _ => ?_)
  · push_cast [k_lenL, wl_len, List.length_cons, List.length_nil]
    refine ⟨by omega, ?_⟩
    refine pick_ok (n := n + 1) y1.hand (show 0 < 4 by decide) (show 4 < 100000 by decide) fun v mv h2 y2 => ?_
    have ev : ∃ c : Nat, v = .int (c : Int) ∧ p.rows.length ≤ c + 1 ∧ c < 1000000000000 := by
      simp only [List.mem_cons, List.not_mem_nil, or_false] at mv
      rcases mv with rfl | rfl | rfl | rfl
      · exact ⟨p.rows.length - 1, by congr 1; omega, by omega, by omega⟩
      · exact ⟨p.rows.length, rfl, by omega, by omega⟩
      · exact ⟨p.rows.length + 1, by congr 1, by omega, by omega⟩
      · exact ⟨999999999999, rfl, by omega, by omega⟩
    obtain ⟨c, rfl, c1, c2⟩ := ev
    have d12 := (dg_len12 c2).2
    have wt : wText.length = 5 := rfl
    have el : ((p.rows.length : Nat) : Int) + 1 = ((p.rows.length + 1 : Nat) : Int) := by omega
    push_cast [plits, dg_str, mkS_len, mkS_app, view_lst, viewW_lst, cd1, w1, wl_app, wl_len, List.length_append, List.length_cons, List.length_nil, List.length_drop, el]
    refine ⟨dg_log c2, by omega, by omega, by omega, by omega, ?_⟩
    exact q _ _ (sp_count b c1 c2) _ (y1.trans y2)
  push_cast [b_law_spoilt_4]
  refine ite_b (fun _ => ?_) (fun _ => ?_)
  · have e1 : ((p.ls.length + 2 : Nat) : Int) - 1 = ((p.ls.length + 1 : Nat) : Int) := by omega
    have c1 : cut (wl p.rows) none (some ((p.ls.length + 1 : Nat) : Int)) = wl (p.rows.take (p.ls.length + 1)) := (cut_ns _ _).trans (by unfold wl; rw [List.map_take])
    have c2 : cut (wl p.rows) (some ((p.ls.length + 2 : Nat) : Int)) none = wl (p.rows.drop (p.ls.length + 2)) := (cut_sn _ _).trans (by unfold wl; rw [List.map_drop])
    push_cast [e1, view_lst, c1]
    refine name_ok (n := n) y1.hand fun w mw h2 y2 => ?_
    push_cast [viewW_lst, c2, w1, wl_app, wl_len, List.length_append, List.length_cons, List.length_nil, List.length_take, List.length_drop, view_lst]
    refine ⟨by omega, by omega, by omega, by omega, ?_⟩
    exact q _ _ (sp_name b (wNames_ok w mw)) _ (y1.trans y2)
  push_cast [b_law_spoilt_3]
  refine ite_b (fun _ => ?_) (fun _ => ?_)
  · refine take_ok y1.hand (by omega) fun r h2 y2 hr => ?_
    have e1 : (1 : Int) + (r : Int) = ((1 + r : Nat) : Int) := by omega
    have e2 : ((1 + r : Nat) : Int) + 1 = ((1 + r + 1 : Nat) : Int) := by omega
    have c1 : cut (wl p.rows) none (some ((1 + r : Nat) : Int)) = wl (p.rows.take (1 + r)) := (cut_ns _ _).trans (by unfold wl; rw [List.map_take])
    push_cast [e1, e2, view_lst, c1, List.length_cons, List.length_nil]
    refine ⟨by omega, ?_⟩
    exact q _ _ (sp_cut b (by omega) (by omega)) _ (y1.trans y2)
  push_cast [b_law_spoilt_2]
  refine ite_b (fun _ => ?_) (fun _ => ?_)
  · have em : ([AV.str ""] : List AV) = wl [[]] := rfl
    push_cast [em, viewW_lst, wl_app, wl_len, List.length_cons, List.length_nil]
    refine ⟨by omega, by omega, by omega, by omega, ?_⟩
    refine take_ok y1.hand (by decide) fun r h2 y2 hr => ?_
    refine k_pickF (fun ls => AV.lst (wl ls)) (xs := [p.rows ++ [[]], [[]]]) (by simpa using hr) fun v hv => ?_
    push_cast [List.length_cons, List.length_nil]
    refine ⟨by omega, ?_⟩
    simp only [List.mem_cons, List.not_mem_nil, or_false] at hv
    rcases hv with rfl | rfl
    · exact q _ 0 (sp_more b) _ (y1.trans y2)
    · exact q _ 0 sp_empty _ (y1.trans y2)
  have e0 : ((p.rows.length : Nat) : Int) - ((p.ls.length + 2 : Nat) : Int) = ((p.ts.length : Nat) : Int) := by omega
  push_cast [b_law_spoilt_1, k_lenL, wl_len, e0]
  refine take_ok y1.hand (by omega) fun i h2 y2 hi => ?_
  have hi : i < p.ts.length := by omega
  have e1 : ((p.ls.length + 2 : Nat) : Int) + (i : Int) = ((p.ls.length + 2 + i : Nat) : Int) := by omega
  have e2 : ((p.ls.length + 2 + i : Nat) : Int) + 1 = ((p.ls.length + 2 + i + 1 : Nat) : Int) := by omega
  have c1 : cut (wl p.rows) none (some ((p.ls.length + 2 + i : Nat) : Int)) = wl (p.rows.take (p.ls.length + 2 + i)) := (cut_ns _ _).trans (by unfold wl; rw [List.map_take])
  have c2 : cut (wl p.rows) (some ((p.ls.length + 2 + i + 1 : Nat) : Int)) none = wl (p.rows.drop (p.ls.length + 2 + i + 1)) := (cut_sn _ _).trans (by unfold wl; rw [List.map_drop])
  push_cast [e1]
  refine tokw_ok (n := n) y2.hand fun w mw h3 y3 => ?_
  push_cast [WpSs]
  have ht : p.ts[i]? = some p.ts[i] := List.getElem?_eq_getElem hi
  refine k_subL (h := h3) viewT_lst (fun _ z => by cases z) (wl_at (w := p.ts[i].row) (by rw [rows_t, ht]; rfl)) ?_
  refine number_sp (n := n) (b.ok _ (List.getElem_mem hi)) y3.hand fun w2 wr2 h4 y4 => ?_
  push_cast [List.length_cons, List.length_nil]
  refine ⟨by omega, ?_⟩
  refine take_ok y4.hand (by decide) fun r h5 y5 hr => ?_
  refine k_pickW (xs := [w, w2]) (by simpa using hr) fun v hv => ?_
  have wv : Wr v := by
    have wo := wToks_ok w mw
    simp only [List.mem_cons, List.not_mem_nil, or_false] at hv
    rcases hv with rfl | rfl
    · exact ⟨wo.1, wo.2.1, by have := wo.2.2; omega⟩
    · exact wr2
  push_cast [view_lst, viewW_lst, e2, c1, c2, w1, wl_app, wl_len, List.length_append, List.length_cons, List.length_nil, List.length_take, List.length_drop]
  refine ⟨by omega, by omega, by omega, by omega, ?_⟩
  exact q _ _ (sp_tok b wv hi) _ ((((y1.trans y2).trans y3).trans y4).trans y5)
end
end K24

set_option maxRecDepth 100000
set_option maxHeartbeats 400000
namespace K24
open PySem L2 VL Wd Tm Tw Hd PaL Pa ShL Gp
local macro_rules
  | `(tactic| push_cast [$xs,*]) => `(tactic| try simp only [$xs,*, WpSs, WpS, WpE, WpEs, WpBs, WpO, WpN, WpI, WpC, WpT, getS, setS, tgK, setsS, wipeS, k_add, k_addT, k_sub, k_mul, k_fdiv, k_mod, k_neg, k_lt, k_le, k_gt, k_ge, k_eqI, k_neI, k_eqS, k_neS, k_eqB, k_neB, k_is, k_isn, k_isB, k_isnB, k_gIn, ctx_gdct, isNon_non, isNon_int, isNon_str, isNon_lst, isNon_tup, isNon_adr, k_lenS, k_lenL, k_lenR, k_lenT, k_int, k_str, k_abs, tru_bl, augK, ctx_call, ctx_glob, k_in, k_nin, k_inS, k_addS, k_intB, isi_non_int, isi_non_bool, isi_non_str, isi_non_list, isi_non_tuple, isi_bl_int, isi_bl_bool, isi_bl_str, isi_bl_list, isi_bl_tuple, isi_int_int, isi_int_bool, isi_int_str, isi_int_list, isi_int_tuple, isi_str_int, isi_str_bool, isi_str_str, isi_str_list, isi_str_tuple, isi_tup_int, isi_tup_bool, isi_tup_str, isi_tup_list, isi_tup_tuple, isi_lst_int, isi_lst_bool, isi_lst_str, isi_lst_list, isi_lst_tuple, isi_ro_int, isi_ro_bool, isi_ro_str, isi_ro_list, isi_ro_tuple])
section
def Q1 : AV → AHeap → Prop := fun d _ => d = .bl true
abbrev D1 : Kt := { nx := fun _ h => Q1 .non h, rt := Q1 }
variable {a : Nat} {h : AHeap} {ns : List Int}
theorem row_of_ok {n : Nat} {Q : AV → AHeap → Prop} {rows : List W} {r : Nat} (b : Bad rows r) (h0 : rows ≠ []) (ho : ∀ l ∈ rows, 10 ∉ l ∧ l.length ≤ 300) (hn : rows.length ≤ 400) (q : Q (.int (r : Int)) h) : callN P (n+3) 137 [.str (mkS (TL.joinL [10] rows))] h Q := by
  refine try_of (xs := [.str (mkS (TL.joinL [10] rows))]) U.n__law_row_of U.t__law_row_of rfl rfl ?_
  refine read_bad (n := n) b h0 (fun l m => (ho l m).1) (fun l m => by have := (ho l m).2; omega) hn ?_
  exact q
/-- rows and the number of the first wrong one, as the law holds them -/
structure Sr (rows : List W) (r : Nat) : Prop where
  bad : Bad rows r
  ne : rows ≠ []
  ok : ∀ l ∈ rows, 10 ∉ l ∧ l.length ≤ 300
  few : rows.length ≤ 220
theorem Sr.cut {rows : List W} {r : Nat} (s : Sr rows r) (hr : r ≤ rows.length) : Sr (rows.take r) r := by
  have p := s.bad.pos
  refine ⟨s.bad.same hr fun i hi => take_at _ hi, fun z => ?_, fun l m => s.ok l (List.mem_of_mem_take m), by rw [List.length_take]; have := s.few; omega⟩
  have := congrArg List.length z
  rw [List.length_take] at this
  simp at this
  rcases this with e | e
  · omega
  · exact s.ne e
theorem Sr.mid {rows : List W} {r k : Nat} {w : W} (s : Sr rows r) (h1 : r ≤ k) (h2 : k < rows.length) (hw : 10 ∉ w ∧ w.length ≤ 300) : Sr (rows.take k ++ [w] ++ rows.drop (k + 1)) r := by
  refine ⟨s.bad.same (by omega) fun i hi => ?_, by simp, fun l m => ?_, by have := s.few; simp; omega⟩
  · rw [mid_at h2, if_neg (by omega)]
  · rcases mid_mem m with rfl | m
    · exact hw
    · exact s.ok l m
theorem lkT (a b c : AV) : List.lookup ("text" : Str) [("text", a), ("name", b), ("tokens", c)] = some a ∧ List.lookup ("name" : Str) [("text", a), ("name", b), ("tokens", c)] = some b ∧ List.lookup ("tokens" : Str) [("text", a), ("name", b), ("tokens", c)] = some c := ⟨rfl, rfl, rfl⟩
theorem ctx_fld {n : Nat} : (ctxOf P (callN P n)).fld 0 "text" = true ∧ (ctxOf P (callN P n)).fld 0 "name" = true ∧ (ctxOf P (callN P n)).fld 0 "tokens" = true := ⟨Pa.U.d_0_text, Pa.U.d_0_name, Pa.U.d_0_tokens⟩
/-- a drawn paper -/
structure Pq (p : Pp) : Prop where
  ok : p.Ok
  sm : Sm p.tx p.nm p.ts
abbrev En (ns : List Int) (p : Pp) (s7 s8 s9 s10 s11 s12 : Slot) : VL.Env := [.val (.ro (ns.map AV.int)), .val (.adr 0), .val (.lst (wl p.ls)), .val (.str (mkS p.nm)), .val (.tup (p.ts.map To.av)), .val (.lst (wl p.rows)), .val (.str (pdP p.tx p.nm p.ts).shown), s7, s8, s9, s10, s11, s12]
theorem tail_ok {p : Pp} {D' : Kt} {s7 s8 s11 s12 : Slot} {rows : List W} {r : Nat} (s : Sr rows r) (kn : D'.nx (En ns p s7 s8 (.val (.lst (wl rows))) (.val (.int (r : Int))) s11 s12) h) :
    WpSs (ctxOf P (callN P 13)) b_law_1 D' (En ns p s7 s8 (.val (.lst (wl rows))) (.val (.int (r : Int))) s11 s12) h := by
  have hz := sz1
  have few := s.few
  push_cast [b_law_1, plits]
  refine k_joinB (b := 300) (c := 220) viewT_lst (fun l m => (s.ok l m).2) few (by decide) ?_
  refine row_of_ok (n := 10) s.bad s.ne s.ok (by omega) ?_
  push_cast [decide_true, Bool.not_true, Bool.false_eq_true, if_false, plits]
  refine k_joinB (b := 300) (c := 220) viewT_lst (fun l m => (s.ok l m).2) few (by decide) ?_
  refine row_of_ok (n := 10) s.bad s.ne s.ok (by omega) ?_
  push_cast [decide_true, Bool.not_true, Bool.false_eq_true, if_false]
  exact kn
theorem cut_t (ls : List W) (k : Nat) : cut (wl ls) none (some (k : Int)) = wl (ls.take k) := (cut_ns _ _).trans (by unfold wl; rw [List.map_take])
theorem cut_d (ls : List W) (k : Nat) : cut (wl ls) (some (k : Int)) none = wl (ls.drop k) := (cut_sn _ _).trans (by unfold wl; rw [List.map_drop])
theorem mid_part {p : Pp} (bo : p.Ok) {D' : Kt} {s7 s8 s11 s12 : Slot} {rows : List W} {r : Nat} (hd : Hnd 0 h) (s : Sr rows r) (kn : ∀ h' s9 s10 s11 s12, Hnd 0 h' → D'.nx (En ns p s7 s8 s9 s10 s11 s12) h') :
    WpSs (ctxOf P (callN P 13)) b_law_3 D' (En ns p s7 s8 (.val (.lst (wl rows))) (.val (.int (r : Int))) s11 s12) h := by
  have hz := sz1
  have few := s.few
  have rp := s.bad.pos
  obtain ⟨f1, f2, f3, f4, f5⟩ := p_few bo
  push_cast [b_law_3]
  refine take_ok hd (by decide) fun x h1 y1 hx => ?_
  push_cast [WpSs]
  -- the third part
  have part2 : ∀ (rows : List W) (s12 : Slot), Sr rows r → WpSs (ctxOf P (callN P 13)) b_law_2 D' (En ns p s7 s8 (.val (.lst (wl rows))) (.val (.int (r : Int))) (.val (.int (x : Int))) s12) h1 := by
    intro rows s12 s
    have few := s.few
    have fin : WpSs (ctxOf P (callN P 13)) b_law_1 D' (En ns p s7 s8 (.val (.lst (wl rows))) (.val (.int (r : Int))) (.val (.int (x : Int))) s12) h1 := tail_ok s (kn _ _ _ _ _ y1.hand)
    push_cast [b_law_2, k_lenL, wl_len]
    refine ite_b (fun _ => ?_) (fun _ => fin)
    refine ite_b (fun c1 => ?_) (fun _ => fin)
    refine ite_b (fun c2 => ?_) (fun _ => fin)
    have c1 : r < rows.length := by omega
    have c2 : rows.length = p.rows.length := by omega
    have em : (if (r : Int) < (p.ls.length : Int) + 2 then (p.ls.length : Int) + 2 else (r : Int)) = ((max r (p.ls.length + 2) : Nat) : Int) := by split <;> omega
    have e0 : ((rows.length : Nat) : Int) - ((max r (p.ls.length + 2) : Nat) : Int) = ((rows.length - max r (p.ls.length + 2) : Nat) : Int) := by omega
    push_cast [k_lenL, wl_len, k_max2, em, e0]
    refine take_ok y1.hand (by omega) fun y h2 y2 hy => ?_
    have e1 : ((max r (p.ls.length + 2) : Nat) : Int) + (y : Int) = ((max r (p.ls.length + 2) + y : Nat) : Int) := by omega
    have e2 : ((max r (p.ls.length + 2) + y : Nat) : Int) + 1 = ((max r (p.ls.length + 2) + y + 1 : Nat) : Int) := by omega
    have hk : max r (p.ls.length + 2) + y < rows.length := by omega
    have hr : r ≤ max r (p.ls.length + 2) + y := by omega
    generalize max r (p.ls.length + 2) + y = k at *
    push_cast [e1, view_lst, cut_t]
    refine tokw_ok (n := 10) y2.hand fun w mw h3 y3 => ?_
    have wo := wToks_ok w mw
    have w1 : ([AV.str (mkS w)] : List AV) = wl [w] := rfl
    push_cast [view_lst, viewW_lst, e2, cut_d, w1, wl_app, wl_len, List.length_append, List.length_cons, List.length_nil, List.length_take, List.length_drop]
    refine ⟨by omega, by omega, by omega, ?_⟩
    exact tail_ok (s.mid hr hk ⟨wo.2.1, by have := wo.2.2; omega⟩) (kn _ _ _ _ _ ((y1.trans y2).trans y3).hand)
  refine ite_b (fun _ => ?_) (fun _ => part2 rows s12 s)
  push_cast [k_lenL, wl_len]
  refine ite_b (fun c => ?_) (fun _ => part2 rows s12 s)
  push_cast [view_lst, cut_t]
  exact part2 _ s12 (s.cut (by omega))
theorem law_pure : ∀ ns : List Int, ns.length ≤ 63 → callN P 14 136 [.ro (ns.map AV.int)] [] fun d _ => d = .bl true := by
  intro ns hn
  have hz := sz1
  refine call_of U.f_law rfl ?_
  show WpSs (ctxOf P (callN P 13)) b_law D1 [.val (.ro (ns.map AV.int)), .no, .no, .no, .no, .no, .no, .no, .no, .no, .no, .no, .no] []
  push_cast [b_law]
  refine Hd.draws_ok (m := 220) hn (by decide) fun ds hd => ?_
  refine ⟨le2, ?_⟩
  have h0 : Hnd 0 ([] ++ [.lst [.lst (ds.map AV.int), .int 0]]) := ⟨ds, 0, rfl⟩
  show callN P 13 124 [.adr 0] _ _
  refine lines_ok (n := 10) h0 fun ls h1 x1 hl0 hl1 hll => ?_
  push_cast [WpSs]
  refine line_ok (n := 11) x1.hand fun nm h2 x2 hn => ?_
  push_cast [WpSs]
  refine tokens_ok (n := 8) x2.hand fun ts h3 x3 ht0 ht1 htt => ?_
  obtain ⟨p, hp⟩ : ∃ p : Pp, p = ⟨ls, nm, ts⟩ := ⟨_, rfl⟩
  have bo : p.Ok := by
    subst hp
    exact ⟨hl0, hl1, fun l m => ⟨(hll l m).n, (hll l m).l⟩, ⟨hn.n, hn.l⟩, ht0, ht1, fun t m => (htt t m).1⟩
  have btx : Ch p.tx ∧ p.tx.length ≤ 2200 := by
    subst hp
    refine ⟨fun c m => ?_, ?_⟩
    · rcases mem_join m with m | ⟨l, hl, m⟩
      · rw [List.mem_singleton.mp m]; decide
      · exact (hll l hl).c c m
    · have := join_len [10] 20 ls fun l m => (hll l m).l
      have e : ls.length * (20 + ([10] : W).length) ≤ 100 * 21 := Nat.mul_le_mul (by omega) (by decide)
      show (TL.joinL [10] ls).length ≤ 2200
      omega
  have s : Sm p.tx p.nm p.ts := by
    subst hp
    exact ⟨btx.1, by have := btx.2; omega, hn.c, by have := hn.l; show nm.length ≤ 100; omega, fun t m => sm_tok (htt t m).1 (htt t m).2, by show ts.length ≤ 110; omega⟩
  have e1 : ls = p.ls := by rw [hp]
  have e2 : nm = p.nm := by rw [hp]
  have e3 : ts = p.ts := by rw [hp]
  rw [e1, e2, e3]
  push_cast [WpSs]
  refine rows_ok (n := 12) bo ?_
  push_cast [plits]
  refine k_joinB (b := 20) (c := 100) viewT_lst (fun l m => (bo.ll l m).2) bo.l1 (by decide) ?_
  have etx : TL.joinL [10] p.ls = p.tx := rfl
  rw [etx]
  refine ⟨Pa.le3, ?_⟩
  refine k_repr (pdH_p h3 p.tx p.nm p.ts) ((sh_p s).ok (by decide) (by decide)) ?_
  push_cast [WpSs]
  refine ⟨by decide, ?_⟩
  refine for_inv (fun i ρ h' => Hnd 0 h' ∧ ∃ s7 s8 s9 s10 s11 s12 : Slot, ρ = En ns p s7 s8 s9 s10 s11 s12) ⟨x3.hand, _, _, _, _, _, _, rfl⟩ (fun _ _ _ _ _ => by trivial) ?_ ?_
  · rintro i x _ h5 D2 hx ⟨hd5, s7, s8, s9, s10, s11, s12, rfl⟩ kn2 kc kr kb
    push_cast [b_law_5, plits]
    refine k_joinB (b := 200) (c := 250) viewT_lst (row_lens bo) (by have := p_few bo; omega) (by decide) ?_
    refine read_paper_ok (n := 10) bo ?_
    have eB : cells (h5 ++ [pc p.tx p.nm p.ts]) h5.length = pc p.tx p.nm p.ts := Hd.cells_last h5 _
    have hd6 : Hnd 0 (h5 ++ [pc p.tx p.nm p.ts]) := (Hx.app hd5 _).hand
    generalize h5 ++ [pc p.tx p.nm p.ts] = h6 at eB hd6 ⊢
    generalize h5.length = B at eB ⊢
    have nA : cells h6 B = .obj 0 [("text", .str (mkS p.tx)), ("name", .str (mkS p.nm)), ("tokens", .tup (p.ts.map To.av))] := eB
    obtain ⟨g1, g2, g3⟩ := ctx_fld (n := 13)
    push_cast [nA, g1, g2, g3, lkT]
    refine ⟨trivial, trivial, trivial, Pa.le3, ?_⟩
    refine k_repr (pdH_p h6 p.tx p.nm p.ts) ((sh_p s).ok (by decide) (by decide)) ?_
    push_cast [decide_true, Bool.not_true, Bool.false_eq_true, if_false, b_law_4, k_lenL, wl_len]
    refine spoilt_ok (n := 9) bo hd6 fun rows r sp h7 y7 => ?_
    push_cast [WpSs]
    have few := sp.few
    refine ite_b (fun c => ?_) (fun c => ?_)
    · have c : r = 0 := by omega
      have b := sp.bad
      rw [if_pos c] at b
      push_cast [k_lenL, wl_len]
      exact mid_part bo y7.hand ⟨b, sp.ne, sp.ok, sp.few⟩ fun h' s9 s10 s11 s12 hd' => kn2 _ _ ⟨hd', _, _, _, _, _, _, rfl⟩
    · have c : ¬ r = 0 := by omega
      have b := sp.bad
      rw [if_neg c] at b
      exact mid_part bo y7.hand ⟨b, sp.ne, sp.ok, sp.few⟩ fun h' s9 s10 s11 s12 hd' => kn2 _ _ ⟨hd', _, _, _, _, _, _, rfl⟩
  · rintro _ h5 ⟨hd5, s7, s8, s9, s10, s11, s12, rfl⟩
    push_cast [b_law_6, plits]
    refine k_joinB (b := 200) (c := 250) viewT_lst (row_lens bo) (by have := p_few bo; omega) (by decide) ?_
    refine read_paper_ok (n := 10) bo ?_
    have eB : cells (h5 ++ [pc p.tx p.nm p.ts]) h5.length = pc p.tx p.nm p.ts := Hd.cells_last h5 _
    generalize h5 ++ [pc p.tx p.nm p.ts] = h6 at eB ⊢
    generalize h5.length = B at eB ⊢
    have nA : cells h6 B = .obj 0 [("text", .str (mkS p.tx)), ("name", .str (mkS p.nm)), ("tokens", .tup (p.ts.map To.av))] := eB
    obtain ⟨g1, g2, g3⟩ := ctx_fld (n := 13)
    push_cast [nA, g1, g2, g3, lkT]
    refine ⟨trivial, trivial, trivial, Pa.le3, ?_⟩
    refine k_repr (pdH_p h6 p.tx p.nm p.ts) ((sh_p s).ok (by decide) (by decide)) ?_
    push_cast [decide_true]
    rfl
end
end K24

set_option maxRecDepth 100000
set_option maxHeartbeats 4000000
namespace K24
open PySem L2 VL
def T : Tab where
  fname := fun f => ([(19, ("_law_draws" : Str)), (20, ("_law_take" : Str)), (117, ("read_number" : Str)), (118, ("read_token" : Str)), (119, ("read_count" : Str)), (120, ("read_paper" : Str)), (33, ("_law_wide" : Str)), (121, ("_law_number" : Str)), (122, ("_law_line" : Str)), (123, ("_law_token" : Str)), (124, ("_law_lines" : Str)), (125, ("_law_rows" : Str)), (126, ("_law_tokens" : Str)), (130, ("_law_pick" : Str)), (131, ("_law_wrong_first" : Str)), (132, ("_law_wrong_name" : Str)), (133, ("_law_wrong_token" : Str)), (134, ("_law_spoilt_number" : Str)), (135, ("_law_spoilt" : Str)), (136, ("law" : Str)), (137, ("_law_row_of" : Str))] : List (Nat × Str)).lookup f
  gname := fun g => (([(2, ("FIGURES" : Str)), (5, ("MOST_FIGURES" : Str)), (8, ("COUNTS" : Str))] : List (Nat × Str)).lookup g).getD ""
  cname := fun c => ([(0, ("Paper" : Str))] : List (Nat × Str)).lookup c
  dname := fun g => ([(8, ("COUNTS" : Str))] : List (Nat × Str)).lookup g
  iname := fun c => ([] : List (Nat × Str)).lookup c
  ename := fun c => ([(1, ("BadPaper" : Str))] : List (Nat × Str)).lookup c
  xname := fun c => ([(2, ("BadText" : Str)), (3, ("BadProgram" : Str)), (4, ("BadStart" : Str)), (5, ("NoProcedure" : Str)), (6, ("BadLine" : Str)), (1, ("BadPaper" : Str)), (7, ("SwornError" : Str))] : List (Nat × Str)).lookup c
def top (i : Nat) : Stmt := PySem.Challenge.pw_swornrun_k24_wrong_rows_of_papers.main.body.getD i (.Pass ⟨0, 0, 0, 0⟩)
def t19 : FnT := ⟨"_law_draws", top 19, ["_law_script", "_law_many", "_law_rests", "_law_draws_here", "_law_k", "_law_cell", "_law_at", "_law_mixed"], ["_law_script", "_law_many"]⟩
def t20 : FnT := ⟨"_law_take", top 20, ["_law_hand", "_law_many", "_law_at", "_law_draws_here"], ["_law_hand", "_law_many"]⟩
def t113 : FnT := ⟨"__init__", inClass (top 13) 0, ["self", "text", "name", "tokens"], ["self", "text", "name", "tokens"]⟩
def t117 : FnT := ⟨"read_number", top 14, ["word", "sign"], ["word"]⟩
def t118 : FnT := ⟨"read_token", top 15, ["row", "words", "numbers", "word"], ["row"]⟩
def t119 : FnT := ⟨"read_count", top 16, ["row", "count"], ["row"]⟩
def t120 : FnT := ⟨"read_paper", top 17, ["text", "rows", "count", "tokens", "at", "token"], ["text"]⟩
def t33 : FnT := ⟨"_law_wide", top 21, ["_law_hand", "_law_many", "_law_first"], ["_law_hand", "_law_many"]⟩
def t121 : FnT := ⟨"_law_number", top 22, ["_law_hand"], ["_law_hand"]⟩
def t122 : FnT := ⟨"_law_line", top 23, ["_law_hand", "_law_signs", "_law_tricky", "_law_line_here", "_law_k"], ["_law_hand"]⟩
def t123 : FnT := ⟨"_law_token", top 24, ["_law_hand", "_law_kind", "_law_many", "_law_k"], ["_law_hand"]⟩
def t124 : FnT := ⟨"_law_lines", top 25, ["_law_hand", "_law_many", "_law_short", "_law_k"], ["_law_hand"]⟩
def t125 : FnT := ⟨"_law_rows", top 26, ["_law_lines_here", "_law_name", "_law_tokens_here", "_law_rows_here", "_law_token_here", "_law_parts", "_law_part"], ["_law_lines_here", "_law_name", "_law_tokens_here"]⟩
def t126 : FnT := ⟨"_law_tokens", top 27, ["_law_hand", "_law_found", "_law_k"], ["_law_hand"]⟩
def t130 : FnT := ⟨"_law_pick", top 28, ["_law_hand", "_law_rows_here"], ["_law_hand", "_law_rows_here"]⟩
def t131 : FnT := ⟨"_law_wrong_first", top 29, ["_law_hand", "_law_many", "_law_told", "_law_rows_here"], ["_law_hand", "_law_many"]⟩
def t132 : FnT := ⟨"_law_wrong_name", top 30, ["_law_hand"], ["_law_hand"]⟩
def t133 : FnT := ⟨"_law_wrong_token", top 31, ["_law_hand", "_law_rows_here"], ["_law_hand"]⟩
def t134 : FnT := ⟨"_law_spoilt_number", top 32, ["_law_hand", "_law_row", "_law_words", "_law_at", "_law_word", "_law_turns"], ["_law_hand", "_law_row"]⟩
def t135 : FnT := ⟨"_law_spoilt", top 33, ["_law_hand", "_law_rows_here", "_law_many", "_law_kind", "_law_first", "_law_count", "_law_cut", "_law_at", "_law_wrong"], ["_law_hand", "_law_rows_here", "_law_many"]⟩
def t136 : FnT := ⟨"law", top 35, ["_law_script", "_law_hand", "_law_lines_here", "_law_name", "_law_tokens_here", "_law_rows_here", "_law_due", "_law_t", "_law_back", "_law_spoilt_here", "_law_row", "_law_extra", "_law_at"], ["_law_script"]⟩
def t137 : FnT := ⟨"_law_row_of", top 34, ["_law_text", "e"], ["_law_text"]⟩
def tE : FnT := ⟨"__init__", inClass (top 3) 0, ["self", "row"], ["self", "row"]⟩
def ts (f : Nat) : Option FnT := ([(19, t19), (20, t20), (113, t113), (117, t117), (118, t118), (119, t119), (120, t120), (33, t33), (121, t121), (122, t122), (123, t123), (124, t124), (125, t125), (126, t126), (130, t130), (131, t131), (132, t132), (133, t133), (134, t134), (135, t135), (136, t136), (137, t137)] : List (Nat × FnT)).lookup f
theorem ag19 : agF T t19 ⟨2, 8, Hd.b_law_draws⟩ = true := by decide +kernel
theorem ag20 : agF T t20 ⟨2, 4, Hd.b_law_take⟩ = true := by decide +kernel
theorem ag113 : agF T t113 ⟨4, 4, Pa.b_Paper___init__⟩ = true := by decide +kernel
theorem ag117 : agF T t117 ⟨1, 2, Pa.b_read_number⟩ = true := by decide +kernel
theorem ag118 : agF T t118 ⟨1, 4, Pa.b_read_token⟩ = true := by decide +kernel
theorem ag119 : agF T t119 ⟨1, 2, Pa.b_read_count⟩ = true := by decide +kernel
theorem ag120 : agF T t120 ⟨1, 6, Pa.b_read_paper⟩ = true := by decide +kernel
theorem ag33 : agF T t33 ⟨2, 3, Gp.b_law_wide⟩ = true := by decide +kernel
theorem ag121 : agF T t121 ⟨1, 1, Gp.b_law_number⟩ = true := by decide +kernel
theorem ag122 : agF T t122 ⟨1, 5, Gp.b_law_line⟩ = true := by decide +kernel
theorem ag123 : agF T t123 ⟨1, 4, Gp.b_law_token⟩ = true := by decide +kernel
theorem ag124 : agF T t124 ⟨1, 4, Gp.b_law_lines⟩ = true := by decide +kernel
theorem ag125 : agF T t125 ⟨3, 7, Gp.b_law_rows⟩ = true := by decide +kernel
theorem ag126 : agF T t126 ⟨1, 3, Gp.b_law_tokens⟩ = true := by decide +kernel
theorem ag130 : agF T t130 ⟨2, 2, K24.b_law_pick⟩ = true := by decide +kernel
theorem ag131 : agF T t131 ⟨2, 4, K24.b_law_wrong_first⟩ = true := by decide +kernel
theorem ag132 : agF T t132 ⟨1, 1, K24.b_law_wrong_name⟩ = true := by decide +kernel
theorem ag133 : agF T t133 ⟨1, 2, K24.b_law_wrong_token⟩ = true := by decide +kernel
theorem ag134 : agF T t134 ⟨2, 6, K24.b_law_spoilt_number⟩ = true := by decide +kernel
theorem ag135 : agF T t135 ⟨3, 9, K24.b_law_spoilt⟩ = true := by decide +kernel
theorem ag136 : agF T t136 ⟨1, 13, K24.b_law⟩ = true := by decide +kernel
theorem ag137 : agTF T t137 ⟨120, 1, 2, [.v 0], 7, 1, none, [((.or (.isT [2, 3, 4, 5]) (.not .isVE)), .non), ((.and (.isC 1) (.and (.isC 6) (.not .row))), .row)], none, (some .non)⟩ = true := by decide +kernel
theorem agE : scB tE.N tE.ps (defScope tE.st) && visB (defScope tE.st) "self" && visB (defScope tE.st) "row" && isRowInit (defBody tE.st) = true := by decide +kernel
end K24

namespace K24
open PySem L2 VL
theorem all_mk {w : World} {K : PySem.W.Frag} {h : Heap} {mg : Str → Option Value} {fa : Addr} (X : K.In h) (G : h.Ns mainGlobals mg) (hfa : mg "law" = some (.ref fa))
    {f19 f20 f113 f117 f118 f119 f120 f33 f121 f122 f123 f124 f125 f126 f130 f131 f132 f133 f134 f135 f136 f137 fE C0 C1 C2 C3 C4 C5 C6 C7 : Addr} {od19 an19 od20 an20 od113 an113 od117 an117 od118 an118 od119 an119 od120 an120 od33 an33 od121 an121 od122 an122 od123 an123 od124 an124 od125 an125 od126 an126 od130 an130 od131 an131 od132 an132 od133 an133 od134 an134 od135 an135 od136 an136 od137 an137 odE anE : Option Addr} {sl19 sl20 sl113 sl117 sl118 sl119 sl120 sl33 sl121 sl122 sl123 sl124 sl125 sl126 sl130 sl131 sl132 sl133 sl134 sl135 sl136 sl137 slE : Array (Option Value)} {oc19 kV19 dc19 pm19 cd19 ct19 oc20 kV20 dc20 pm20 cd20 ct20 oc113 kV113 dc113 pm113 cd113 ct113 oc117 kV117 dc117 pm117 cd117 ct117 oc118 kV118 dc118 pm118 cd118 ct118 oc119 kV119 dc119 pm119 cd119 ct119 oc120 kV120 dc120 pm120 cd120 ct120 oc33 kV33 dc33 pm33 cd33 ct33 oc121 kV121 dc121 pm121 cd121 ct121 oc122 kV122 dc122 pm122 cd122 ct122 oc123 kV123 dc123 pm123 cd123 ct123 oc124 kV124 dc124 pm124 cd124 ct124 oc125 kV125 dc125 pm125 cd125 ct125 oc126 kV126 dc126 pm126 cd126 ct126 oc130 kV130 dc130 pm130 cd130 ct130 oc131 kV131 dc131 pm131 cd131 ct131 oc132 kV132 dc132 pm132 cd132 ct132 oc133 kV133 dc133 pm133 cd133 ct133 oc134 kV134 dc134 pm134 cd134 ct134 oc135 kV135 dc135 pm135 cd135 ct135 oc136 kV136 dc136 pm136 cd136 ct136 oc137 kV137 dc137 pm137 cd137 ct137 ocE kVE dcE pmE cdE ctE : Value} {gt2 : Tok} {gt5 : Tok} {ga8 : Addr} {gt8_0 gt8_1 gt8_2 gt8_3 gt8_4 gt8_5 gt8_6 gt8_7 gt8_8 : Tok} {nm1 qq1 : Str} {N1 : Addr} {bs1 bm1 su1 : List Value} {hx1 : Bool} {sn1 : List Str} {ab1 : Bool} {co1 : Option Bool} {xd1 : Option Addr} {ka1 kb1 kk1 ke1 kf1 : Option Value} {nw1 : String} {nm2 qq2 : Str} {N2 : Addr} {bs2 bm2 su2 : List Value} {hx2 : Bool} {sn2 : List Str} {ab2 : Bool} {co2 : Option Bool} {xd2 : Option Addr} {ka2 kb2 kk2 ke2 kf2 : Option Value} {nw2 : String} {nm3 qq3 : Str} {N3 : Addr} {bs3 bm3 su3 : List Value} {hx3 : Bool} {sn3 : List Str} {ab3 : Bool} {co3 : Option Bool} {xd3 : Option Addr} {ka3 kb3 kk3 ke3 kf3 : Option Value} {nw3 : String} {nm4 qq4 : Str} {N4 : Addr} {bs4 bm4 su4 : List Value} {hx4 : Bool} {sn4 : List Str} {ab4 : Bool} {co4 : Option Bool} {xd4 : Option Addr} {ka4 kb4 kk4 ke4 kf4 : Option Value} {nw4 : String} {nm5 qq5 : Str} {N5 : Addr} {bs5 bm5 su5 : List Value} {hx5 : Bool} {sn5 : List Str} {ab5 : Bool} {co5 : Option Bool} {xd5 : Option Addr} {ka5 kb5 kk5 ke5 kf5 : Option Value} {nw5 : String} {nm6 qq6 : Str} {N6 : Addr} {bs6 bm6 su6 : List Value} {hx6 : Bool} {sn6 : List Str} {ab6 : Bool} {co6 : Option Bool} {xd6 : Option Addr} {ka6 kb6 kk6 ke6 kf6 : Option Value} {nw6 : String} {nm7 qq7 : Str} {N7 : Addr} {bs7 bm7 su7 : List Value} {hx7 : Bool} {sn7 : List Str} {ab7 : Bool} {co7 : Option Bool} {xd7 : Option Addr} {ka7 kb7 kk7 ke7 kf7 : Option Value} {nw7 : String}
    (a19 : PySem.W.nsIn K mainGlobals "_law_draws" = some (some (.ref f19)))
    (l19 : K.lookup f19 = some ⟨oc19, od19, .func (PySem.W.fnOf "_law_draws" "_law_draws" (defArgs t19.st) (defBody t19.st) (defScope t19.st) .none kV19 dc19 pm19 an19 cd19 ct19), sl19⟩)
    (c19 : PySem.W.codeIn K cd19 "_law_draws" = true)
    (k19 : PySem.W.keepIn K (.ref f19) = true)
    (a20 : PySem.W.nsIn K mainGlobals "_law_take" = some (some (.ref f20)))
    (l20 : K.lookup f20 = some ⟨oc20, od20, .func (PySem.W.fnOf "_law_take" "_law_take" (defArgs t20.st) (defBody t20.st) (defScope t20.st) .none kV20 dc20 pm20 an20 cd20 ct20), sl20⟩)
    (c20 : PySem.W.codeIn K cd20 "_law_take" = true)
    (k20 : PySem.W.keepIn K (.ref f20) = true)
    (a113 : PySem.W.findIn K (.ref C0) "__init__" = some (some (.ref f113)))
    (i113 : PySem.W.isFn K (.ref f113) = true)
    (l113 : K.lookup f113 = some ⟨oc113, od113, .func (PySem.W.fnOf "__init__" "Paper.__init__" (defArgs t113.st) (defBody t113.st) (defScope t113.st) .none kV113 dc113 pm113 an113 cd113 ct113), sl113⟩)
    (c113 : PySem.W.codeIn K cd113 "Paper.__init__" = true)
    (k113 : PySem.W.keepIn K (.ref f113) = true)
    (a117 : PySem.W.nsIn K mainGlobals "read_number" = some (some (.ref f117)))
    (l117 : K.lookup f117 = some ⟨oc117, od117, .func (PySem.W.fnOf "read_number" "read_number" (defArgs t117.st) (defBody t117.st) (defScope t117.st) .none kV117 dc117 pm117 an117 cd117 ct117), sl117⟩)
    (c117 : PySem.W.codeIn K cd117 "read_number" = true)
    (k117 : PySem.W.keepIn K (.ref f117) = true)
    (a118 : PySem.W.nsIn K mainGlobals "read_token" = some (some (.ref f118)))
    (l118 : K.lookup f118 = some ⟨oc118, od118, .func (PySem.W.fnOf "read_token" "read_token" (defArgs t118.st) (defBody t118.st) (defScope t118.st) .none kV118 dc118 pm118 an118 cd118 ct118), sl118⟩)
    (c118 : PySem.W.codeIn K cd118 "read_token" = true)
    (k118 : PySem.W.keepIn K (.ref f118) = true)
    (a119 : PySem.W.nsIn K mainGlobals "read_count" = some (some (.ref f119)))
    (l119 : K.lookup f119 = some ⟨oc119, od119, .func (PySem.W.fnOf "read_count" "read_count" (defArgs t119.st) (defBody t119.st) (defScope t119.st) .none kV119 dc119 pm119 an119 cd119 ct119), sl119⟩)
    (c119 : PySem.W.codeIn K cd119 "read_count" = true)
    (k119 : PySem.W.keepIn K (.ref f119) = true)
    (a120 : PySem.W.nsIn K mainGlobals "read_paper" = some (some (.ref f120)))
    (l120 : K.lookup f120 = some ⟨oc120, od120, .func (PySem.W.fnOf "read_paper" "read_paper" (defArgs t120.st) (defBody t120.st) (defScope t120.st) .none kV120 dc120 pm120 an120 cd120 ct120), sl120⟩)
    (c120 : PySem.W.codeIn K cd120 "read_paper" = true)
    (k120 : PySem.W.keepIn K (.ref f120) = true)
    (a33 : PySem.W.nsIn K mainGlobals "_law_wide" = some (some (.ref f33)))
    (l33 : K.lookup f33 = some ⟨oc33, od33, .func (PySem.W.fnOf "_law_wide" "_law_wide" (defArgs t33.st) (defBody t33.st) (defScope t33.st) .none kV33 dc33 pm33 an33 cd33 ct33), sl33⟩)
    (c33 : PySem.W.codeIn K cd33 "_law_wide" = true)
    (k33 : PySem.W.keepIn K (.ref f33) = true)
    (a121 : PySem.W.nsIn K mainGlobals "_law_number" = some (some (.ref f121)))
    (l121 : K.lookup f121 = some ⟨oc121, od121, .func (PySem.W.fnOf "_law_number" "_law_number" (defArgs t121.st) (defBody t121.st) (defScope t121.st) .none kV121 dc121 pm121 an121 cd121 ct121), sl121⟩)
    (c121 : PySem.W.codeIn K cd121 "_law_number" = true)
    (k121 : PySem.W.keepIn K (.ref f121) = true)
    (a122 : PySem.W.nsIn K mainGlobals "_law_line" = some (some (.ref f122)))
    (l122 : K.lookup f122 = some ⟨oc122, od122, .func (PySem.W.fnOf "_law_line" "_law_line" (defArgs t122.st) (defBody t122.st) (defScope t122.st) .none kV122 dc122 pm122 an122 cd122 ct122), sl122⟩)
    (c122 : PySem.W.codeIn K cd122 "_law_line" = true)
    (k122 : PySem.W.keepIn K (.ref f122) = true)
    (a123 : PySem.W.nsIn K mainGlobals "_law_token" = some (some (.ref f123)))
    (l123 : K.lookup f123 = some ⟨oc123, od123, .func (PySem.W.fnOf "_law_token" "_law_token" (defArgs t123.st) (defBody t123.st) (defScope t123.st) .none kV123 dc123 pm123 an123 cd123 ct123), sl123⟩)
    (c123 : PySem.W.codeIn K cd123 "_law_token" = true)
    (k123 : PySem.W.keepIn K (.ref f123) = true)
    (a124 : PySem.W.nsIn K mainGlobals "_law_lines" = some (some (.ref f124)))
    (l124 : K.lookup f124 = some ⟨oc124, od124, .func (PySem.W.fnOf "_law_lines" "_law_lines" (defArgs t124.st) (defBody t124.st) (defScope t124.st) .none kV124 dc124 pm124 an124 cd124 ct124), sl124⟩)
    (c124 : PySem.W.codeIn K cd124 "_law_lines" = true)
    (k124 : PySem.W.keepIn K (.ref f124) = true)
    (a125 : PySem.W.nsIn K mainGlobals "_law_rows" = some (some (.ref f125)))
    (l125 : K.lookup f125 = some ⟨oc125, od125, .func (PySem.W.fnOf "_law_rows" "_law_rows" (defArgs t125.st) (defBody t125.st) (defScope t125.st) .none kV125 dc125 pm125 an125 cd125 ct125), sl125⟩)
    (c125 : PySem.W.codeIn K cd125 "_law_rows" = true)
    (k125 : PySem.W.keepIn K (.ref f125) = true)
    (a126 : PySem.W.nsIn K mainGlobals "_law_tokens" = some (some (.ref f126)))
    (l126 : K.lookup f126 = some ⟨oc126, od126, .func (PySem.W.fnOf "_law_tokens" "_law_tokens" (defArgs t126.st) (defBody t126.st) (defScope t126.st) .none kV126 dc126 pm126 an126 cd126 ct126), sl126⟩)
    (c126 : PySem.W.codeIn K cd126 "_law_tokens" = true)
    (k126 : PySem.W.keepIn K (.ref f126) = true)
    (a130 : PySem.W.nsIn K mainGlobals "_law_pick" = some (some (.ref f130)))
    (l130 : K.lookup f130 = some ⟨oc130, od130, .func (PySem.W.fnOf "_law_pick" "_law_pick" (defArgs t130.st) (defBody t130.st) (defScope t130.st) .none kV130 dc130 pm130 an130 cd130 ct130), sl130⟩)
    (c130 : PySem.W.codeIn K cd130 "_law_pick" = true)
    (k130 : PySem.W.keepIn K (.ref f130) = true)
    (a131 : PySem.W.nsIn K mainGlobals "_law_wrong_first" = some (some (.ref f131)))
    (l131 : K.lookup f131 = some ⟨oc131, od131, .func (PySem.W.fnOf "_law_wrong_first" "_law_wrong_first" (defArgs t131.st) (defBody t131.st) (defScope t131.st) .none kV131 dc131 pm131 an131 cd131 ct131), sl131⟩)
    (c131 : PySem.W.codeIn K cd131 "_law_wrong_first" = true)
    (k131 : PySem.W.keepIn K (.ref f131) = true)
    (a132 : PySem.W.nsIn K mainGlobals "_law_wrong_name" = some (some (.ref f132)))
    (l132 : K.lookup f132 = some ⟨oc132, od132, .func (PySem.W.fnOf "_law_wrong_name" "_law_wrong_name" (defArgs t132.st) (defBody t132.st) (defScope t132.st) .none kV132 dc132 pm132 an132 cd132 ct132), sl132⟩)
    (c132 : PySem.W.codeIn K cd132 "_law_wrong_name" = true)
    (k132 : PySem.W.keepIn K (.ref f132) = true)
    (a133 : PySem.W.nsIn K mainGlobals "_law_wrong_token" = some (some (.ref f133)))
    (l133 : K.lookup f133 = some ⟨oc133, od133, .func (PySem.W.fnOf "_law_wrong_token" "_law_wrong_token" (defArgs t133.st) (defBody t133.st) (defScope t133.st) .none kV133 dc133 pm133 an133 cd133 ct133), sl133⟩)
    (c133 : PySem.W.codeIn K cd133 "_law_wrong_token" = true)
    (k133 : PySem.W.keepIn K (.ref f133) = true)
    (a134 : PySem.W.nsIn K mainGlobals "_law_spoilt_number" = some (some (.ref f134)))
    (l134 : K.lookup f134 = some ⟨oc134, od134, .func (PySem.W.fnOf "_law_spoilt_number" "_law_spoilt_number" (defArgs t134.st) (defBody t134.st) (defScope t134.st) .none kV134 dc134 pm134 an134 cd134 ct134), sl134⟩)
    (c134 : PySem.W.codeIn K cd134 "_law_spoilt_number" = true)
    (k134 : PySem.W.keepIn K (.ref f134) = true)
    (a135 : PySem.W.nsIn K mainGlobals "_law_spoilt" = some (some (.ref f135)))
    (l135 : K.lookup f135 = some ⟨oc135, od135, .func (PySem.W.fnOf "_law_spoilt" "_law_spoilt" (defArgs t135.st) (defBody t135.st) (defScope t135.st) .none kV135 dc135 pm135 an135 cd135 ct135), sl135⟩)
    (c135 : PySem.W.codeIn K cd135 "_law_spoilt" = true)
    (k135 : PySem.W.keepIn K (.ref f135) = true)
    (a136 : PySem.W.nsIn K mainGlobals "law" = some (some (.ref f136)))
    (l136 : K.lookup f136 = some ⟨oc136, od136, .func (PySem.W.fnOf "law" "law" (defArgs t136.st) (defBody t136.st) (defScope t136.st) .none kV136 dc136 pm136 an136 cd136 ct136), sl136⟩)
    (c136 : PySem.W.codeIn K cd136 "law" = true)
    (k136 : PySem.W.keepIn K (.ref f136) = true)
    (a137 : PySem.W.nsIn K mainGlobals "_law_row_of" = some (some (.ref f137)))
    (l137 : K.lookup f137 = some ⟨oc137, od137, .func (PySem.W.fnOf "_law_row_of" "_law_row_of" (defArgs t137.st) (defBody t137.st) (defScope t137.st) .none kV137 dc137 pm137 an137 cd137 ct137), sl137⟩)
    (c137 : PySem.W.codeIn K cd137 "_law_row_of" = true)
    (k137 : PySem.W.keepIn K (.ref f137) = true)
    (aC0 : PySem.W.nsIn K mainGlobals "Paper" = some (some (.ref C0)))
    (pg0 : PySem.W.plainGet K C0 Str.empty = true)
    (hd0 : PySem.W.hasDictIn K C0 = true)
    (po0 : PySem.W.plainOver K C0 = true)
    (sa0 : PySem.W.findIn K (.ref C0) "__setattr__" = some (some (.builtin "object.__setattr__")))
    (mk0 : PySem.W.makesIn K C0 = true)
    (kc0 : PySem.W.keepIn K (.ref C0) = true)
    (fl0 : PySem.W.findIn K (.ref C0) "text" = some none)
    (fl1 : PySem.W.findIn K (.ref C0) "name" = some none)
    (fl2 : PySem.W.findIn K (.ref C0) "tokens" = some none)
    (lE : K.lookup fE = some ⟨ocE, odE, .func (PySem.W.fnOf "__init__" "BadLine.__init__" (defArgs tE.st) (defBody tE.st) (defScope tE.st) .none kVE dcE pmE anE cdE ctE), slE⟩)
    (cE : PySem.W.codeIn K cdE "BadLine.__init__" = true)
    (kE : PySem.W.keepIn K (.ref fE) = true)
    (zVE : PySem.W.nsIn K mainGlobals "ValueError" = some none)
    (tyE : PySem.W.typeIn K (.ref fE) = some (.type "function"))
    (inE : PySem.W.specialIn K (.builtin "object.__class__") "__get__" = some (some (.builtin "getset_descriptor.__get__")))
    (itE : PySem.W.takesIn K (.builtin "object.__class__") = some true)
    (aC1 : PySem.W.nsIn K mainGlobals "BadPaper" = some (some (.ref C1)))
    (xl1 : K.lookup C1 = some (excClassObj nm1 qq1 C1 N1 bs1 bm1 hx1 sn1 su1 ab1 co1 xd1 ka1 kb1 kk1 ke1 kf1 nw1))
    (xe1 : PySem.W.subIn K (.ref C1) (.type "BaseException") = some true)
    (xt1 : PySem.W.typeIn K (.ref C1) = some (.type "type"))
    (aC2 : PySem.W.nsIn K mainGlobals "BadText" = some (some (.ref C2)))
    (xl2 : K.lookup C2 = some (excClassObj nm2 qq2 C2 N2 bs2 bm2 hx2 sn2 su2 ab2 co2 xd2 ka2 kb2 kk2 ke2 kf2 nw2))
    (xe2 : PySem.W.subIn K (.ref C2) (.type "BaseException") = some true)
    (xt2 : PySem.W.typeIn K (.ref C2) = some (.type "type"))
    (aC3 : PySem.W.nsIn K mainGlobals "BadProgram" = some (some (.ref C3)))
    (xl3 : K.lookup C3 = some (excClassObj nm3 qq3 C3 N3 bs3 bm3 hx3 sn3 su3 ab3 co3 xd3 ka3 kb3 kk3 ke3 kf3 nw3))
    (xe3 : PySem.W.subIn K (.ref C3) (.type "BaseException") = some true)
    (xt3 : PySem.W.typeIn K (.ref C3) = some (.type "type"))
    (aC4 : PySem.W.nsIn K mainGlobals "BadStart" = some (some (.ref C4)))
    (xl4 : K.lookup C4 = some (excClassObj nm4 qq4 C4 N4 bs4 bm4 hx4 sn4 su4 ab4 co4 xd4 ka4 kb4 kk4 ke4 kf4 nw4))
    (xe4 : PySem.W.subIn K (.ref C4) (.type "BaseException") = some true)
    (xt4 : PySem.W.typeIn K (.ref C4) = some (.type "type"))
    (aC5 : PySem.W.nsIn K mainGlobals "NoProcedure" = some (some (.ref C5)))
    (xl5 : K.lookup C5 = some (excClassObj nm5 qq5 C5 N5 bs5 bm5 hx5 sn5 su5 ab5 co5 xd5 ka5 kb5 kk5 ke5 kf5 nw5))
    (xe5 : PySem.W.subIn K (.ref C5) (.type "BaseException") = some true)
    (xt5 : PySem.W.typeIn K (.ref C5) = some (.type "type"))
    (aC6 : PySem.W.nsIn K mainGlobals "BadLine" = some (some (.ref C6)))
    (xl6 : K.lookup C6 = some (excClassObj nm6 qq6 C6 N6 bs6 bm6 hx6 sn6 su6 ab6 co6 xd6 ka6 kb6 kk6 ke6 kf6 nw6))
    (xe6 : PySem.W.subIn K (.ref C6) (.type "BaseException") = some true)
    (xt6 : PySem.W.typeIn K (.ref C6) = some (.type "type"))
    (aC7 : PySem.W.nsIn K mainGlobals "SwornError" = some (some (.ref C7)))
    (xl7 : K.lookup C7 = some (excClassObj nm7 qq7 C7 N7 bs7 bm7 hx7 sn7 su7 ab7 co7 xd7 ka7 kb7 kk7 ke7 kf7 nw7))
    (xe7 : PySem.W.subIn K (.ref C7) (.type "BaseException") = some true)
    (xt7 : PySem.W.typeIn K (.ref C7) = some (.type "type"))
    (xh1 : hx1 = true ∧ nw1 = "ValueError.__new__" ∧ PySem.HandSPX.refsVE bm1 = true)
    (xs1 : PySem.W.findIn K (.ref C1) "__setattr__" = some (some (.builtin "object.__setattr__")))
    (xk1 : PySem.W.keepIn K (.ref C1) = true)
    (xr1 : PySem.W.findIn K (.ref C1) "row" = some none)
    (xi1 : PySem.W.findIn K (.ref C1) "__init__" = some (some (.ref fE)))
    (xg1 : PySem.W.findIn K (.ref C1) "__getattribute__" = some (some (.builtin "BaseException.__getattribute__")))
    (xq1 : PySem.W.findIn K (.ref C1) "__getattr__" = some none)
    (xd_1 : PySem.W.hasDictIn K C1 = true)
    (xc1 : PySem.W.findIn K (.ref C1) "__class__" = some (some (.builtin "object.__class__")))
    (xm1 : PySem.W.mroIn K C1 (.type "object") = some true)
    (xv1 : PySem.W.kitOne K (.ref C1) (.type "ValueError") = some true)
    (ks1_2 : PySem.W.kitOne K (.ref C1) (.ref C2) = some false)
    (ks1_3 : PySem.W.kitOne K (.ref C1) (.ref C3) = some false)
    (ks1_4 : PySem.W.kitOne K (.ref C1) (.ref C4) = some false)
    (ks1_5 : PySem.W.kitOne K (.ref C1) (.ref C5) = some false)
    (ks1_6 : PySem.W.kitOne K (.ref C1) (.ref C6) = some true)
    (ks1_1 : PySem.W.kitOne K (.ref C1) (.ref C1) = some true)
    (ks1_7 : PySem.W.kitOne K (.ref C1) (.ref C7) = some true)
    (kx1_7 : PySem.W.subIn K (.ref C1) (.ref C7) = some true)
    (z0 : PySem.W.nsIn K mainGlobals "len" = some none)
    (z1 : PySem.W.nsIn K mainGlobals "abs" = some none)
    (z2 : PySem.W.nsIn K mainGlobals "int" = some none)
    (z3 : PySem.W.nsIn K mainGlobals "str" = some none)
    (z4 : PySem.W.nsIn K mainGlobals "max" = some none)
    (z5 : PySem.W.nsIn K mainGlobals "min" = some none)
    (z6 : PySem.W.nsIn K mainGlobals "sum" = some none)
    (z7 : PySem.W.nsIn K mainGlobals "all" = some none)
    (z8 : PySem.W.nsIn K mainGlobals "any" = some none)
    (z9 : PySem.W.nsIn K mainGlobals "tuple" = some none)
    (z10 : PySem.W.nsIn K mainGlobals "list" = some none)
    (z11 : PySem.W.nsIn K mainGlobals "range" = some none)
    (z12 : PySem.W.nsIn K mainGlobals "isinstance" = some none)
    (z13 : PySem.W.nsIn K mainGlobals "bool" = some none)
    (z14 : PySem.W.nsIn K mainGlobals "dict" = some none)
    (z15 : PySem.W.nsIn K mainGlobals "repr" = some none)
    (z16 : PySem.W.nsIn K mainGlobals "sorted" = some none)
    (z17 : PySem.W.nsIn K mainGlobals "zip" = some none)
    (z18 : PySem.W.nsIn K mainGlobals "enumerate" = some none)
    (z19 : PySem.W.nsIn K mainGlobals "reversed" = some none)
    (hg2 : PySem.W.nsIn K mainGlobals "FIGURES" = some (some (.str ("0123456789") gt2)))
    (hg5 : PySem.W.nsIn K mainGlobals "MOST_FIGURES" = some (some (.int (12) gt5)))
    (hg8 : PySem.W.nsIn K mainGlobals "COUNTS" = some (some (.ref ga8)))
    (gk8 : He.dicW K ga8 = some (He.keysIn w.params ["on", "over", "pair", "write", "either", "all", "match", "sorted", "below"]))
    (gv8_0 : PySem.W.nsIn K ga8 "on" = some (some (.int 0 gt8_0)))
    (gv8_1 : PySem.W.nsIn K ga8 "over" = some (some (.int 0 gt8_1)))
    (gv8_2 : PySem.W.nsIn K ga8 "pair" = some (some (.int 2 gt8_2)))
    (gv8_3 : PySem.W.nsIn K ga8 "write" = some (some (.int 1 gt8_3)))
    (gv8_4 : PySem.W.nsIn K ga8 "either" = some (some (.int 1 gt8_4)))
    (gv8_5 : PySem.W.nsIn K ga8 "all" = some (some (.int 2 gt8_5)))
    (gv8_6 : PySem.W.nsIn K ga8 "match" = some (some (.int 2 gt8_6)))
    (gv8_7 : PySem.W.nsIn K ga8 "sorted" = some (some (.int 3 gt8_7)))
    (gv8_8 : PySem.W.nsIn K ga8 "below" = some (some (.int 3 gt8_8))) :
    ∃ Cl : Nat → Addr, PFacts w P T Cl ts K mg ∧ ∃ fd : FuncData, (∀ (s : Shared) (v : Value), BindsTo s fd ⟨[v], []⟩ [("_law_script", v)]) ∧ Fun K "law" "law" t136.st fa fd := by
  have e := hfa.symm.trans (PySem.W.mg_of X G a136)
  cases e
  refine ⟨fun c => (([(0, C0), (1, C1), (2, C2), (3, C3), (4, C4), (5, C5), (6, C6), (7, C7)] : List (Nat × Addr)).lookup c).getD 0, ⟨fun x hx => ?_, fun g d hg => ?_, fun f F hf => ?_, fun f x hx => ?_, fun c x hx => ?_, fun c m f hx => ?_, fun c f hx => ?_, fun g x hx => ?_, fun c x hx => ?_, fun c x hx => ?_, fun f t hx => ?_, fun c d b hx => ?_, fun c x hx => ?_⟩, PySem.W.fnOf "law" "law" (defArgs t136.st) (defBody t136.st) (defScope t136.st) .none kV136 dc136 pm136 an136 cd136 ct136, fun s v => .of_eq rfl, fun_mk (st := t136.st) l136 c136 k136⟩
  · simp only [bltNames, List.mem_cons, List.not_mem_nil, or_false] at hx
    rcases hx with rfl | rfl | rfl | rfl | rfl | rfl | rfl | rfl | rfl | rfl | rfl | rfl | rfl | rfl | rfl | rfl | rfl | rfl | rfl | rfl
    · exact PySem.W.mg_none_of X G z0
    · exact PySem.W.mg_none_of X G z1
    · exact PySem.W.mg_none_of X G z2
    · exact PySem.W.mg_none_of X G z3
    · exact PySem.W.mg_none_of X G z4
    · exact PySem.W.mg_none_of X G z5
    · exact PySem.W.mg_none_of X G z6
    · exact PySem.W.mg_none_of X G z7
    · exact PySem.W.mg_none_of X G z8
    · exact PySem.W.mg_none_of X G z9
    · exact PySem.W.mg_none_of X G z10
    · exact PySem.W.mg_none_of X G z11
    · exact PySem.W.mg_none_of X G z12
    · exact PySem.W.mg_none_of X G z13
    · exact PySem.W.mg_none_of X G z14
    · exact PySem.W.mg_none_of X G z15
    · exact PySem.W.mg_none_of X G z16
    · exact PySem.W.mg_none_of X G z17
    · exact PySem.W.mg_none_of X G z18
    · exact PySem.W.mg_none_of X G z19
  · refine look_all (G := fun g d => ∃ u v, mg (T.gname g) = some u ∧ RelV v u ∧ ∀ cs F, Rep K cs F v d) ?_ hg
    have gg2 : ∃ u v, mg (T.gname 2) = some u ∧ RelV v u ∧ ∀ cs F, Rep K cs F v (.str "0123456789") := ⟨_, .str ("0123456789"), PySem.W.mg_of X G hg2, ⟨_, rfl⟩, fun _ _ => .str _⟩
    have gg5 : ∃ u v, mg (T.gname 5) = some u ∧ RelV v u ∧ ∀ cs F, Rep K cs F v (.int 12) := ⟨_, .int (12), PySem.W.mg_of X G hg5, ⟨_, rfl⟩, fun _ _ => .int _⟩
    exact (And.intro gg2 (And.intro gg5 trivial))
  · refine look_all (G := fun f F => ∃ t a fd qual, ts f = some t ∧ Fun K t.name qual t.st a fd ∧ agF T t F = true ∧ Binds K fd t.ps [] ∧ ∀ x, T.fname f = some x → mg x = some (.ref a) ∧ PySem.W.keepIn K (.ref a) = true) ?_ hf
    have g19 : (fun f F => ∃ t a fd qual, ts f = some t ∧ Fun K t.name qual t.st a fd ∧ agF T t F = true ∧ Binds K fd t.ps [] ∧ ∀ x, T.fname f = some x → mg x = some (.ref a) ∧ PySem.W.keepIn K (.ref a) = true) 19 ⟨2, 8, Hd.b_law_draws⟩ := by
      have F := fun_mk (st := t19.st) l19 c19 k19
      exact ⟨t19, _, _, _, rfl, F, ag19, F.binds (ps := ["_law_script", "_law_many"]) fun _ _ _ _ _ _ us hl => match us, hl with | [_, _], _ => rfl, fun x hx => by cases hx; exact ⟨PySem.W.mg_of X G a19, k19⟩⟩
    have g20 : (fun f F => ∃ t a fd qual, ts f = some t ∧ Fun K t.name qual t.st a fd ∧ agF T t F = true ∧ Binds K fd t.ps [] ∧ ∀ x, T.fname f = some x → mg x = some (.ref a) ∧ PySem.W.keepIn K (.ref a) = true) 20 ⟨2, 4, Hd.b_law_take⟩ := by
      have F := fun_mk (st := t20.st) l20 c20 k20
      exact ⟨t20, _, _, _, rfl, F, ag20, F.binds (ps := ["_law_hand", "_law_many"]) fun _ _ _ _ _ _ us hl => match us, hl with | [_, _], _ => rfl, fun x hx => by cases hx; exact ⟨PySem.W.mg_of X G a20, k20⟩⟩
    have g113 : (fun f F => ∃ t a fd qual, ts f = some t ∧ Fun K t.name qual t.st a fd ∧ agF T t F = true ∧ Binds K fd t.ps [] ∧ ∀ x, T.fname f = some x → mg x = some (.ref a) ∧ PySem.W.keepIn K (.ref a) = true) 113 ⟨4, 4, Pa.b_Paper___init__⟩ := by
      have F := fun_mk (st := t113.st) l113 c113 k113
      exact ⟨t113, _, _, _, rfl, F, ag113, F.binds (ps := ["self", "text", "name", "tokens"]) fun _ _ _ _ _ _ us hl => match us, hl with | [_, _, _, _], _ => rfl, fun x hx => by cases hx⟩
    have g117 : (fun f F => ∃ t a fd qual, ts f = some t ∧ Fun K t.name qual t.st a fd ∧ agF T t F = true ∧ Binds K fd t.ps [] ∧ ∀ x, T.fname f = some x → mg x = some (.ref a) ∧ PySem.W.keepIn K (.ref a) = true) 117 ⟨1, 2, Pa.b_read_number⟩ := by
      have F := fun_mk (st := t117.st) l117 c117 k117
      exact ⟨t117, _, _, _, rfl, F, ag117, F.binds (ps := ["word"]) fun _ _ _ _ _ _ us hl => match us, hl with | [_], _ => rfl, fun x hx => by cases hx; exact ⟨PySem.W.mg_of X G a117, k117⟩⟩
    have g118 : (fun f F => ∃ t a fd qual, ts f = some t ∧ Fun K t.name qual t.st a fd ∧ agF T t F = true ∧ Binds K fd t.ps [] ∧ ∀ x, T.fname f = some x → mg x = some (.ref a) ∧ PySem.W.keepIn K (.ref a) = true) 118 ⟨1, 4, Pa.b_read_token⟩ := by
      have F := fun_mk (st := t118.st) l118 c118 k118
      exact ⟨t118, _, _, _, rfl, F, ag118, F.binds (ps := ["row"]) fun _ _ _ _ _ _ us hl => match us, hl with | [_], _ => rfl, fun x hx => by cases hx; exact ⟨PySem.W.mg_of X G a118, k118⟩⟩
    have g119 : (fun f F => ∃ t a fd qual, ts f = some t ∧ Fun K t.name qual t.st a fd ∧ agF T t F = true ∧ Binds K fd t.ps [] ∧ ∀ x, T.fname f = some x → mg x = some (.ref a) ∧ PySem.W.keepIn K (.ref a) = true) 119 ⟨1, 2, Pa.b_read_count⟩ := by
      have F := fun_mk (st := t119.st) l119 c119 k119
      exact ⟨t119, _, _, _, rfl, F, ag119, F.binds (ps := ["row"]) fun _ _ _ _ _ _ us hl => match us, hl with | [_], _ => rfl, fun x hx => by cases hx; exact ⟨PySem.W.mg_of X G a119, k119⟩⟩
    have g120 : (fun f F => ∃ t a fd qual, ts f = some t ∧ Fun K t.name qual t.st a fd ∧ agF T t F = true ∧ Binds K fd t.ps [] ∧ ∀ x, T.fname f = some x → mg x = some (.ref a) ∧ PySem.W.keepIn K (.ref a) = true) 120 ⟨1, 6, Pa.b_read_paper⟩ := by
      have F := fun_mk (st := t120.st) l120 c120 k120
      exact ⟨t120, _, _, _, rfl, F, ag120, F.binds (ps := ["text"]) fun _ _ _ _ _ _ us hl => match us, hl with | [_], _ => rfl, fun x hx => by cases hx; exact ⟨PySem.W.mg_of X G a120, k120⟩⟩
    have g33 : (fun f F => ∃ t a fd qual, ts f = some t ∧ Fun K t.name qual t.st a fd ∧ agF T t F = true ∧ Binds K fd t.ps [] ∧ ∀ x, T.fname f = some x → mg x = some (.ref a) ∧ PySem.W.keepIn K (.ref a) = true) 33 ⟨2, 3, Gp.b_law_wide⟩ := by
      have F := fun_mk (st := t33.st) l33 c33 k33
      exact ⟨t33, _, _, _, rfl, F, ag33, F.binds (ps := ["_law_hand", "_law_many"]) fun _ _ _ _ _ _ us hl => match us, hl with | [_, _], _ => rfl, fun x hx => by cases hx; exact ⟨PySem.W.mg_of X G a33, k33⟩⟩
    have g121 : (fun f F => ∃ t a fd qual, ts f = some t ∧ Fun K t.name qual t.st a fd ∧ agF T t F = true ∧ Binds K fd t.ps [] ∧ ∀ x, T.fname f = some x → mg x = some (.ref a) ∧ PySem.W.keepIn K (.ref a) = true) 121 ⟨1, 1, Gp.b_law_number⟩ := by
      have F := fun_mk (st := t121.st) l121 c121 k121
      exact ⟨t121, _, _, _, rfl, F, ag121, F.binds (ps := ["_law_hand"]) fun _ _ _ _ _ _ us hl => match us, hl with | [_], _ => rfl, fun x hx => by cases hx; exact ⟨PySem.W.mg_of X G a121, k121⟩⟩
    have g122 : (fun f F => ∃ t a fd qual, ts f = some t ∧ Fun K t.name qual t.st a fd ∧ agF T t F = true ∧ Binds K fd t.ps [] ∧ ∀ x, T.fname f = some x → mg x = some (.ref a) ∧ PySem.W.keepIn K (.ref a) = true) 122 ⟨1, 5, Gp.b_law_line⟩ := by
      have F := fun_mk (st := t122.st) l122 c122 k122
      exact ⟨t122, _, _, _, rfl, F, ag122, F.binds (ps := ["_law_hand"]) fun _ _ _ _ _ _ us hl => match us, hl with | [_], _ => rfl, fun x hx => by cases hx; exact ⟨PySem.W.mg_of X G a122, k122⟩⟩
    have g123 : (fun f F => ∃ t a fd qual, ts f = some t ∧ Fun K t.name qual t.st a fd ∧ agF T t F = true ∧ Binds K fd t.ps [] ∧ ∀ x, T.fname f = some x → mg x = some (.ref a) ∧ PySem.W.keepIn K (.ref a) = true) 123 ⟨1, 4, Gp.b_law_token⟩ := by
      have F := fun_mk (st := t123.st) l123 c123 k123
      exact ⟨t123, _, _, _, rfl, F, ag123, F.binds (ps := ["_law_hand"]) fun _ _ _ _ _ _ us hl => match us, hl with | [_], _ => rfl, fun x hx => by cases hx; exact ⟨PySem.W.mg_of X G a123, k123⟩⟩
    have g124 : (fun f F => ∃ t a fd qual, ts f = some t ∧ Fun K t.name qual t.st a fd ∧ agF T t F = true ∧ Binds K fd t.ps [] ∧ ∀ x, T.fname f = some x → mg x = some (.ref a) ∧ PySem.W.keepIn K (.ref a) = true) 124 ⟨1, 4, Gp.b_law_lines⟩ := by
      have F := fun_mk (st := t124.st) l124 c124 k124
      exact ⟨t124, _, _, _, rfl, F, ag124, F.binds (ps := ["_law_hand"]) fun _ _ _ _ _ _ us hl => match us, hl with | [_], _ => rfl, fun x hx => by cases hx; exact ⟨PySem.W.mg_of X G a124, k124⟩⟩
    have g125 : (fun f F => ∃ t a fd qual, ts f = some t ∧ Fun K t.name qual t.st a fd ∧ agF T t F = true ∧ Binds K fd t.ps [] ∧ ∀ x, T.fname f = some x → mg x = some (.ref a) ∧ PySem.W.keepIn K (.ref a) = true) 125 ⟨3, 7, Gp.b_law_rows⟩ := by
      have F := fun_mk (st := t125.st) l125 c125 k125
      exact ⟨t125, _, _, _, rfl, F, ag125, F.binds (ps := ["_law_lines_here", "_law_name", "_law_tokens_here"]) fun _ _ _ _ _ _ us hl => match us, hl with | [_, _, _], _ => rfl, fun x hx => by cases hx; exact ⟨PySem.W.mg_of X G a125, k125⟩⟩
    have g126 : (fun f F => ∃ t a fd qual, ts f = some t ∧ Fun K t.name qual t.st a fd ∧ agF T t F = true ∧ Binds K fd t.ps [] ∧ ∀ x, T.fname f = some x → mg x = some (.ref a) ∧ PySem.W.keepIn K (.ref a) = true) 126 ⟨1, 3, Gp.b_law_tokens⟩ := by
      have F := fun_mk (st := t126.st) l126 c126 k126
      exact ⟨t126, _, _, _, rfl, F, ag126, F.binds (ps := ["_law_hand"]) fun _ _ _ _ _ _ us hl => match us, hl with | [_], _ => rfl, fun x hx => by cases hx; exact ⟨PySem.W.mg_of X G a126, k126⟩⟩
    have g130 : (fun f F => ∃ t a fd qual, ts f = some t ∧ Fun K t.name qual t.st a fd ∧ agF T t F = true ∧ Binds K fd t.ps [] ∧ ∀ x, T.fname f = some x → mg x = some (.ref a) ∧ PySem.W.keepIn K (.ref a) = true) 130 ⟨2, 2, K24.b_law_pick⟩ := by
      have F := fun_mk (st := t130.st) l130 c130 k130
      exact ⟨t130, _, _, _, rfl, F, ag130, F.binds (ps := ["_law_hand", "_law_rows_here"]) fun _ _ _ _ _ _ us hl => match us, hl with | [_, _], _ => rfl, fun x hx => by cases hx; exact ⟨PySem.W.mg_of X G a130, k130⟩⟩
    have g131 : (fun f F => ∃ t a fd qual, ts f = some t ∧ Fun K t.name qual t.st a fd ∧ agF T t F = true ∧ Binds K fd t.ps [] ∧ ∀ x, T.fname f = some x → mg x = some (.ref a) ∧ PySem.W.keepIn K (.ref a) = true) 131 ⟨2, 4, K24.b_law_wrong_first⟩ := by
      have F := fun_mk (st := t131.st) l131 c131 k131
      exact ⟨t131, _, _, _, rfl, F, ag131, F.binds (ps := ["_law_hand", "_law_many"]) fun _ _ _ _ _ _ us hl => match us, hl with | [_, _], _ => rfl, fun x hx => by cases hx; exact ⟨PySem.W.mg_of X G a131, k131⟩⟩
    have g132 : (fun f F => ∃ t a fd qual, ts f = some t ∧ Fun K t.name qual t.st a fd ∧ agF T t F = true ∧ Binds K fd t.ps [] ∧ ∀ x, T.fname f = some x → mg x = some (.ref a) ∧ PySem.W.keepIn K (.ref a) = true) 132 ⟨1, 1, K24.b_law_wrong_name⟩ := by
      have F := fun_mk (st := t132.st) l132 c132 k132
      exact ⟨t132, _, _, _, rfl, F, ag132, F.binds (ps := ["_law_hand"]) fun _ _ _ _ _ _ us hl => match us, hl with | [_], _ => rfl, fun x hx => by cases hx; exact ⟨PySem.W.mg_of X G a132, k132⟩⟩
    have g133 : (fun f F => ∃ t a fd qual, ts f = some t ∧ Fun K t.name qual t.st a fd ∧ agF T t F = true ∧ Binds K fd t.ps [] ∧ ∀ x, T.fname f = some x → mg x = some (.ref a) ∧ PySem.W.keepIn K (.ref a) = true) 133 ⟨1, 2, K24.b_law_wrong_token⟩ := by
      have F := fun_mk (st := t133.st) l133 c133 k133
      exact ⟨t133, _, _, _, rfl, F, ag133, F.binds (ps := ["_law_hand"]) fun _ _ _ _ _ _ us hl => match us, hl with | [_], _ => rfl, fun x hx => by cases hx; exact ⟨PySem.W.mg_of X G a133, k133⟩⟩
    have g134 : (fun f F => ∃ t a fd qual, ts f = some t ∧ Fun K t.name qual t.st a fd ∧ agF T t F = true ∧ Binds K fd t.ps [] ∧ ∀ x, T.fname f = some x → mg x = some (.ref a) ∧ PySem.W.keepIn K (.ref a) = true) 134 ⟨2, 6, K24.b_law_spoilt_number⟩ := by
      have F := fun_mk (st := t134.st) l134 c134 k134
      exact ⟨t134, _, _, _, rfl, F, ag134, F.binds (ps := ["_law_hand", "_law_row"]) fun _ _ _ _ _ _ us hl => match us, hl with | [_, _], _ => rfl, fun x hx => by cases hx; exact ⟨PySem.W.mg_of X G a134, k134⟩⟩
    have g135 : (fun f F => ∃ t a fd qual, ts f = some t ∧ Fun K t.name qual t.st a fd ∧ agF T t F = true ∧ Binds K fd t.ps [] ∧ ∀ x, T.fname f = some x → mg x = some (.ref a) ∧ PySem.W.keepIn K (.ref a) = true) 135 ⟨3, 9, K24.b_law_spoilt⟩ := by
      have F := fun_mk (st := t135.st) l135 c135 k135
      exact ⟨t135, _, _, _, rfl, F, ag135, F.binds (ps := ["_law_hand", "_law_rows_here", "_law_many"]) fun _ _ _ _ _ _ us hl => match us, hl with | [_, _, _], _ => rfl, fun x hx => by cases hx; exact ⟨PySem.W.mg_of X G a135, k135⟩⟩
    have g136 : (fun f F => ∃ t a fd qual, ts f = some t ∧ Fun K t.name qual t.st a fd ∧ agF T t F = true ∧ Binds K fd t.ps [] ∧ ∀ x, T.fname f = some x → mg x = some (.ref a) ∧ PySem.W.keepIn K (.ref a) = true) 136 ⟨1, 13, K24.b_law⟩ := by
      have F := fun_mk (st := t136.st) l136 c136 k136
      exact ⟨t136, _, _, _, rfl, F, ag136, F.binds (ps := ["_law_script"]) fun _ _ _ _ _ _ us hl => match us, hl with | [_], _ => rfl, fun x hx => by cases hx; exact ⟨PySem.W.mg_of X G a136, k136⟩⟩
    exact (And.intro g19 (And.intro g20 (And.intro g113 (And.intro g117 (And.intro g118 (And.intro g119 (And.intro g120 (And.intro g33 (And.intro g121 (And.intro g122 (And.intro g123 (And.intro g124 (And.intro g125 (And.intro g126 (And.intro g130 (And.intro g131 (And.intro g132 (And.intro g133 (And.intro g134 (And.intro g135 (And.intro g136 trivial)))))))))))))))))))))
  · refine look_all (G := fun f x => (∃ F, P.fns.lookup f = some F) ∨ ∃ t, P.tryf.lookup f = some t) ?_ hx
    exact (And.intro (.inl ⟨_, rfl⟩) (And.intro (.inl ⟨_, rfl⟩) (And.intro (.inl ⟨_, rfl⟩) (And.intro (.inl ⟨_, rfl⟩) (And.intro (.inl ⟨_, rfl⟩) (And.intro (.inl ⟨_, rfl⟩) (And.intro (.inl ⟨_, rfl⟩) (And.intro (.inl ⟨_, rfl⟩) (And.intro (.inl ⟨_, rfl⟩) (And.intro (.inl ⟨_, rfl⟩) (And.intro (.inl ⟨_, rfl⟩) (And.intro (.inl ⟨_, rfl⟩) (And.intro (.inl ⟨_, rfl⟩) (And.intro (.inl ⟨_, rfl⟩) (And.intro (.inl ⟨_, rfl⟩) (And.intro (.inl ⟨_, rfl⟩) (And.intro (.inl ⟨_, rfl⟩) (And.intro (.inl ⟨_, rfl⟩) (And.intro (.inl ⟨_, rfl⟩) (And.intro (.inl ⟨_, rfl⟩) (And.intro (.inr ⟨_, rfl⟩) trivial)))))))))))))))))))))
  · refine look_all (G := fun c x => ∃ f F t a fd qual, P.init.lookup c = some f ∧ P.fns.lookup f = some F ∧ ts f = some t ∧ Fun K t.name qual t.st a fd ∧ agF T t F = true ∧ Binds K fd t.ps [] ∧ mg x = some (.ref ((([(0, C0), (1, C1), (2, C2), (3, C3), (4, C4), (5, C5), (6, C6), (7, C7)] : List (Nat × Addr)).lookup c).getD 0)) ∧ Mk K ((([(0, C0), (1, C1), (2, C2), (3, C3), (4, C4), (5, C5), (6, C6), (7, C7)] : List (Nat × Addr)).lookup c).getD 0) a) ?_ hx
    have g0 : (fun c x => ∃ f F t a fd qual, P.init.lookup c = some f ∧ P.fns.lookup f = some F ∧ ts f = some t ∧ Fun K t.name qual t.st a fd ∧ agF T t F = true ∧ Binds K fd t.ps [] ∧ mg x = some (.ref ((([(0, C0), (1, C1), (2, C2), (3, C3), (4, C4), (5, C5), (6, C6), (7, C7)] : List (Nat × Addr)).lookup c).getD 0)) ∧ Mk K ((([(0, C0), (1, C1), (2, C2), (3, C3), (4, C4), (5, C5), (6, C6), (7, C7)] : List (Nat × Addr)).lookup c).getD 0) a) 0 "Paper" := ⟨113, _, t113, _, _, _, rfl, rfl, rfl, fun_mk (st := t113.st) l113 c113 k113, ag113, (fun_mk (st := t113.st) l113 c113 k113).binds (ps := ["self", "text", "name", "tokens"]) fun _ _ _ _ _ _ us hl => match us, hl with | [_, _, _, _], _ => rfl, PySem.W.mg_of X G aC0, ⟨mk0, a113, i113, kc0⟩⟩
    exact (And.intro g0 trivial)
  · simp [P] at hx
  · have hx := List.contains_iff_mem.mp hx
    simp only [P, List.mem_cons, List.not_mem_nil, or_false, Prod.mk.injEq] at hx
    rcases hx with ⟨rfl, rfl⟩ | ⟨rfl, rfl⟩ | ⟨rfl, rfl⟩
    · exact ⟨⟨pg0, hd0, po0, sa0⟩, fl0⟩
    · exact ⟨⟨pg0, hd0, po0, sa0⟩, fl1⟩
    · exact ⟨⟨pg0, hd0, po0, sa0⟩, fl2⟩
  · refine look_all (G := fun g x => ∃ kvs d, P.gdct.lookup g = some kvs ∧ mg x = some (.ref d) ∧ GDict K w d kvs) ?_ hx
    have g8 : (fun g x => ∃ kvs d, P.gdct.lookup g = some kvs ∧ mg x = some (.ref d) ∧ GDict K w d kvs) 8 "COUNTS" := ⟨_, ga8, rfl, PySem.W.mg_of X G hg8, gdict_of gk8 (fun p hp => by
      simp only [List.mem_cons, List.not_mem_nil, or_false] at hp
      rcases hp with rfl | rfl | rfl | rfl | rfl | rfl | rfl | rfl | rfl
      · exact ⟨_, gv8_0⟩
      · exact ⟨_, gv8_1⟩
      · exact ⟨_, gv8_2⟩
      · exact ⟨_, gv8_3⟩
      · exact ⟨_, gv8_4⟩
      · exact ⟨_, gv8_5⟩
      · exact ⟨_, gv8_6⟩
      · exact ⟨_, gv8_7⟩
      · exact ⟨_, gv8_8⟩
      )⟩
    exact (And.intro g8 trivial)
  · refine look_all (G := fun c x => mg x = some (.ref ((([(0, C0), (1, C1), (2, C2), (3, C3), (4, C4), (5, C5), (6, C6), (7, C7)] : List (Nat × Addr)).lookup c).getD 0)) ∧ C8.InsC K ((([(0, C0), (1, C1), (2, C2), (3, C3), (4, C4), (5, C5), (6, C6), (7, C7)] : List (Nat × Addr)).lookup c).getD 0)) ?_ hx
    exact trivial
  · refine look_all (G := fun c x => ExcP K mg x ((([(0, C0), (1, C1), (2, C2), (3, C3), (4, C4), (5, C5), (6, C6), (7, C7)] : List (Nat × Addr)).lookup c).getD 0)) ?_ hx
    have g1 : (fun c x => ExcP K mg x ((([(0, C0), (1, C1), (2, C2), (3, C3), (4, C4), (5, C5), (6, C6), (7, C7)] : List (Nat × Addr)).lookup c).getD 0)) 1 "BadPaper" := by
      obtain ⟨e1, e2, e3⟩ := xh1
      subst e1 e2
      have F := fun_mk (st := tE.st) lE cE kE
      exact ⟨PySem.W.mg_of X G aC1, ⟨⟨_, _, _, _, _, _, _, _, _, _, _, _, _, _, _, xl1, e3⟩, xs1, xe1, xt1, xk1⟩, xr1, fE, _, _, _, tE.st, xi1, tyE, F, scB_ok (by have := agE; simp only [Bool.and_eq_true] at this; exact this.1.1.1), visB_ok (by have := agE; simp only [Bool.and_eq_true] at this; exact this.1.1.2), visB_ok (by have := agE; simp only [Bool.and_eq_true] at this; exact this.1.2), (by have := agE; simp only [Bool.and_eq_true] at this; exact this.2), F.binds (ps := ["self", "row"]) fun _ _ _ _ _ _ us hl => match us, hl with | [_, _], _ => rfl⟩
    exact (And.intro g1 trivial)
  · refine look_all (G := fun f t => P.fns.lookup f = none ∧ mg "ValueError" = none ∧ (∃ x F, T.fname t.g = some x ∧ P.fns.lookup t.g = some F) ∧ (∀ c, P.sub.lookup (c, t.c) = some true → PySem.W.exmOne K (.ref ((([(0, C0), (1, C1), (2, C2), (3, C3), (4, C4), (5, C5), (6, C6), (7, C7)] : List (Nat × Addr)).lookup c).getD 0)) (.ref ((([(0, C0), (1, C1), (2, C2), (3, C3), (4, C4), (5, C5), (6, C6), (7, C7)] : List (Nat × Addr)).lookup t.c).getD 0)) = some true) ∧ ∃ tt a fd qual, ts f = some tt ∧ Fun K tt.name qual tt.st a fd ∧ agTF T tt t = true ∧ Binds K fd tt.ps [] ∧ ∀ x, T.fname f = some x → mg x = some (.ref a) ∧ PySem.W.keepIn K (.ref a) = true) ?_ hx
    have g137 : (fun f t => P.fns.lookup f = none ∧ mg "ValueError" = none ∧ (∃ x F, T.fname t.g = some x ∧ P.fns.lookup t.g = some F) ∧ (∀ c, P.sub.lookup (c, t.c) = some true → PySem.W.exmOne K (.ref ((([(0, C0), (1, C1), (2, C2), (3, C3), (4, C4), (5, C5), (6, C6), (7, C7)] : List (Nat × Addr)).lookup c).getD 0)) (.ref ((([(0, C0), (1, C1), (2, C2), (3, C3), (4, C4), (5, C5), (6, C6), (7, C7)] : List (Nat × Addr)).lookup t.c).getD 0)) = some true) ∧ ∃ tt a fd qual, ts f = some tt ∧ Fun K tt.name qual tt.st a fd ∧ agTF T tt t = true ∧ Binds K fd tt.ps [] ∧ ∀ x, T.fname f = some x → mg x = some (.ref a) ∧ PySem.W.keepIn K (.ref a) = true) 137 ⟨120, 1, 2, [.v 0], 7, 1, none, [((.or (.isT [2, 3, 4, 5]) (.not .isVE)), .non), ((.and (.isC 1) (.and (.isC 6) (.not .row))), .row)], none, (some .non)⟩ := by
      have F := fun_mk (st := t137.st) l137 c137 k137
      refine ⟨rfl, PySem.W.mg_none_of X G zVE, ⟨_, _, rfl, rfl⟩, fun c hc => ?_, t137, _, _, _, rfl, F, ag137, F.binds (ps := ["_law_text"]) fun _ _ _ _ _ _ us hl => match us, hl with | [_], _ => rfl, fun x hx => by cases hx; exact ⟨PySem.W.mg_of X G a137, k137⟩⟩
      refine look_all (G := fun (cd : Nat × Nat) b => cd.2 = 7 → b = true → PySem.W.exmOne K (.ref ((([(0, C0), (1, C1), (2, C2), (3, C3), (4, C4), (5, C5), (6, C6), (7, C7)] : List (Nat × Addr)).lookup cd.1).getD 0)) (.ref C7) = some true) (k := (c, 7)) ?_ hc rfl rfl
      exact (And.intro (fun h _ => by cases h) (And.intro (fun h _ => by cases h) (And.intro (fun h _ => by cases h) (And.intro (fun h _ => by cases h) (And.intro (fun h _ => by cases h) (And.intro (fun h _ => by cases h) (And.intro (fun _ _ => exm_of xe7 (clsIn_of xl7) xt7 kx1_7) trivial)))))))
    exact (And.intro g137 trivial)
  · refine look_all (G := fun (cd : Nat × Nat) b => Cau K P (fun c => ((([(0, C0), (1, C1), (2, C2), (3, C3), (4, C4), (5, C5), (6, C6), (7, C7)] : List (Nat × Addr)).lookup c).getD 0)) cd.1) (k := (c, d)) ?_ hx
    have g1 : Cau K P (fun c => ((([(0, C0), (1, C1), (2, C2), (3, C3), (4, C4), (5, C5), (6, C6), (7, C7)] : List (Nat × Addr)).lookup c).getD 0)) 1 := by
      refine ⟨⟨clsIn_of xl1, xg1, xq1, xe1, xc1, inE, itE, xm1⟩, ⟨xg1, xq1, xe1, xd_1⟩, xr1, xv1, fun d b hd => ?_⟩
      refine look_all (G := fun (cd : Nat × Nat) b => cd.1 = 1 → PySem.W.kitOne K (.ref C1) (.ref ((([(0, C0), (1, C1), (2, C2), (3, C3), (4, C4), (5, C5), (6, C6), (7, C7)] : List (Nat × Addr)).lookup cd.2).getD 0)) = some b) (k := (1, d)) ?_ hd rfl
      exact (And.intro (fun _ => ks1_2) (And.intro (fun _ => ks1_3) (And.intro (fun _ => ks1_4) (And.intro (fun _ => ks1_5) (And.intro (fun _ => ks1_6) (And.intro (fun _ => ks1_1) (And.intro (fun _ => ks1_7) trivial)))))))
    exact (And.intro g1 (And.intro g1 (And.intro g1 (And.intro g1 (And.intro g1 (And.intro g1 (And.intro g1 trivial)))))))
  · refine look_all (G := fun d x => mg x = some (.ref ((([(0, C0), (1, C1), (2, C2), (3, C3), (4, C4), (5, C5), (6, C6), (7, C7)] : List (Nat × Addr)).lookup d).getD 0))) ?_ hx
    exact (And.intro (PySem.W.mg_of X G aC2) (And.intro (PySem.W.mg_of X G aC3) (And.intro (PySem.W.mg_of X G aC4) (And.intro (PySem.W.mg_of X G aC5) (And.intro (PySem.W.mg_of X G aC6) (And.intro (PySem.W.mg_of X G aC1) (And.intro (PySem.W.mg_of X G aC7) trivial)))))))
theorem walk {l : PySem.W.OpenLaw} {q : Program} {loose : List Str} {XP : (Str → Option Value) → Heap → Prop} {YP : World → Heap → Prop} {d : DefRec} {K : Params → PySem.W.Frag} (hn : l.most = some 63) (hdf : d.params.defaults = [])
    (hY : ∀ (w : World) (h : Heap), YP w h → (K w.params).In h)
    (F : ∀ (w : World) (mg : Str → Option Value) (fa : Addr) (h : Heap), (K w.params).In h → h.Ns mainGlobals mg → mg d.name = some (.ref fa) → ∃ Cl : Nat → Addr, PFacts w P T Cl ts (K w.params) mg ∧ ∃ fd : FuncData, (∀ (s : Shared) (v : Value), BindsTo s fd ⟨[v], []⟩ [("_law_script", v)]) ∧ Fun (K w.params) "law" "law" t136.st fa fd) :
    PySem.W.WalkO q loose XP YP l.row.toRowW d [] (fun f vs => PySem.call f vs) :=
  walk_G (n := 63) (k := 4 * 14) (x := "_law_script") hn (by decide) hdf ⟨rfl, by decide, by decide⟩ hY fun w mg fa h KX G hm => by
    obtain ⟨Cl, PF, fd, hb, hf⟩ := F w mg fa h KX G hm
    exact ⟨fd, _, hb, fun base _ _ => fn_all PF 14 136 ⟨1, 13, K24.b_law⟩ rfl t136 fa fd _ rfl hf ag136, law_sp law_pure⟩
end K24
open PySem PySem.W PyProof.Rows in
set_option maxRecDepth 100000 in
set_option maxHeartbeats 0 in
theorem PySem.Challenge.cw_swornrun_k24_wrong_rows_of_papers_holds : PySem.Challenge.rw_swornrun_k24_wrong_rows_of_papers.Holds := by
  w_on; o_law; k_head; (case hw => w_witness2)
  k_fill
  refine K24.walk (l := PySem.Challenge.rw_swornrun_k24_wrong_rows_of_papers) rfl rfl (fun w h Y => PySem.W.kIn_of Y) ?F
  case F =>
    intro w mg fa h KX G hmg
    refine' K24.all_mk KX G hmg ?a19 ?l19 ?c19 ?k19 ?a20 ?l20 ?c20 ?k20 ?a113 ?i113 ?l113 ?c113 ?k113 ?a117 ?l117 ?c117 ?k117 ?a118 ?l118 ?c118 ?k118 ?a119 ?l119 ?c119 ?k119 ?a120 ?l120 ?c120 ?k120 ?a33 ?l33 ?c33 ?k33 ?a121 ?l121 ?c121 ?k121 ?a122 ?l122 ?c122 ?k122 ?a123 ?l123 ?c123 ?k123 ?a124 ?l124 ?c124 ?k124 ?a125 ?l125 ?c125 ?k125 ?a126 ?l126 ?c126 ?k126 ?a130 ?l130 ?c130 ?k130 ?a131 ?l131 ?c131 ?k131 ?a132 ?l132 ?c132 ?k132 ?a133 ?l133 ?c133 ?k133 ?a134 ?l134 ?c134 ?k134 ?a135 ?l135 ?c135 ?k135 ?a136 ?l136 ?c136 ?k136 ?a137 ?l137 ?c137 ?k137 ?aC0 ?pg0 ?hd0 ?po0 ?sa0 ?mk0 ?kc0 ?fl0 ?fl1 ?fl2 ?lE ?cE ?kE ?zVE ?tyE ?inE ?itE ?aC1 ?xl1 ?xe1 ?xt1 ?aC2 ?xl2 ?xe2 ?xt2 ?aC3 ?xl3 ?xe3 ?xt3 ?aC4 ?xl4 ?xe4 ?xt4 ?aC5 ?xl5 ?xe5 ?xt5 ?aC6 ?xl6 ?xe6 ?xt6 ?aC7 ?xl7 ?xe7 ?xt7 ?xh1 ?xs1 ?xk1 ?xr1 ?xi1 ?xg1 ?xq1 ?xd_1 ?xc1 ?xm1 ?xv1 ?ks1_2 ?ks1_3 ?ks1_4 ?ks1_5 ?ks1_6 ?ks1_1 ?ks1_7 ?kx1_7 ?z0 ?z1 ?z2 ?z3 ?z4 ?z5 ?z6 ?z7 ?z8 ?z9 ?z10 ?z11 ?z12 ?z13 ?z14 ?z15 ?z16 ?z17 ?z18 ?z19 ?hg2 ?hg5 ?hg8 ?gk8 ?gv8_0 ?gv8_1 ?gv8_2 ?gv8_3 ?gv8_4 ?gv8_5 ?gv8_6 ?gv8_7 ?gv8_8
    (case aC0 => k_is)
    (case aC1 => k_is)
    (case aC2 => k_is)
    (case aC3 => k_is)
    (case aC4 => k_is)
    (case aC5 => k_is)
    (case aC6 => k_is)
    (case aC7 => k_is)
    (case xl1 => k_is)
    (case xl2 => k_is)
    (case xl3 => k_is)
    (case xl4 => k_is)
    (case xl5 => k_is)
    (case xl6 => k_is)
    (case xl7 => k_is)
    (case xi1 => k_is)
    (case a19 => k_is)
    (case l19 => k_is)
    (case c19 => k_is)
    (case k19 => k_is)
    (case a20 => k_is)
    (case l20 => k_is)
    (case c20 => k_is)
    (case k20 => k_is)
    (case a113 => k_is)
    (case i113 => k_is)
    (case l113 => k_is)
    (case c113 => k_is)
    (case k113 => k_is)
    (case a117 => k_is)
    (case l117 => k_is)
    (case c117 => k_is)
    (case k117 => k_is)
    (case a118 => k_is)
    (case l118 => k_is)
    (case c118 => k_is)
    (case k118 => k_is)
    (case a119 => k_is)
    (case l119 => k_is)
    (case c119 => k_is)
    (case k119 => k_is)
    (case a120 => k_is)
    (case l120 => k_is)
    (case c120 => k_is)
    (case k120 => k_is)
    (case a33 => k_is)
    (case l33 => k_is)
    (case c33 => k_is)
    (case k33 => k_is)
    (case a121 => k_is)
    (case l121 => k_is)
    (case c121 => k_is)
    (case k121 => k_is)
    (case a122 => k_is)
    (case l122 => k_is)
    (case c122 => k_is)
    (case k122 => k_is)
    (case a123 => k_is)
    (case l123 => k_is)
    (case c123 => k_is)
    (case k123 => k_is)
    (case a124 => k_is)
    (case l124 => k_is)
    (case c124 => k_is)
    (case k124 => k_is)
    (case a125 => k_is)
    (case l125 => k_is)
    (case c125 => k_is)
    (case k125 => k_is)
    (case a126 => k_is)
    (case l126 => k_is)
    (case c126 => k_is)
    (case k126 => k_is)
    (case a130 => k_is)
    (case l130 => k_is)
    (case c130 => k_is)
    (case k130 => k_is)
    (case a131 => k_is)
    (case l131 => k_is)
    (case c131 => k_is)
    (case k131 => k_is)
    (case a132 => k_is)
    (case l132 => k_is)
    (case c132 => k_is)
    (case k132 => k_is)
    (case a133 => k_is)
    (case l133 => k_is)
    (case c133 => k_is)
    (case k133 => k_is)
    (case a134 => k_is)
    (case l134 => k_is)
    (case c134 => k_is)
    (case k134 => k_is)
    (case a135 => k_is)
    (case l135 => k_is)
    (case c135 => k_is)
    (case k135 => k_is)
    (case a136 => k_is)
    (case l136 => k_is)
    (case c136 => k_is)
    (case k136 => k_is)
    (case a137 => k_is)
    (case l137 => k_is)
    (case c137 => k_is)
    (case k137 => k_is)
    (case pg0 => k_is)
    (case hd0 => k_is)
    (case po0 => k_is)
    (case sa0 => k_is)
    (case mk0 => k_is)
    (case kc0 => k_is)
    (case fl0 => k_is)
    (case fl1 => k_is)
    (case fl2 => k_is)
    (case lE => k_is)
    (case cE => k_is)
    (case kE => k_is)
    (case zVE => k_is)
    (case tyE => k_is)
    (case inE => k_is)
    (case itE => k_is)
    (case xe1 => k_is)
    (case xt1 => k_is)
    (case xe2 => k_is)
    (case xt2 => k_is)
    (case xe3 => k_is)
    (case xt3 => k_is)
    (case xe4 => k_is)
    (case xt4 => k_is)
    (case xe5 => k_is)
    (case xt5 => k_is)
    (case xe6 => k_is)
    (case xt6 => k_is)
    (case xe7 => k_is)
    (case xt7 => k_is)
    (case xh1 => exact ⟨rfl, rfl, by decide⟩)
    (case xs1 => k_is)
    (case xk1 => k_is)
    (case xr1 => k_is)
    (case xg1 => k_is)
    (case xq1 => k_is)
    (case xd_1 => k_is)
    (case xc1 => k_is)
    (case xm1 => k_is)
    (case xv1 => kit_is)
    (case ks1_2 => kit_is)
    (case ks1_3 => kit_is)
    (case ks1_4 => kit_is)
    (case ks1_5 => kit_is)
    (case ks1_6 => kit_is)
    (case ks1_1 => kit_is)
    (case ks1_7 => kit_is)
    (case kx1_7 => k_is)
    (case z0 => k_is)
    (case z1 => k_is)
    (case z2 => k_is)
    (case z3 => k_is)
    (case z4 => k_is)
    (case z5 => k_is)
    (case z6 => k_is)
    (case z7 => k_is)
    (case z8 => k_is)
    (case z9 => k_is)
    (case z10 => k_is)
    (case z11 => k_is)
    (case z12 => k_is)
    (case z13 => k_is)
    (case z14 => k_is)
    (case z15 => k_is)
    (case z16 => k_is)
    (case z17 => k_is)
    (case z18 => k_is)
    (case z19 => k_is)
    (case hg2 => k_is)
    (case hg5 => k_is)
    (case hg8 => k_is)
    (case gk8 => first | k_is | rfl)
    (case gv8_0 => k_is)
    (case gv8_1 => k_is)
    (case gv8_2 => k_is)
    (case gv8_3 => k_is)
    (case gv8_4 => k_is)
    (case gv8_5 => k_is)
    (case gv8_6 => k_is)
    (case gv8_7 => k_is)
    (case gv8_8 => k_is)

