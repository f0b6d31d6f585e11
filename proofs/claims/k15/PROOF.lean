import PyProof.Rows.All
import Wide.All
import OpenK.AllK
import Wide.FinOn
import HandS.ForMost
import HandS.Evl
import HandS.Wide
import HandS.IsInst
import HandS.Conv
import HandS.Codes
import HandS.Style
import HandS.TupAny
import HandS.Walk
import PySem.Challenge.RW_swornrun_k15_values_and_contents
set_option Elab.async false
set_option linter.all false
set_option maxRecDepth 100000
set_option maxHeartbeats 4000000
set_option maxRecDepth 100000
set_option maxHeartbeats 2000000
/-! VL: values without a heap, an own syntax of the defs, predicate transformers by recursion. -/
namespace VL
open PySem L2

/-- a value: immutable things as they are; what is changed stands in a cell -/
inductive AV where
  | non | bl (b : Bool) | int (i : Int) | str (s : Str)
  | tup (xs : List AV) | lst (xs : List AV) | ro (xs : List AV) | dct (kvs : List (Key × AV))
  | adr (n : Nat)
/-- what is changed -/
inductive Cell where
  | lst (xs : List AV) | dct (kvs : List (Key × AV)) | obj (c : Nat) (fs : List (Str × AV)) | dead
abbrev AHeap := List Cell
inductive Slot where
  | no | val (d : AV) | own (c : Cell)
abbrev Env := List Slot

inductive Tg where
  | nm (i : Nat) | tup (is : List Nat)
inductive Blt where
  | len | abs | int | str | max2 | min2 | maxL | minL | sum | all | any | tuple | repr
deriving DecidableEq
inductive Sm where
  | join
deriving DecidableEq
mutual
inductive E where
  | var (i : Nat) | vw (i : Nat)
  | cint (i : Int) | cstr (s : Str) | cbl (b : Bool) | cnon
  | glob (g : Nat)
  | bin (op : Operator) (a b : E)
  | neg (a : E)
  | cmp (op : CmpOp) (a b : E)
  | chain (o1 o2 : CmpOp) (a b c : E)
  | and (a b : E) | or (a b : E) | not (a : E)
  | ite (c a b : E)
  | tup (es : Es)
  | fz (n : Nw) | new (n : Nw)
  | sub (a i : E)
  | slice (a : E) (lo hi : Oe)
  | call (f : Nat) (es : Es)
  | blt (b : Blt) (es : Es)
  | isi (a : E) (t : String)
  | smt (m : Sm) (o : E) (a : E)
  | attr (a : E) (f : Str)
  | mcall (o : E) (m : Str) (es : Es)
  | make (c : Nat) (es : Es)
  | tru (a : E)
inductive Es where
  | nil | cons (e : E) (es : Es)
inductive Nw where
  | lst (es : Es)
  | comp (elt : E) (tg : Tg) (it : It) (cond : Oe) (own : List Nat)
  | slice (a : E) (lo hi : Oe)
  | listOf (a : E)
  | cat (a b : E)
  | rev (a : E)
  | dct1 (k v : E)
inductive It where
  | rng1 (a : E) | rng2 (a b : E) | seq (a : E) | own (i : Nat) | chars (a : E)
inductive Oe where
  | no | so (e : E)
end
mutual
inductive S where
  | asg (tg : Tg) (e : E)
  | asgO (i : Nat) (n : Nw)
  | frz (i : Nat)
  | par (i j : Nat) (a b : E)
  | aug (i : Nat) (op : Operator) (e : E)
  | app (i : Nat) (e : E)
  | appE (o e : E)
  | put (i : Nat) (k e : E)
  | putE (o k e : E)
  | fld (o : E) (f : Str) (e : E)
  | expr (e : E)
  | ret (e : E) | retN
  | ite (c : E) (a b : Ss)
  | wh (c : E) (b : Ss)
  | for (tg : Tg) (it : It) (b : Ss)
  | pass | brk | cont
inductive Ss where
  | nil | cons (s : S) (r : Ss)
end

/-! ### operations -/
abbrev KA := AV → Prop
def cells (h : AHeap) (n : Nat) : Cell := (h[n]?).getD .dead
/-- the items of a list -/
def view (h : AHeap) : AV → Option (List AV)
  | .lst xs => some xs
  | .ro xs => some xs
  | .adr n => match cells h n with
    | .lst xs => some xs
    | _ => none
  | _ => none
/-- a list that may be glued -/
def viewW (h : AHeap) : AV → Option (List AV)
  | .lst xs => some xs
  | .adr n => match cells h n with
    | .lst xs => some xs
    | _ => none
  | _ => none
def viewT (h : AHeap) : AV → Option (List AV)
  | .tup xs => some xs
  | x => view h x
def viewD (h : AHeap) : AV → Option (List (Key × AV))
  | .dct xs => some xs
  | .adr n => match cells h n with
    | .dct xs => some xs
    | _ => none
  | _ => none
def keyOf : AV → Option Key
  | .int i => some (.inl i)
  | .str s => some (.inr s)
  | _ => none
def getD (kvs : List (Key × AV)) (k : Key) : Option AV := (kvs.find? fun kv => decide (kv.1 = k)).map (·.2)
def putD (kvs : List (Key × AV)) (k : Key) (v : AV) : List (Key × AV) :=
  if (kvs.any fun kv => decide (kv.1 = k)) = true then kvs.map (fun kv => if kv.1 = k then (kv.1, v) else kv) else kvs ++ [(k, v)]
def asInts : List AV → Option (List Int)
  | [] => some []
  | .int i :: r => (asInts r).map (i :: ·)
  | _ => none
def asBools : List AV → Option (List Bool)
  | [] => some []
  | .bl i :: r => (asBools r).map (i :: ·)
  | _ => none
def asStrs : List AV → Option (List Str)
  | [] => some []
  | .str i :: r => (asStrs r).map (i :: ·)
  | _ => none
def cut {α : Type} (xs : List α) (lo hi : Option Int) : List α := (xs.drop (HT.sIx xs.length 0 lo)).take (HT.sIx xs.length xs.length hi - HT.sIx xs.length 0 lo)

mutual
def pd : AV → Option PyData
  | .non => some .none
  | .bl b => some (.bool b)
  | .int i => some (.int i)
  | .str s => some (.str s)
  | .tup xs => (pds xs).map .tuple
  | .lst xs => (pds xs).map .list
  | .ro xs => (pds xs).map .list
  | .dct _ => none
  | .adr _ => none
def pds : List AV → Option (List PyData)
  | [] => some []
  | x :: r => (pd x).bind fun d => (pds r).map (d :: ·)
end
mutual
def pdH (h : AHeap) : AV → Option PyData
  | .non => some .none
  | .bl b => some (.bool b)
  | .int i => some (.int i)
  | .str s => some (.str s)
  | .tup xs => (pdHs h xs).map .tuple
  | .lst xs => (pdHs h xs).map .list
  | .ro xs => (pdHs h xs).map .list
  | .dct _ => none
  | .adr n => match cells h n with
    | .lst xs => (pds xs).map .list
    | _ => none
def pdHs (h : AHeap) : List AV → Option (List PyData)
  | [] => some []
  | x :: r => (pdH h x).bind fun d => (pdHs h r).map (d :: ·)
end

def isNon : AV → Bool
  | .non => true
  | _ => false
def eqGen (h : AHeap) (neg : Bool) (x y : AV) (Q : KA) : Prop :=
  match pdH h x, pdH h y with
  | some d, some e => SeqAt.shaped d = true ∧ SeqAt.shaped e = true ∧ Q (.bl (if neg then !PyData.eqv d e else PyData.eqv d e))
  | _, _ => False
def eqK (h : AHeap) (x y : AV) (Q : KA) : Prop :=
  match x, y with
  | .int i, .int j => Q (.bl (decide (i = j)))
  | .str i, .str j => Q (.bl (decide (i = j)))
  | .bl i, .bl j => Q (.bl (decide (i = j)))
  | .non, .non => Q (.bl true)
  | .int _, .str _ => Q (.bl false)
  | .str _, .int _ => Q (.bl false)
  | x, y => eqGen h false x y Q
def neK (h : AHeap) (x y : AV) (Q : KA) : Prop :=
  match x, y with
  | .int i, .int j => Q (.bl (!decide (i = j)))
  | .str i, .str j => Q (.bl (!decide (i = j)))
  | .bl i, .bl j => Q (.bl (!decide (i = j)))
  | .non, .non => Q (.bl false)
  | .int _, .str _ => Q (.bl true)
  | .str _, .int _ => Q (.bl true)
  | x, y => eqGen h true x y Q
def flatA : AV → Bool
  | .non => true
  | .bl _ => true
  | .int _ => true
  | .str _ => true
  | _ => false
def eqF : AV → AV → Bool
  | .non, .non => true
  | .bl a, .bl b => a == b
  | .bl a, .int b => (if a then 1 else 0) == b
  | .int a, .bl b => a == (if b then 1 else 0)
  | .int a, .int b => a == b
  | .str a, .str b => a == b
  | _, _ => false
def inK (h : AHeap) (neg : Bool) (x y : AV) (Q : KA) : Prop :=
  match y with
  | .str z => match x with
    | .str w => match w.cps.toList with
      | [c] => Q (.bl (if neg then !decide (c ∈ z.cps.toList) else decide (c ∈ z.cps.toList)))
      | _ => False
    | _ => False
  | y => match viewT h y with
    | some xs => flatA x = true ∧ xs.all flatA = true ∧ Q (.bl (if neg then !(xs.any fun y => eqF y x) else xs.any fun y => eqF y x))
    | none => match viewD h y, keyOf x with
      | some kvs, some k => Q (.bl (if neg then !(getD kvs k).isSome else (getD kvs k).isSome))
      | _, _ => False
def cmpK (h : AHeap) (op : CmpOp) (x y : AV) (Q : KA) : Prop :=
  match op with
  | .Eq => eqK h x y Q
  | .NotEq => neK h x y Q
  | .Lt => match x, y with
    | .int i, .int j => Q (.bl (decide (i < j)))
    | _, _ => False
  | .LtE => match x, y with
    | .int i, .int j => Q (.bl (decide (i ≤ j)))
    | _, _ => False
  | .Gt => match x, y with
    | .int i, .int j => Q (.bl (decide (j < i)))
    | _, _ => False
  | .GtE => match x, y with
    | .int i, .int j => Q (.bl (decide (j ≤ i)))
    | _, _ => False
  | .Is => match y with
    | .non => Q (.bl (isNon x))
    | _ => False
  | .IsNot => match y with
    | .non => Q (.bl (!isNon x))
    | _ => False
  | .In => inK h false x y Q
  | .NotIn => inK h true x y Q
def CDivA (j : Int) : Prop := 0 < j ∧ j.natAbs.log2 < 9000
def CMulA (i j : Int) : Prop := CMul i j ∨ CMulW i j
def addK (h : AHeap) (x y : AV) (Q : KA) : Prop :=
  match x, y with
  | .int i, .int j => Q (.int (i + j))
  | .str i, .str j => i.length + j.length ≤ sizeLine ∧ Q (.str (i ++ j))
  | .tup xs, .tup ys => xs.length + ys.length ≤ sizeLine ∧ Q (.tup (xs ++ ys))
  | _, _ => False
def strRep (x : Str) (n : Int) : Str := if n < 1 then Str.empty else if (n == 1 || x.length == 0) = true then x else ⟨(List.replicate n.toNat x.cps).foldl (· ++ ·) #[]⟩
def binK (h : AHeap) (op : Operator) (x y : AV) (Q : KA) : Prop :=
  match op with
  | .Add => addK h x y Q
  | .Sub => match x, y with
    | .int i, .int j => Q (.int (i - j))
    | _, _ => False
  | .Mult => match x, y with
    | .int i, .int j => CMulA i j ∧ Q (.int (i * j))
    | .str z, .int j => (-(2 ^ 60) < j ∧ j < 2 ^ 60 ∧ z.length * j.toNat ≤ 1000000) ∧ Q (.str (strRep z j))
    | _, _ => False
  | .FloorDiv => match x, y with
    | .int i, .int j => CDivA j ∧ Q (.int (i / j))
    | _, _ => False
  | .Mod => match x, y with
    | .int i, .int j => 0 < j ∧ Q (.int (i % j))
    | _, _ => False
  | .Pow => match x, y with
    | .int i, .int j => CPow i j ∧ Q (.int (i ^ j.toNat))
    | _, _ => False
  | _ => False
def negK (x : AV) (Q : KA) : Prop :=
  match x with
  | .int i => Q (.int (-i))
  | _ => False
def subK (h : AHeap) (x y : AV) (Q : KA) : Prop :=
  match x with
  | .str z => match y with
    | .int i => z.length ≤ sizeLine ∧ match atI z.cps.toList i with
      | some c => Q (.str ⟨#[c]⟩)
      | none => False
    | _ => False
  | x => match viewT h x with
    | some xs => match y with
      | .int i => match atI xs i with
        | some d => Q d
        | none => False
      | _ => False
    | none => match viewD h x, keyOf y with
      | some kvs, some k => match getD kvs k with
        | some d => Q d
        | none => False
      | _, _ => False
def sliceK (h : AHeap) (x : AV) (lo hi : Option Int) (Q : KA) : Prop :=
  match x with
  | .str z => z.length ≤ sizeLine ∧ Q (.str (cutS z lo hi))
  | .tup xs => Q (.tup (cut xs lo hi))
  | _ => False
def truK (h : AHeap) (x : AV) (Q : Bool → Prop) : Prop :=
  match x with
  | .bl b => Q b
  | .non => Q false
  | .int i => Q (i != 0)
  | .str y => y.length ≤ sizeLine ∧ Q ((y.length : Int) != 0)
  | x => match viewT h x with
    | some xs => Q (!xs.isEmpty)
    | none => False
def bltK (h : AHeap) (b : Blt) (vs : List AV) (Q : KA) : Prop :=
  match b, vs with
  | .len, [.str z] => z.length ≤ sizeLine ∧ Q (.int z.length)
  | .len, [x] => match viewT h x with
    | some xs => Q (.int xs.length)
    | none => match viewD h x with
      | some kvs => Q (.int kvs.length)
      | none => False
  | .abs, [.int i] => Q (.int (if i < 0 then -i else i))
  | .int, [.int i] => Q (.int i)
  | .int, [.bl k] => Q (.int (if k then 1 else 0))
  | .str, [.int i] => i.natAbs.log2 < 1920 ∧ Q (.str (toString i))
  | .max2, [.int i, .int j] => Q (.int (if j > i then j else i))
  | .min2, [.int i, .int j] => Q (.int (if j < i then j else i))
  | .maxL, [x] => match (view h x).bind asInts with
    | some ns => 0 < ns.length ∧ ∀ m, m ∈ ns → (∀ y, y ∈ ns → y ≤ m) → Q (.int m)
    | none => False
  | .minL, [x] => match (view h x).bind asInts with
    | some ns => 0 < ns.length ∧ ∀ m, m ∈ ns → (∀ y, y ∈ ns → m ≤ y) → Q (.int m)
    | none => False
  | .sum, [x] => match (view h x).bind asInts with
    | some ns => Q (.int ns.sum)
    | none => False
  | .all, [x] => match (view h x).bind asBools with
    | some bs => Q (.bl (bs.all id))
    | none => False
  | .any, [x] => match (view h x).bind asBools with
    | some bs => Q (.bl (bs.any id))
    | none => False
  | .repr, [x] => match pdH h x with
    | some d => (d.showable = true ∧ d.hasDict = false ∧ d.depth ≤ 50 ∧ d.shown.length ≤ sizeLine) ∧ Q (.str d.shown)
    | none => False
  | .tuple, [.tup xs] => Q (.tup xs)
  | .tuple, [x] => match view h x with
    | some xs => Q (.tup xs)
    | none => False
  | _, _ => False
/-- isinstance against a built-in type -/
def isiK (x : AV) (t : String) (h : AHeap) (Q : KA) : Prop :=
  match x with
  | .non => (t = "int" ∨ t = "bool" ∨ t = "str" ∨ t = "list" ∨ t = "tuple") ∧ Q (.bl false)
  | .bl _ => (t = "int" ∧ Q (.bl true)) ∨ (t = "bool" ∧ Q (.bl true)) ∨ ((t = "str" ∨ t = "list" ∨ t = "tuple") ∧ Q (.bl false))
  | .int _ => (t = "int" ∧ Q (.bl true)) ∨ ((t = "bool" ∨ t = "str" ∨ t = "list" ∨ t = "tuple") ∧ Q (.bl false))
  | .str _ => (t = "str" ∧ Q (.bl true)) ∨ ((t = "bool" ∨ t = "int" ∨ t = "list" ∨ t = "tuple") ∧ Q (.bl false))
  | .tup _ => (t = "tuple" ∧ Q (.bl true)) ∨ ((t = "bool" ∨ t = "int" ∨ t = "list" ∨ t = "str") ∧ Q (.bl false))
  | .dct _ => False
  | x => match view h x with
    | some _ => (t = "list" ∧ Q (.bl true)) ∨ ((t = "bool" ∨ t = "int" ∨ t = "tuple" ∨ t = "str") ∧ Q (.bl false))
    | none => False
def smtK (h : AHeap) (m : Sm) (z : Str) (a : AV) (Q : KA) : Prop :=
  match m with
  | .join => match (viewT h a).bind asStrs with
    | some ys => (ys.map (·.length)).sum + ys.length * z.length ≤ 16777216 ∧ Q (.str (Txt.join z ys))
    | none => False

/-! ### the transformers -/
structure Ctx where
  glob : Nat → Option AV
  call : Nat → List AV → AHeap → (AV → AHeap → Prop) → Prop
  meth : Nat → Str → Option Nat
  init : Nat → Option Nat
  fld : Nat → Str → Bool

def getS : Env → Nat → Slot
  | [], _ => .no
  | x :: _, 0 => x
  | _ :: r, n + 1 => getS r n
def setS : Env → Nat → Slot → Env
  | [], _, _ => []
  | _ :: r, 0, v => v :: r
  | x :: r, n + 1, v => x :: setS r n v
def wipeS (ρ : Env) : List Nat → Env
  | [] => ρ
  | v :: vs => setS (wipeS ρ vs) v .no
def setsS : Env → List Nat → List AV → Option Env
  | ρ, [], [] => some ρ
  | ρ, i :: is, x :: xs => setsS (setS ρ i (.val x)) is xs
  | _, _, _ => none
def tgK (tg : Tg) (x : AV) (ρ : Env) (Q : Env → Prop) : Prop :=
  match tg with
  | .nm i => Q (setS ρ i (.val x))
  | .tup is => match x with
    | .tup xs => match setsS ρ is xs with
      | some ρ' => Q ρ'
      | none => False
    | _ => False

/-- a comprehension's loop: B gives an item, or none -/
def compL (B : AV → AHeap → (Option AV → AHeap → Prop) → Prop) (chk : AHeap → Prop) : List AV → List AV → AHeap → (List AV → AHeap → Prop) → Prop
  | [], acc, h, Q => chk h ∧ Q acc h
  | x :: xs, acc, h, Q => chk h ∧ B x h fun r h' => compL B chk xs (match r with | some y => acc ++ [y] | none => acc) h' Q

mutual
def WpE (C : Ctx) : Bool → E → Env → AHeap → (AV → AHeap → Prop) → Prop
  | _, .var i, ρ, h, Q => match getS ρ i with
    | .val d => Q d h
    | _ => False
  | true, .vw i, ρ, h, Q => match getS ρ i with
    | .own (.lst xs) => Q (.lst xs) h
    | .own (.dct xs) => Q (.dct xs) h
    | _ => False
  | false, .vw _, _, _, _ => False
  | _, .tru _, _, _, _ => False
  | _, .cint i, _, h, Q => Q (.int i) h
  | _, .cstr s, _, h, Q => Q (.str s) h
  | _, .cbl b, _, h, Q => Q (.bl b) h
  | _, .cnon, _, h, Q => Q .non h
  | _, .glob g, _, h, Q => match C.glob g with
    | some d => Q d h
    | none => False
  | _, .bin op a b, ρ, h, Q => WpE C false a ρ h fun x h1 => WpE C false b ρ h1 fun y h2 => binK h2 op x y fun z => Q z h2
  | _, .neg a, ρ, h, Q => WpE C false a ρ h fun x h1 => negK x fun z => Q z h1
  | _, .cmp op a b, ρ, h, Q => WpE C true a ρ h fun x h1 => WpE C true b ρ h1 fun y h2 => cmpK h2 op x y fun z => Q z h2
  | _, .chain o1 o2 a b c, ρ, h, Q => WpE C false a ρ h fun x h1 => WpE C false b ρ h1 fun y h2 => cmpK h2 o1 x y fun z => match z with
    | .bl true => WpE C false c ρ h2 fun w h3 => cmpK h3 o2 y w fun z => Q z h3
    | .bl false => Q (.bl false) h2
    | _ => False
  | _, .and a b, ρ, h, Q => WpE C false a ρ h fun x h1 => match x with
    | .bl true => WpE C false b ρ h1 Q
    | .bl false => Q (.bl false) h1
    | _ => False
  | _, .or a b, ρ, h, Q => WpE C false a ρ h fun x h1 => match x with
    | .bl false => WpE C false b ρ h1 Q
    | .bl true => Q (.bl true) h1
    | _ => False
  | _, .not a, ρ, h, Q => WpE C false a ρ h fun x h1 => match x with
    | .bl b => Q (.bl (!b)) h1
    | _ => False
  | _, .ite c a b, ρ, h, Q => WpT C c ρ h fun k h1 => if k = true then WpE C false a ρ h1 Q else WpE C false b ρ h1 Q
  | _, .tup es, ρ, h, Q => WpEs C es ρ h fun xs h1 => xs.length ≤ sizeLine ∧ Q (.tup xs) h1
  | _, .fz n, ρ, h, Q => WpN C n ρ h fun c h1 => match c with
    | .lst xs => Q (.lst xs) h1
    | .dct xs => Q (.dct xs) h1
    | _ => False
  | _, .new n, ρ, h, Q => WpN C n ρ h fun c h1 => Q (.adr h1.length) (h1 ++ [c])
  | _, .sub a i, ρ, h, Q => WpE C true a ρ h fun x h1 => WpE C false i ρ h1 fun y h2 => subK h2 x y fun z => Q z h2
  | _, .slice a lo hi, ρ, h, Q => WpE C false a ρ h fun x h1 => WpO C lo ρ h1 fun l h2 => WpO C hi ρ h2 fun u h3 => sliceK h3 x l u fun z => Q z h3
  | _, .call f es, ρ, h, Q => WpEs C es ρ h fun xs h1 => C.call f xs h1 Q
  | _, .blt b es, ρ, h, Q => WpBs C es ρ h fun xs h1 => bltK h1 b xs fun z => Q z h1
  | _, .isi a t, ρ, h, Q => WpE C true a ρ h fun x h1 => isiK x t h1 fun z => Q z h1
  | _, .smt m o a, ρ, h, Q => WpE C false o ρ h fun x h1 => match x with
    | .str z => WpE C true a ρ h1 fun y h2 => smtK h2 m z y fun z => Q z h2
    | _ => False
  | _, .attr a f, ρ, h, Q => WpE C false a ρ h fun x h1 => match x with
    | .adr n => match cells h1 n with
      | .obj c fs => C.fld c f = true ∧ match fs.lookup f with
        | some d => Q d h1
        | none => False
      | _ => False
    | _ => False
  | _, .mcall o m es, ρ, h, Q => WpE C false o ρ h fun x h1 => match x with
    | .adr n => match cells h1 n with
      | .obj c fs => match fs.lookup m with
        | some _ => False
        | none => match C.meth c m with
          | some f => WpEs C es ρ h1 fun xs h2 => C.call f (x :: xs) h2 Q
          | none => False
      | _ => False
    | _ => False
  | _, .make c es, ρ, h, Q => WpEs C es ρ h fun xs h1 => match C.init c with
    | some f => C.call f (.adr h1.length :: xs) (h1 ++ [.obj c []]) fun r h2 => match r with
      | .non => Q (.adr h1.length) h2
      | _ => False
    | none => False
def WpEs (C : Ctx) : Es → Env → AHeap → (List AV → AHeap → Prop) → Prop
  | .nil, _, h, Q => Q [] h
  | .cons e es, ρ, h, Q => WpE C false e ρ h fun x h1 => WpEs C es ρ h1 fun xs h2 => Q (x :: xs) h2
def WpBs (C : Ctx) : Es → Env → AHeap → (List AV → AHeap → Prop) → Prop
  | .nil, _, h, Q => Q [] h
  | .cons e es, ρ, h, Q => WpE C true e ρ h fun x h1 => WpBs C es ρ h1 fun xs h2 => Q (x :: xs) h2
def WpO (C : Ctx) : Oe → Env → AHeap → (Option Int → AHeap → Prop) → Prop
  | .no, _, h, Q => Q none h
  | .so e, ρ, h, Q => WpE C false e ρ h fun x h1 => match x with
    | .int i => Q (some i) h1
    | _ => False
def WpN (C : Ctx) : Nw → Env → AHeap → (Cell → AHeap → Prop) → Prop
  | .lst es, ρ, h, Q => WpEs C es ρ h fun xs h1 => xs.length ≤ sizeLine ∧ Q (.lst xs) h1
  | .comp elt tg it cond own, ρ, h, Q => WpI C it ρ h fun xs chk h1 => xs.length ≤ sizeLine ∧ compL (fun x h2 R => tgK tg x (wipeS ρ own) fun ρ2 => WpC C cond ρ2 h2 fun k h3 => if k = true then WpE C false elt ρ2 h3 fun y h4 => R (some y) h4 else R none h3) chk xs [] h1 fun acc h2 => Q (.lst acc) h2
  | .slice a lo hi, ρ, h, Q => WpE C true a ρ h fun x h1 => WpO C lo ρ h1 fun l h2 => WpO C hi ρ h2 fun u h3 => match view h3 x with
    | some xs => Q (.lst (cut xs l u)) h3
    | none => False
  | .listOf a, ρ, h, Q => WpE C true a ρ h fun x h1 => match viewT h1 x with
    | some xs => Q (.lst xs) h1
    | none => False
  | .cat a b, ρ, h, Q => WpE C true a ρ h fun x h1 => WpE C true b ρ h1 fun y h2 => match viewW h2 x, viewW h2 y with
    | some xs, some ys => xs.length + ys.length ≤ sizeLine ∧ Q (.lst (xs ++ ys)) h2
    | _, _ => False
  | .rev a, ρ, h, Q => WpE C true a ρ h fun x h1 => match view h1 x with
    | some xs => Q (.lst xs.reverse) h1
    | none => False
  | .dct1 k v, ρ, h, Q => WpE C false k ρ h fun x h1 => WpE C false v ρ h1 fun y h2 => match keyOf x with
    | some k => Q (.dct [(k, y)]) h2
    | none => False
/-- what is walked: the items; what must stay so while they are -/
def WpI (C : Ctx) : It → Env → AHeap → (List AV → (AHeap → Prop) → AHeap → Prop) → Prop
  | .rng1 a, ρ, h, Q => WpE C false a ρ h fun x h1 => match x with
    | .int n => (-(2 ^ 62) ≤ n ∧ n < 2 ^ 62) ∧ Q ((List.range n.toNat).map fun (k : Nat) => .int (k : Int)) (fun _ => True) h1
    | _ => False
  | .rng2 a b, ρ, h, Q => WpE C false a ρ h fun x h1 => WpE C false b ρ h1 fun y h2 => match x, y with
    | .int i, .int n => (-(2 ^ 62) ≤ i ∧ i < 2 ^ 62 ∧ -(2 ^ 62) ≤ n ∧ n < 2 ^ 62) ∧ Q ((List.range (n - i).toNat).map fun (k : Nat) => .int (i + (k : Int))) (fun _ => True) h2
    | _, _ => False
  | .own i, ρ, h, Q => match getS ρ i with
    | .own (.lst xs) => Q xs (fun _ => True) h
    | _ => False
  | .seq a, ρ, h, Q => WpE C false a ρ h fun x h1 => match viewT h1 x with
    | some xs => Q xs (fun h' => viewT h' x = some xs) h1
    | none => False
  | .chars a, ρ, h, Q => WpE C false a ρ h fun x h1 => match x with
    | .str z => Q (z.cps.toList.map fun c => .str ⟨#[c]⟩) (fun _ => True) h1
    | _ => False
def WpC (C : Ctx) : Oe → Env → AHeap → (Bool → AHeap → Prop) → Prop
  | .no, _, h, Q => Q true h
  | .so e, ρ, h, Q => WpT C e ρ h Q
/-- a test -/
def WpT (C : Ctx) : E → Env → AHeap → (Bool → AHeap → Prop) → Prop
  | .and a b, ρ, h, Q => WpT C a ρ h fun k h1 => if k = true then WpT C b ρ h1 Q else Q false h1
  | .or a b, ρ, h, Q => WpT C a ρ h fun k h1 => if k = true then Q true h1 else WpT C b ρ h1 Q
  | .not a, ρ, h, Q => WpT C a ρ h fun k h1 => Q (!k) h1
  | .cmp op a b, ρ, h, Q => WpE C true a ρ h fun x h1 => WpE C true b ρ h1 fun y h2 => cmpK h2 op x y fun z => match z with
    | .bl k => Q k h2
    | _ => False
  | .chain o1 o2 a b c, ρ, h, Q => WpE C false a ρ h fun x h1 => WpE C false b ρ h1 fun y h2 => cmpK h2 o1 x y fun z => match z with
    | .bl true => WpE C false c ρ h2 fun w h3 => cmpK h3 o2 y w fun z => match z with
      | .bl k => Q k h3
      | _ => False
    | .bl false => Q false h2
    | _ => False
  | .cbl b, _, h, Q => Q b h
  | .tru e, ρ, h, Q => WpE C false e ρ h fun x h1 => truK h1 x fun k => Q k h1
  | _, _, _, _ => False
end

/-! ### statements -/
structure Kt where
  nx : Env → AHeap → Prop
  rt : AV → AHeap → Prop
  bk : Env → AHeap → Prop := fun _ _ => False
  ct : Env → AHeap → Prop := fun _ _ => False
def forL (B : AV → Kt → Env → AHeap → Prop) (chk : AHeap → Prop) (D : Kt) : List AV → Env → AHeap → Prop
  | [], ρ, h => chk h ∧ D.nx ρ h
  | x :: xs, ρ, h => chk h ∧ B x { D with nx := forL B chk D xs, ct := forL B chk D xs, bk := D.nx } ρ h
def whL (T : Env → AHeap → (Bool → AHeap → Prop) → Prop) (B : Kt → Env → AHeap → Prop) (D : Kt) (ρ : Env) (h : AHeap) : Prop :=
  ∃ W : Nat → Env → AHeap → Prop, (∃ m, W m ρ h) ∧ ∀ m ρ h, W m ρ h → T ρ h fun b h1 =>
    if b = true then B { D with nx := fun ρ' h' => ∃ m', m' < m ∧ W m' ρ' h', ct := fun ρ' h' => ∃ m', m' < m ∧ W m' ρ' h', bk := D.nx } ρ h1 else D.nx ρ h1
def putFA (f : Str) (v : AV) : List (Str × AV) → List (Str × AV)
  | [] => [(f, v)]
  | (g, u) :: r => if g = f then (g, v) :: r else (g, u) :: putFA f v r
/-- a cell's item stored: o[k] = d -/
def putC (c : Cell) (k d : AV) (Q : Cell → Prop) : Prop :=
  match c with
  | .lst xs => match k with
    | .int i => match ixN xs.length i with
      | some j => Q (.lst (xs.set j d))
      | none => False
    | _ => False
  | .dct kvs => match keyOf k with
    | some k => kvs.length < 100000 ∧ Q (.dct (putD kvs k d))
    | none => False
  | _ => False
def appC (c : Cell) (d : AV) (Q : Cell → Prop) : Prop :=
  match c with
  | .lst xs => xs.length < sizeLine ∧ Q (.lst (xs ++ [d]))
  | _ => False
def augK (op : Operator) (x y : AV) (Q : KA) : Prop :=
  match op, x, y with
  | .Add, .int i, .int j => Q (.int (i + j))
  | .Sub, .int i, .int j => Q (.int (i - j))
  | _, _, _ => False
mutual
def WpS (C : Ctx) : S → Kt → Env → AHeap → Prop
  | .asg tg e, D, ρ, h => WpE C false e ρ h fun x h1 => tgK tg x ρ fun ρ' => D.nx ρ' h1
  | .asgO i n, D, ρ, h => WpN C n ρ h fun c h1 => D.nx (setS ρ i (.own c)) h1
  | .frz i, D, ρ, h => match getS ρ i with
    | .own (.lst xs) => D.nx (setS ρ i (.val (.lst xs))) h
    | .own (.dct xs) => D.nx (setS ρ i (.val (.dct xs))) h
    | _ => False
  | .par i j a b, D, ρ, h => WpE C false a ρ h fun x h1 => WpE C false b ρ h1 fun y h2 => D.nx (setS (setS ρ i (.val x)) j (.val y)) h2
  | .aug i op e, D, ρ, h => match getS ρ i with
    | .val x => WpE C false e ρ h fun y h1 => augK op x y fun z => D.nx (setS ρ i (.val z)) h1
    | _ => False
  | .app i e, D, ρ, h => match getS ρ i with
    | .own (.lst xs) => WpE C false e ρ h fun d h1 => xs.length < sizeLine ∧ D.nx (setS ρ i (.own (.lst (xs ++ [d])))) h1
    | _ => False
  | .appE o e, D, ρ, h => WpE C false o ρ h fun x h1 => match x with
    | .adr n => match cells h1 n with
      | .lst _ => WpE C false e ρ h1 fun d h2 => appC (cells h2 n) d fun c' => D.nx ρ (h2.set n c')
      | _ => False
    | _ => False
  | .put i k e, D, ρ, h => match getS ρ i with
    | .own c => WpE C false e ρ h fun d h1 => WpE C false k ρ h1 fun y h2 => putC c y d fun c' => D.nx (setS ρ i (.own c')) h2
    | _ => False
  | .putE o k e, D, ρ, h => WpE C false e ρ h fun d h1 => WpE C false o ρ h1 fun x h2 => WpE C false k ρ h2 fun y h3 => match x with
    | .adr n => putC (cells h3 n) y d fun c' => D.nx ρ (h3.set n c')
    | _ => False
  | .fld o f e, D, ρ, h => WpE C false e ρ h fun d h1 => WpE C false o ρ h1 fun x h2 => match x with
    | .adr n => match cells h2 n with
      | .obj c fs => C.fld c f = true ∧ fs.length < 1000 ∧ D.nx ρ (h2.set n (.obj c (putFA f d fs)))
      | _ => False
    | _ => False
  | .expr e, D, ρ, h => WpE C false e ρ h fun _ h1 => D.nx ρ h1
  | .ret e, D, ρ, h => WpE C false e ρ h fun d h1 => D.rt d h1
  | .retN, D, _, h => D.rt .non h
  | .ite c a b, D, ρ, h => WpT C c ρ h fun k h1 => if k = true then WpSs C a D ρ h1 else WpSs C b D ρ h1
  | .wh c b, D, ρ, h => whL (WpT C c) (WpSs C b) D ρ h
  | .for tg it b, D, ρ, h => WpI C it ρ h fun xs chk h1 => forL (fun x D ρ h => tgK tg x ρ fun ρ' => WpSs C b D ρ' h) chk D xs ρ h1
  | .pass, D, ρ, h => D.nx ρ h
  | .brk, D, ρ, h => D.bk ρ h
  | .cont, D, ρ, h => D.ct ρ h
def WpSs (C : Ctx) : Ss → Kt → Env → AHeap → Prop
  | .nil, D, ρ, h => D.nx ρ h
  | .cons s r, D, ρ, h => WpS C s { D with nx := WpSs C r D } ρ h
end

/-! ### a program -/
structure Fn where
  np : Nat
  ns : Nat
  body : Ss
structure Prg where
  fns : List Fn
  glob : List AV
  meth : List ((Nat × Str) × Nat) := []
  init : List (Nat × Nat) := []
  flds : List (Nat × Str) := []
def startS (F : Fn) (args : List AV) : Env := args.map .val ++ List.replicate (F.ns - args.length) .no
def ctxOf (P : Prg) (call : Nat → List AV → AHeap → (AV → AHeap → Prop) → Prop) : Ctx where
  glob g := P.glob[g]?
  call := call
  meth c m := P.meth.lookup (c, m)
  init c := P.init.lookup c
  fld c f := P.flds.contains (c, f)
def callN (P : Prg) : Nat → Nat → List AV → AHeap → (AV → AHeap → Prop) → Prop
  | 0, _, _, _, _ => False
  | n + 1, f, args, h, Q => match P.fns[f]? with
    | none => False
    | some F => args.length = F.np ∧ WpSs (ctxOf P (callN P n)) F.body { nx := fun _ h => Q .non h, rt := Q } (startS F args) h
end VL

set_option maxRecDepth 100000
set_option maxHeartbeats 2000000
/-! VL: how values stand in the heap. -/
namespace VL
open PySem L2 Evl

mutual
inductive Rep (K : PySem.W.Frag) (cs : List Addr) (F : Hp) : V → AV → Prop
  | non : Rep K cs F .non .non
  | bl (b : Bool) : Rep K cs F (.bl b) (.bl b)
  | int (i : Int) : Rep K cs F (.int i) (.int i)
  | str (s : Str) : Rep K cs F (.str s) (.str s)
  | tup {a : Addr} {vs : List V} {xs : List AV} : SqT K F a vs → Reps K cs F vs xs → Rep K cs F (.ref a) (.tup xs)
  | lst {a : Addr} {vs : List V} {xs : List AV} : F a = some (.lst vs) → Reps K cs F vs xs → Rep K cs F (.ref a) (.lst xs)
  | ro {a : Addr} {vs : List V} {xs : List AV} : SqL K F a vs → Reps K cs F vs xs → Rep K cs F (.ref a) (.ro xs)
  | dct {a : Addr} {us : List (Key × V)} {xs : List (Key × AV)} : F a = some (.dK us) → RepK K cs F us xs → Rep K cs F (.ref a) (.dct xs)
  | adr {n : Nat} {a : Addr} : cs[n]? = some a → Rep K cs F (.ref a) (.adr n)
inductive Reps (K : PySem.W.Frag) (cs : List Addr) (F : Hp) : List V → List AV → Prop
  | nil : Reps K cs F [] []
  | cons {v : V} {vs : List V} {d : AV} {ds : List AV} : Rep K cs F v d → Reps K cs F vs ds → Reps K cs F (v :: vs) (d :: ds)
inductive RepK (K : PySem.W.Frag) (cs : List Addr) (F : Hp) : List (Key × V) → List (Key × AV) → Prop
  | nil : RepK K cs F [] []
  | cons {k : Key} {v : V} {vs : List (Key × V)} {d : AV} {ds : List (Key × AV)} : Rep K cs F v d → RepK K cs F vs ds → RepK K cs F ((k, v) :: vs) ((k, d) :: ds)
end
inductive RepF (K : PySem.W.Frag) (cs : List Addr) (F : Hp) : List (Str × V) → List (Str × AV) → Prop
  | nil : RepF K cs F [] []
  | cons {k : Str} {v : V} {vs : List (Str × V)} {d : AV} {ds : List (Str × AV)} : Rep K cs F v d → RepF K cs F vs ds → RepF K cs F ((k, v) :: vs) ((k, d) :: ds)

section
variable {K : PySem.W.Frag} {cs cs' : List Addr} {F F' : Hp}
theorem get_pre {r : List Addr} (hc : cs' = cs ++ r) {n : Nat} {a : Addr} (h : cs[n]? = some a) : cs'[n]? = some a := by
  subst hc
  rw [List.getElem?_append_left (List.getElem?_eq_some_iff.mp h).1]
  exact h
mutual
theorem Rep.mono (e : Ex F F') (hc : ∃ r, cs' = cs ++ r) : ∀ {v : V} {d : AV}, Rep K cs F v d → Rep K cs' F' v d
  | _, _, .non => .non
  | _, _, .bl b => .bl b
  | _, _, .int i => .int i
  | _, _, .str s => .str s
  | _, _, .tup h r => .tup (ex_t e h) (Reps.mono e hc r)
  | _, _, .lst h r => .lst (e _ _ h) (Reps.mono e hc r)
  | _, _, .ro h r => .ro (ex_l e h) (Reps.mono e hc r)
  | _, _, .dct h r => .dct (e _ _ h) (RepK.mono e hc r)
  | _, _, .adr h => .adr (let ⟨_, q⟩ := hc; get_pre q h)
theorem Reps.mono (e : Ex F F') (hc : ∃ r, cs' = cs ++ r) : ∀ {v : List V} {d : List AV}, Reps K cs F v d → Reps K cs' F' v d
  | _, _, .nil => .nil
  | _, _, .cons h r => .cons (Rep.mono e hc h) (Reps.mono e hc r)
theorem RepK.mono (e : Ex F F') (hc : ∃ r, cs' = cs ++ r) : ∀ {v : List (Key × V)} {d : List (Key × AV)}, RepK K cs F v d → RepK K cs' F' v d
  | _, _, .nil => .nil
  | _, _, .cons h r => .cons (Rep.mono e hc h) (RepK.mono e hc r)
end
theorem RepF.mono (e : Ex F F') (hc : ∃ r, cs' = cs ++ r) {v : List (Str × V)} {d : List (Str × AV)} (h : RepF K cs F v d) : RepF K cs' F' v d := by
  induction h with
  | nil => exact .nil
  | cons h _ ih => exact .cons (h.mono e hc) ih
theorem Reps.length {vs : List V} {xs : List AV} (h : Reps K cs F vs xs) : vs.length = xs.length := by
  revert xs
  induction vs with
  | nil => intro xs h; cases h; rfl
  | cons v vs ih => intro xs h; cases h with | cons h r => simp [ih r]
theorem Reps.get {vs : List V} {xs : List AV} (h : Reps K cs F vs xs) {i : Nat} {d : AV} (e : xs[i]? = some d) : ∃ v, vs[i]? = some v ∧ Rep K cs F v d := by
  revert xs i
  induction vs with
  | nil => intro xs h i e; cases h; simp at e
  | cons v vs ih =>
    intro xs h i e
    cases h with
    | cons h r =>
      cases i with
      | zero => simp at e; subst e; exact ⟨v, rfl, h⟩
      | succ i => simpa using ih r (by simpa using e)
theorem Reps.get' {vs : List V} {xs : List AV} (h : Reps K cs F vs xs) {i : Nat} {v : V} (e : vs[i]? = some v) : ∃ d, xs[i]? = some d ∧ Rep K cs F v d := by
  revert xs i
  induction vs with
  | nil => intro xs h i e; cases h; simp at e
  | cons w vs ih =>
    intro xs h i e
    cases h with
    | cons h r =>
      cases i with
      | zero => simp at e; subst e; exact ⟨_, rfl, h⟩
      | succ i => simpa using ih r (by simpa using e)
theorem Reps.append {vs ws : List V} {xs ys : List AV} (h : Reps K cs F vs xs) (g : Reps K cs F ws ys) : Reps K cs F (vs ++ ws) (xs ++ ys) := by
  revert xs
  induction vs with
  | nil => intro xs h; cases h; exact g
  | cons v vs ih => intro xs h; cases h with | cons h r => exact .cons h (ih r)
theorem Reps.drop {vs : List V} {xs : List AV} (h : Reps K cs F vs xs) (n : Nat) : Reps K cs F (vs.drop n) (xs.drop n) := by
  induction n generalizing vs xs with
  | zero => exact h
  | succ n ih => cases h with
    | nil => exact .nil
    | cons h r => exact ih r
theorem Reps.take {vs : List V} {xs : List AV} (h : Reps K cs F vs xs) (n : Nat) : Reps K cs F (vs.take n) (xs.take n) := by
  induction n generalizing vs xs with
  | zero => exact .nil
  | succ n ih => cases h with
    | nil => exact .nil
    | cons h r => exact .cons h (ih r)
theorem Reps.rev {vs : List V} {xs : List AV} (h : Reps K cs F vs xs) : Reps K cs F vs.reverse xs.reverse := by
  induction vs generalizing xs with
  | nil => cases h; exact .nil
  | cons v vs ih => cases h with
    | cons h r =>
      rw [List.reverse_cons, List.reverse_cons]
      exact (ih r).append (.cons h .nil)
theorem Reps.cut {vs : List V} {xs : List AV} (h : Reps K cs F vs xs) (lo hi : Option Int) : Reps K cs F (cutV vs lo hi) (cut xs lo hi) := by
  unfold cutV VL.cut
  rw [h.length]
  exact (h.drop _).take _
theorem Reps.set {vs : List V} {xs : List AV} (h : Reps K cs F vs xs) {v : V} {d : AV} (r : Rep K cs F v d) (i : Nat) : Reps K cs F (vs.set i v) (xs.set i d) := by
  induction i generalizing vs xs with
  | zero => cases h with
    | nil => exact .nil
    | cons h t => exact .cons r t
  | succ n ih => cases h with
    | nil => exact .nil
    | cons h t => exact .cons h (ih t)
theorem Reps.at {vs : List V} {xs : List AV} (h : Reps K cs F vs xs) {i : Int} {d : AV} (e : atI xs i = some d) : ∃ v, atI vs i = some v ∧ Rep K cs F v d := by
  unfold atI at e ⊢
  rw [h.length]
  cases q : ixN xs.length i with
  | none => rw [q] at e; cases e
  | some j => rw [q] at e; exact h.get e
theorem RepK.length {vs : List (Key × V)} {xs : List (Key × AV)} (h : RepK K cs F vs xs) : vs.length = xs.length := by
  revert xs
  induction vs with
  | nil => intro xs h; cases h; rfl
  | cons v vs ih => intro xs h; cases h with | cons h r => simp [ih r]
theorem RepK.get {vs : List (Key × V)} {xs : List (Key × AV)} (h : RepK K cs F vs xs) {k : Key} : (∃ v d, valV vs k = some v ∧ getD xs k = some d ∧ Rep K cs F v d) ∨ (valV vs k = none ∧ getD xs k = none) := by
  revert xs
  induction vs with
  | nil => intro xs h; cases h; exact .inr ⟨rfl, rfl⟩
  | cons v vs ih =>
    intro xs h
    cases h with
    | cons h r =>
      rename_i k' v' d' ds'
      unfold valV getD
      by_cases q : k' = k
      · subst q
        exact .inl ⟨v', d', by simp [List.find?_cons], by simp [List.find?_cons], h⟩
      · have := ih r
        unfold valV getD at this
        simpa [List.find?_cons, q] using this
theorem RepK.any {vs : List (Key × V)} {xs : List (Key × AV)} (h : RepK K cs F vs xs) {k : Key} : (vs.any fun kv => decide (kv.1 = k)) = (xs.any fun kv => decide (kv.1 = k)) := by
  revert xs
  induction vs with
  | nil => intro xs h; cases h; rfl
  | cons v vs ih =>
    intro xs h
    cases h with
    | cons h r => simp [ih r]
theorem RepK.append {vs ws : List (Key × V)} {xs ys : List (Key × AV)} (h : RepK K cs F vs xs) (g : RepK K cs F ws ys) : RepK K cs F (vs ++ ws) (xs ++ ys) := by
  revert xs
  induction vs with
  | nil => intro xs h; cases h; exact g
  | cons v vs ih => intro xs h; cases h with | cons h r => exact .cons h (ih r)
theorem RepK.mapPut {vs : List (Key × V)} {xs : List (Key × AV)} (h : RepK K cs F vs xs) {k : Key} {v : V} {d : AV} (r : Rep K cs F v d) :
    RepK K cs F (vs.map fun kv => if kv.1 = k then (kv.1, v) else kv) (xs.map fun kv => if kv.1 = k then (kv.1, d) else kv) := by
  revert xs
  induction vs with
  | nil => intro xs h; cases h; exact .nil
  | cons w vs ih =>
    intro xs h
    cases h with
    | cons h t =>
      rename_i k' v' d' ds'
      simp only [List.map_cons]
      by_cases q : k' = k
      · rw [if_pos q, if_pos q]; exact .cons r (ih t)
      · rw [if_neg q, if_neg q]; exact .cons h (ih t)
theorem RepK.put {vs : List (Key × V)} {xs : List (Key × AV)} (h : RepK K cs F vs xs) {k : Key} {v : V} {d : AV} (r : Rep K cs F v d) : RepK K cs F (putK vs k v) (putD xs k d) := by
  unfold putK putD
  rw [h.any]
  split
  · exact h.mapPut r
  · exact h.append (.cons r .nil)
theorem RepF.get {vs : List (Str × V)} {xs : List (Str × AV)} (h : RepF K cs F vs xs) {k : Str} {d : AV} (e : xs.lookup k = some d) : ∃ v, vs.lookup k = some v ∧ Rep K cs F v d := by
  induction h with
  | nil => simp at e
  | cons h r ih =>
    rw [List.lookup_cons] at e ⊢
    split at e
    · cases e
      exact ⟨_, rfl, h⟩
    · exact ih e
theorem RepF.none {vs : List (Str × V)} {xs : List (Str × AV)} (h : RepF K cs F vs xs) {k : Str} (e : xs.lookup k = none) : vs.lookup k = none := by
  induction h with
  | nil => rfl
  | cons h r ih =>
    rw [List.lookup_cons] at e ⊢
    split at e
    · cases e
    · exact ih e
theorem RepF.length {vs : List (Str × V)} {xs : List (Str × AV)} (h : RepF K cs F vs xs) : vs.length = xs.length := by
  induction h with
  | nil => rfl
  | cons h r ih => simp [ih]
theorem RepF.put {vs : List (Str × V)} {xs : List (Str × AV)} (h : RepF K cs F vs xs) {f : Str} {v : V} {d : AV} (r : Rep K cs F v d) : RepF K cs F (putF f v vs) (putFA f d xs) := by
  induction h with
  | nil => exact .cons r .nil
  | cons h t ih =>
    rename_i k v' vs' d' ds'
    show RepF K cs F (if k = f then (k, v) :: vs' else (k, v') :: putF f v vs') (if k = f then (k, d) :: ds' else (k, d') :: putFA f d ds')
    by_cases q : k = f
    · rw [if_pos q, if_pos q]; exact .cons r t
    · rw [if_neg q, if_neg q]; exact .cons h ih
theorem Reps.ints {vs : List V} {xs : List AV} (h : Reps K cs F vs xs) {ns : List Int} (e : asInts xs = some ns) : vs = ns.map V.int := by
  revert xs ns
  induction vs with
  | nil => intro xs h ns e; cases h; simp [asInts] at e; subst e; rfl
  | cons v vs ih =>
    intro xs h ns e
    cases h with
    | cons h r =>
      cases h <;> simp [asInts] at e
      obtain ⟨l, e1, e2⟩ := e
      subst e2
      rw [ih r e1]; rfl
theorem Reps.bools {vs : List V} {xs : List AV} (h : Reps K cs F vs xs) {ns : List Bool} (e : asBools xs = some ns) : vs = ns.map V.bl := by
  revert xs ns
  induction vs with
  | nil => intro xs h ns e; cases h; simp [asBools] at e; subst e; rfl
  | cons v vs ih =>
    intro xs h ns e
    cases h with
    | cons h r =>
      cases h <;> simp [asBools] at e
      obtain ⟨l, e1, e2⟩ := e
      subst e2
      rw [ih r e1]; rfl
theorem Reps.strs {vs : List V} {xs : List AV} (h : Reps K cs F vs xs) {ns : List Str} (e : asStrs xs = some ns) : vs = ns.map V.str := by
  revert xs ns
  induction vs with
  | nil => intro xs h ns e; cases h; simp [asStrs] at e; subst e; rfl
  | cons v vs ih =>
    intro xs h ns e
    cases h with
    | cons h r =>
      cases h <;> simp [asStrs] at e
      obtain ⟨l, e1, e2⟩ := e
      subst e2
      rw [ih r e1]; rfl
mutual
theorem Rep.dp {H : Hp} (e : Ex F H) : ∀ {v : V} {d : AV}, Rep K cs F v d → ∀ {p : PyData}, pd d = some p → Dp K H v p
  | _, _, .non, _, q => by simp [pd] at q; subst q; exact .non
  | _, _, .bl b, _, q => by simp [pd] at q; subst q; exact .bl b
  | _, _, .int i, _, q => by simp [pd] at q; subst q; exact .int i
  | _, _, .str s, _, q => by simp [pd] at q; subst q; exact .str s
  | _, _, .tup h r, _, q => by
    simp [pd] at q
    obtain ⟨l, e1, e2⟩ := q
    subst e2
    exact .tup (ex_t e h) (Reps.dp e r e1)
  | _, _, .lst h r, _, q => by
    simp [pd] at q
    obtain ⟨l, e1, e2⟩ := q
    subst e2
    exact .lst (sq_of (e _ _ h)) (Reps.dp e r e1)
  | _, _, .ro h r, _, q => by
    simp [pd] at q
    obtain ⟨l, e1, e2⟩ := q
    subst e2
    exact .lst (ex_l e h) (Reps.dp e r e1)
  | _, _, .dct h r, _, q => by simp [pd] at q
  | _, _, .adr h, _, q => by simp [pd] at q
theorem Reps.dp {H : Hp} (e : Ex F H) : ∀ {v : List V} {d : List AV}, Reps K cs F v d → ∀ {p : List PyData}, pds d = some p → DpAll K H v p
  | _, _, .nil, _, q => by simp [pds] at q; subst q; exact .nil
  | _, _, .cons h r, _, q => by
    simp [pds, Option.bind_eq_some_iff] at q
    obtain ⟨d1, e1, l, e2, e3⟩ := q
    subst e3
    exact .cons (Rep.dp e h e1) (Reps.dp e r e2)
end
end

/-! ### states -/
def COk (K : PySem.W.Frag) (Cl : Nat → Addr) (cs : List Addr) (F H : Hp) (a : Addr) : Cell → Prop
  | .lst xs => ∃ vs, H a = some (.lst vs) ∧ Reps K cs F vs xs
  | .dct xs => ∃ us, H a = some (.dK us) ∧ RepK K cs F us xs
  | .obj c fs => ∃ dx fvs, H a = some (.ins (Cl c) dx fvs) ∧ RepF K cs F fvs fs
  | .dead => H a ≠ none
structure StOk (K : PySem.W.Frag) (Cl : Nat → Addr) (cs : List Addr) (F H : Hp) (h : AHeap) : Prop where
  sub : Ex F H
  len : cs.length = h.length
  nd : cs.Nodup
  cell : ∀ n a, cs[n]? = some a → COk K Cl cs F H a (cells h n)
  free : ∀ a, a ∈ cs → F a = none
structure Stp (cs : List Addr) (F H : Hp) (cs' : List Addr) (F' H' : Hp) : Prop where
  f : Ex F F'
  c : ∃ r, cs' = cs ++ r
  k : ∀ b o, H b = some o → b ∉ cs → H' b = some o
  d : ∀ b, H b ≠ none → H' b ≠ none
  n : ∀ b, F b = none → F' b ≠ none → H b = none
  m : ∀ b, b ∈ cs' → b ∉ cs → H b = none
structure EnvOk (K : PySem.W.Frag) (Cl : Nat → Addr) (cs : List Addr) (F H : Hp) (σ : L2.St) (ρ : Env) : Prop where
  len : ρ.length = σ.length
  val : ∀ i d, getS ρ i = .val d → ∃ v, σ[i]? = some (some v) ∧ Rep K cs F v d
  own : ∀ i c, getS ρ i = .own c → ∃ a, σ[i]? = some (some (.ref a)) ∧ a ∉ cs ∧ F a = none ∧ COk K Cl cs F H a c
  dis : ∀ i j c c' a, i ≠ j → getS ρ i = .own c → getS ρ j = .own c' → σ[i]? = some (some (.ref a)) → σ[j]? ≠ some (some (.ref a))

section
variable {K : PySem.W.Frag} {Cl : Nat → Addr} {cs cs' cs'' : List Addr} {F F' F'' H H' H'' : Hp} {σ : L2.St} {ρ : Env} {h h' : AHeap} {a : Addr} {c : Cell}
theorem COk.some (x : COk K Cl cs F H a c) : H a ≠ none := by
  cases c with
  | lst xs => obtain ⟨vs, e, _⟩ := x; rw [e]; simp
  | dct xs => obtain ⟨vs, e, _⟩ := x; rw [e]; simp
  | obj c fs => obtain ⟨dx, vs, e, _⟩ := x; rw [e]; simp
  | dead => exact x
/-- the object at a as it was -/
theorem COk.mono (x : COk K Cl cs F H a c) (e : Ex F F') (hc : ∃ r, cs' = cs ++ r) (k : ∀ o, H a = Option.some o → H' a = Option.some o) : COk K Cl cs' F' H' a c := by
  cases c with
  | lst xs => obtain ⟨vs, q, r⟩ := x; exact ⟨vs, k _ q, r.mono e hc⟩
  | dct xs => obtain ⟨vs, q, r⟩ := x; exact ⟨vs, k _ q, r.mono e hc⟩
  | obj c fs => obtain ⟨dx, vs, q, r⟩ := x; exact ⟨dx, vs, k _ q, r.mono e hc⟩
  | dead =>
    show H' a ≠ none
    have x' : H a ≠ none := x
    cases q : H a with
    | none => exact absurd q x'
    | some o => rw [k o q]; simp
theorem Stp.refl : Stp cs F H cs F H := ⟨fun _ _ h => h, ⟨[], by simp⟩, fun _ _ h _ => h, fun _ h => h, fun b h1 h2 => absurd h1 h2, fun b h1 h2 => absurd h1 h2⟩
theorem Stp.trans (x : Stp cs F H cs' F' H') (y : Stp cs' F' H' cs'' F'' H'') : Stp cs F H cs'' F'' H'' where
  f := x.f.trans y.f
  c := by
    obtain ⟨r, e⟩ := x.c
    obtain ⟨s, e2⟩ := y.c
    exact ⟨r ++ s, by rw [e2, e, List.append_assoc]⟩
  k := fun b o e n => y.k b o (x.k b o e n) fun z => by
    have := x.m b z n
    rw [e] at this; cases this
  d := fun b e => y.d b (x.d b e)
  n := fun b e1 e2 => by
    by_cases q : F' b = none
    · have z := y.n b q e2
      cases w : H b with
      | none => rfl
      | some o => exact absurd z (x.d b (by rw [w]; simp))
    · exact x.n b e1 q
  m := fun b e1 e2 => by
    by_cases q : b ∈ cs'
    · exact x.m b q e2
    · have z := y.m b e1 q
      cases w : H b with
      | none => rfl
      | some o => exact absurd z (x.d b (by rw [w]; simp))
theorem Stp.fresh (x : Stp cs F H cs' F' H') {b : Addr} (h : H' b = none) : H b = none := by
  cases w : H b with
  | none => rfl
  | some o => exact absurd h (x.d b (by rw [w]; simp))
theorem EnvOk.step (E : EnvOk K Cl cs F H σ ρ) (x : Stp cs F H cs' F' H') : EnvOk K Cl cs' F' H' σ ρ where
  len := E.len
  val := fun i d e => by
    obtain ⟨v, q, r⟩ := E.val i d e
    exact ⟨v, q, r.mono x.f x.c⟩
  own := fun i c e => by
    obtain ⟨a, q, n1, n2, r⟩ := E.own i c e
    have hs := r.some
    refine ⟨a, q, fun z => hs (x.m a z n1), ?_, r.mono x.f x.c fun o ho => x.k a o ho n1⟩
    cases w : F' a with
    | none => rfl
    | some o => exact absurd (x.n a n2 (by rw [w]; simp)) hs
  dis := E.dis

/-! ### cells, slots -/
theorem cells_app {n : Nat} (hn : n < h.length) : cells (h ++ h') n = cells h n := by
  unfold cells
  rw [List.getElem?_append_left hn]
theorem cells_new : cells (h ++ [c]) h.length = c := by
  unfold cells
  simp
theorem cells_set_same {n : Nat} (hn : n < h.length) : cells (h.set n c) n = c := by
  unfold cells
  simp [hn]
theorem cells_set_ne {n m : Nat} (hn : n ≠ m) : cells (h.set n c) m = cells h m := by
  unfold cells
  rw [List.getElem?_set_ne hn]
theorem getS_set_same {i : Nat} {v : Slot} (hi : i < ρ.length) : getS (setS ρ i v) i = v := by
  induction ρ generalizing i with
  | nil => cases hi
  | cons x r ih => cases i with
    | zero => rfl
    | succ i => exact ih (by simpa using hi)
theorem getS_set_ne {i j : Nat} {v : Slot} (hi : i ≠ j) : getS (setS ρ i v) j = getS ρ j := by
  induction ρ generalizing i j with
  | nil => rfl
  | cons x r ih => cases i with
    | zero => cases j with
      | zero => exact absurd rfl hi
      | succ j => rfl
    | succ i => cases j with
      | zero => rfl
      | succ j => exact ih (fun e => hi (by rw [e]))
theorem setS_length {i : Nat} {v : Slot} : (setS ρ i v).length = ρ.length := by
  induction ρ generalizing i with
  | nil => rfl
  | cons x r ih => cases i with
    | zero => rfl
    | succ i => simp [setS, ih]
theorem getS_lt {i : Nat} (h : getS ρ i ≠ .no) : i < ρ.length := by
  induction ρ generalizing i with
  | nil => exact absurd rfl h
  | cons x r ih => cases i with
    | zero => simp
    | succ i => simpa using ih h
theorem setS_out {i : Nat} {v : Slot} (hi : ρ.length ≤ i) : setS ρ i v = ρ := by
  induction ρ generalizing i with
  | nil => rfl
  | cons x r ih => cases i with
    | zero => simp at hi
    | succ i => simp only [setS]; rw [ih (by simpa using hi)]
/-- a slot is given a value -/
theorem EnvOk.setV (E : EnvOk K Cl cs F H σ ρ) {i : Nat} {v : V} {d : AV} (r : Rep K cs F v d) : EnvOk K Cl cs F H (σ.set i (some v)) (setS ρ i (.val d)) := by
  by_cases hi : i < ρ.length
  · have hs : i < σ.length := by rw [← E.len]; exact hi
    refine ⟨by rw [setS_length, List.length_set, E.len], fun j e h => ?_, fun j c h => ?_, fun j k c c' a ne h1 h2 h3 => ?_⟩
    · by_cases hj : i = j
      · subst hj
        rw [getS_set_same hi] at h
        cases h
        exact ⟨v, by rw [List.getElem?_set_self hs], r⟩
      · rw [getS_set_ne hj] at h
        rw [List.getElem?_set_ne hj]
        exact E.val j e h
    · by_cases hj : i = j
      · subst hj
        rw [getS_set_same hi] at h
        cases h
      · rw [getS_set_ne hj] at h
        rw [List.getElem?_set_ne hj]
        exact E.own j c h
    · have n1 : i ≠ j := fun z => by subst z; rw [getS_set_same hi] at h1; cases h1
      have n2 : i ≠ k := fun z => by subst z; rw [getS_set_same hi] at h2; cases h2
      rw [getS_set_ne n1] at h1
      rw [getS_set_ne n2] at h2
      rw [List.getElem?_set_ne n1] at h3
      rw [List.getElem?_set_ne n2]
      exact E.dis j k c c' a ne h1 h2 h3
  · have hi' : ρ.length ≤ i := by omega
    have hs : σ.length ≤ i := by rw [← E.len]; exact hi'
    rw [setS_out hi', List.set_eq_of_length_le hs]
    exact E
/-- a slot is forgotten -/
theorem EnvOk.setN (E : EnvOk K Cl cs F H σ ρ) {i : Nat} {v : Option V} : EnvOk K Cl cs F H (σ.set i v) (setS ρ i .no) := by
  by_cases hi : i < ρ.length
  · refine ⟨by rw [setS_length, List.length_set, E.len], fun j e h => ?_, fun j c h => ?_, fun j k c c' a ne h1 h2 h3 => ?_⟩
    · by_cases hj : i = j
      · subst hj
        rw [getS_set_same hi] at h
        cases h
      · rw [getS_set_ne hj] at h
        rw [List.getElem?_set_ne hj]
        exact E.val j e h
    · by_cases hj : i = j
      · subst hj
        rw [getS_set_same hi] at h
        cases h
      · rw [getS_set_ne hj] at h
        rw [List.getElem?_set_ne hj]
        exact E.own j c h
    · have n1 : i ≠ j := fun z => by subst z; rw [getS_set_same hi] at h1; cases h1
      have n2 : i ≠ k := fun z => by subst z; rw [getS_set_same hi] at h2; cases h2
      rw [getS_set_ne n1] at h1
      rw [getS_set_ne n2] at h2
      rw [List.getElem?_set_ne n1] at h3
      rw [List.getElem?_set_ne n2]
      exact E.dis j k c c' a ne h1 h2 h3
  · have hi' : ρ.length ≤ i := by omega
    have hs : σ.length ≤ i := by rw [← E.len]; exact hi'
    rw [setS_out hi', List.set_eq_of_length_le hs]
    exact E
theorem EnvOk.wipe (E : EnvOk K Cl cs F H σ ρ) (vs : List Nat) : EnvOk K Cl cs F H (wipe σ vs) (wipeS ρ vs) := by
  induction vs with
  | nil => exact E
  | cons v vs ih => exact ih.setN
/-- a slot's own cell: new, or changed -/
theorem EnvOk.setO (E : EnvOk K Cl cs F H σ ρ) {i : Nat} {a : Addr} {c : Cell} {o : HO} (n1 : a ∉ cs) (n2 : F a = none) (r : COk K Cl cs F (upd H a o) a c)
    (old : ∀ j c', j ≠ i → getS ρ j = .own c' → σ[j]? ≠ some (some (.ref a))) : EnvOk K Cl cs F (upd H a o) (σ.set i (some (.ref a))) (setS ρ i (.own c)) := by
  have key : ∀ {j c'} , j ≠ i → getS ρ j = .own c' → ∃ b, σ[j]? = some (some (.ref b)) ∧ b ∉ cs ∧ F b = none ∧ COk K Cl cs F (upd H a o) b c' := fun {j c'} hj h => by
    obtain ⟨b, e1, e2, e3, e4⟩ := E.own j c' h
    refine ⟨b, e1, e2, e3, e4.mono (fun _ _ q => q) ⟨[], by simp⟩ fun u hu => ?_⟩
    rw [upd_ne]
    · exact hu
    · intro z
      subst z
      exact old j c' hj h e1
  by_cases hi : i < ρ.length
  · have hs : i < σ.length := by rw [← E.len]; exact hi
    refine ⟨by rw [setS_length, List.length_set, E.len], fun j e h => ?_, fun j c h => ?_, fun j k c1 c2 b ne h1 h2 h3 => ?_⟩
    · by_cases hj : i = j
      · subst hj
        rw [getS_set_same hi] at h
        cases h
      · rw [getS_set_ne hj] at h
        rw [List.getElem?_set_ne hj]
        exact E.val j e h
    · by_cases hj : i = j
      · subst hj
        rw [getS_set_same hi] at h
        cases h
        exact ⟨a, by rw [List.getElem?_set_self hs], n1, n2, r⟩
      · rw [getS_set_ne hj] at h
        rw [List.getElem?_set_ne hj]
        exact key (Ne.symm hj) h
    · by_cases hj : i = j
      · subst hj
        rw [List.getElem?_set_self hs] at h3
        cases h3
        rw [getS_set_ne ne] at h2
        rw [List.getElem?_set_ne ne]
        exact old k c2 (Ne.symm ne) h2
      · by_cases hk : i = k
        · subst hk
          rw [List.getElem?_set_self hs]
          rw [getS_set_ne hj] at h1
          rw [List.getElem?_set_ne hj] at h3
          intro z
          cases z
          exact old j c1 (Ne.symm hj) h1 h3
        · rw [getS_set_ne hj] at h1
          rw [getS_set_ne hk] at h2
          rw [List.getElem?_set_ne hj] at h3
          rw [List.getElem?_set_ne hk]
          exact E.dis j k c1 c2 b ne h1 h2 h3
  · have hi' : ρ.length ≤ i := by omega
    have hs : σ.length ≤ i := by rw [← E.len]; exact hi'
    rw [setS_out hi', List.set_eq_of_length_le hs]
    refine ⟨E.len, E.val, fun j c h => ?_, E.dis⟩
    have hj : j ≠ i := fun z => by
      subst z
      exact absurd (getS_lt (ρ := ρ) (i := j) (by rw [h]; simp)) hi
    exact key hj h
end
end VL

set_option maxRecDepth 100000
set_option maxHeartbeats 2000000
/-! VL: the operations. -/
namespace VL
open PySem L2 Evl PyProof.Rows PySem.Spec

theorem nd_inj {α : Type} {l : List α} (nd : l.Nodup) {i j : Nat} {x : α} (h : l[i]? = some x) (h2 : l[j]? = some x) : i = j :=
  (List.getElem?_inj (List.getElem?_eq_some_iff.mp h).1 nd).mp (h.trans h2.symm)
section
variable {K : PySem.W.Frag} {Cl : Nat → Addr} {cs cs' : List Addr} {F F' H H' : Hp} {σ : L2.St} {ρ : Env} {h h' : AHeap} {a p : Addr} {c : Cell} {o : HO}
/-- a new frozen object -/
theorem StOk.newF (S : StOk K Cl cs F H h) (hp : H p = none) : StOk K Cl cs (upd F p o) (upd H p o) h := by
  have hF : F p = none := by
    cases q : F p with
    | none => rfl
    | some u => rw [S.sub _ _ q] at hp; cases hp
  have e : Ex F (upd F p o) := Ex.new hF
  refine ⟨fun b u q => ?_, S.len, S.nd, fun n a q => ?_, fun a q => ?_⟩
  · by_cases hb : b = p
    · subst hb; rw [upd_same] at q ⊢; exact q
    · rw [upd_ne hb] at q ⊢; exact S.sub _ _ q
  · refine (S.cell n a q).mono e ⟨[], by simp⟩ fun u hu => ?_
    rw [upd_ne (ne_of_none hu hp)]
    exact hu
  · have hs := (List.mem_iff_getElem?.mp q)
    obtain ⟨n, hn⟩ := hs
    have hne : a ≠ p := fun z => by
      subst z
      exact (S.cell n a hn).some hp
    rw [upd_ne hne]
    exact S.free a q
theorem Stp.newF (S : StOk K Cl cs F H h) (hp : H p = none) : Stp cs F H cs (upd F p o) (upd H p o) := by
  have hF : F p = none := by
    cases q : F p with
    | none => rfl
    | some u => rw [S.sub _ _ q] at hp; cases hp
  refine ⟨Ex.new hF, ⟨[], by simp⟩, fun b u q _ => ?_, fun b q => ?_, fun b q1 q2 => ?_, fun b q1 q2 => absurd q1 q2⟩
  · rw [upd_ne (ne_of_none q hp)]; exact q
  · by_cases hb : b = p
    · subst hb; rw [upd_same]; simp
    · rw [upd_ne hb]; exact q
  · by_cases hb : b = p
    · subst hb; exact hp
    · rw [upd_ne hb] at q2; exact absurd q1 q2
/-- a new object that is nobody's yet -/
theorem StOk.newN (S : StOk K Cl cs F H h) (hp : H p = none) : StOk K Cl cs F (upd H p o) h := by
  refine ⟨fun b u q => ?_, S.len, S.nd, fun n a q => ?_, S.free⟩
  · rw [upd_ne (ne_of_none (S.sub _ _ q) hp)]; exact S.sub _ _ q
  · refine (S.cell n a q).mono (fun _ _ z => z) ⟨[], by simp⟩ fun u hu => ?_
    rw [upd_ne (ne_of_none hu hp)]
    exact hu
theorem Stp.newN (hp : H p = none) : Stp cs F H cs F (upd H p o) := by
  refine ⟨fun _ _ z => z, ⟨[], by simp⟩, fun b u q _ => ?_, fun b q => ?_, fun b q1 q2 => absurd q1 q2, fun b q1 q2 => absurd q1 q2⟩
  · rw [upd_ne (ne_of_none q hp)]; exact q
  · by_cases hb : b = p
    · subst hb; rw [upd_same]; simp
    · rw [upd_ne hb]; exact q
/-- nobody's object is changed -/
theorem StOk.chgN (S : StOk K Cl cs F H h) (hF : F p = none) (hc : p ∉ cs) : StOk K Cl cs F (upd H p o) h := by
  refine ⟨fun b u q => ?_, S.len, S.nd, fun n a q => ?_, S.free⟩
  · have hb : b ≠ p := fun z => by subst z; rw [hF] at q; cases q
    rw [upd_ne hb]; exact S.sub _ _ q
  · refine (S.cell n a q).mono (fun _ _ z => z) ⟨[], by simp⟩ fun u hu => ?_
    have hb : a ≠ p := fun z => by subst z; exact hc (List.mem_of_getElem? q)
    rw [upd_ne hb]
    exact hu
/-- nobody's object is frozen -/
theorem StOk.freeze (S : StOk K Cl cs F H h) (hF : F p = none) (hc : p ∉ cs) (hH : H p = some o) : StOk K Cl cs (upd F p o) H h := by
  refine ⟨fun b u q => ?_, S.len, S.nd, fun n a q => ?_, fun a q => ?_⟩
  · by_cases hb : b = p
    · subst hb; rw [upd_same] at q; rw [← q]; exact hH
    · rw [upd_ne hb] at q; exact S.sub _ _ q
  · exact (S.cell n a q).mono (Ex.new hF) ⟨[], by simp⟩ fun u hu => hu
  · have hb : a ≠ p := fun z => by subst z; exact hc q
    rw [upd_ne hb]; exact S.free a q
/-- nobody's object becomes a cell -/
theorem StOk.cellNew (S : StOk K Cl cs F H h) (hF : F p = none) (hc : p ∉ cs) (r : COk K Cl (cs ++ [p]) F H p c) : StOk K Cl (cs ++ [p]) F H (h ++ [c]) := by
  refine ⟨S.sub, by simp [S.len], ?_, fun n a q => ?_, fun a q => ?_⟩
  · rw [List.nodup_append]
    refine ⟨S.nd, by simp, fun x hx y hy => ?_⟩
    simp at hy
    subst hy
    exact fun z => hc (z ▸ hx)
  · by_cases hn : n < cs.length
    · rw [List.getElem?_append_left hn] at q
      rw [cells_app (by rw [← S.len]; exact hn)]
      exact (S.cell n a q).mono (fun _ _ z => z) ⟨[p], rfl⟩ fun _ z => z
    · have hn2 : n = cs.length := by
        have := (List.getElem?_eq_some_iff.mp q).1
        simp at this
        omega
      subst hn2
      rw [List.getElem?_append_right (Nat.le_refl _)] at q
      simp at q
      subst q
      rw [S.len, cells_new]
      exact r
  · simp at q
    rcases q with q | q
    · exact S.free a q
    · subst q; exact hF
/-- a cell is changed -/
theorem StOk.cellSet (S : StOk K Cl cs F H h) {n : Nat} (e : cs[n]? = some p) (r : COk K Cl cs F (upd H p o) p c) : StOk K Cl cs F (upd H p o) (h.set n c) := by
  have hn : n < h.length := by rw [← S.len]; exact (List.getElem?_eq_some_iff.mp e).1
  refine ⟨fun b u q => ?_, by simp [S.len], S.nd, fun m a q => ?_, S.free⟩
  · have hb : b ≠ p := fun z => by
      subst z
      rw [S.free b (List.mem_of_getElem? e)] at q
      cases q
    rw [upd_ne hb]; exact S.sub _ _ q
  · by_cases hm : n = m
    · subst hm
      rw [e] at q
      cases q
      rw [cells_set_same hn]
      exact r
    · rw [cells_set_ne hm]
      refine (S.cell m a q).mono (fun _ _ z => z) ⟨[], by simp⟩ fun u hu => ?_
      have hb : a ≠ p := fun z => by
        subst z
        have h1 := (List.getElem?_eq_some_iff.mp e)
        have h2 := (List.getElem?_eq_some_iff.mp q)
        exact hm (nd_inj S.nd e q)
      rw [upd_ne hb]
      exact hu
theorem Stp.chg {F H : Hp} (hc : p ∈ cs) : Stp cs F H cs F (upd H p o) := by
  refine ⟨fun _ _ z => z, ⟨[], by simp⟩, fun b u q n => ?_, fun b q => ?_, fun b q1 q2 => absurd q1 q2, fun b q1 q2 => absurd q1 q2⟩
  · rw [upd_ne fun z => by subst z; exact n hc]; exact q
  · by_cases hb : b = p
    · subst hb; rw [upd_same]; simp
    · rw [upd_ne hb]; exact q
end

/-- a container as it may be read -/
def RepB (K : PySem.W.Frag) (cs : List Addr) (F H : Hp) (b : Bool) (v : V) (d : AV) : Prop :=
  Rep K cs F v d ∨ (b = true ∧ ∃ a, v = .ref a ∧ a ∉ cs ∧ F a = none ∧ ((∃ vs xs, d = .lst xs ∧ H a = some (.lst vs) ∧ Reps K cs F vs xs) ∨ ∃ us xs, d = .dct xs ∧ H a = some (.dK us) ∧ RepK K cs F us xs))
section
variable {K : PySem.W.Frag} {Cl : Nat → Addr} {cs cs' : List Addr} {F F' H H' : Hp} {σ : L2.St} {ρ : Env} {h h' : AHeap} {b : Bool} {v : V} {d : AV}
theorem RepB.step (r : RepB K cs F H b v d) (x : Stp cs F H cs' F' H') : RepB K cs' F' H' b v d := by
  rcases r with r | ⟨hb, a, e, n1, n2, r⟩
  · exact .inl (r.mono x.f x.c)
  · have hs : H a ≠ none := by
      rcases r with ⟨vs, xs, _, q, _⟩ | ⟨vs, xs, _, q, _⟩ <;> rw [q] <;> simp
    have h1 : a ∉ cs' := fun z => hs (x.m a z n1)
    have h2 : F' a = none := by
      cases w : F' a with
      | none => rfl
      | some o => exact absurd (x.n a n2 (by rw [w]; simp)) hs
    refine .inr ⟨hb, a, e, h1, h2, ?_⟩
    rcases r with ⟨vs, xs, e1, q, r⟩ | ⟨vs, xs, e1, q, r⟩
    · exact .inl ⟨vs, xs, e1, x.k _ _ q n1, r.mono x.f x.c⟩
    · exact .inr ⟨vs, xs, e1, x.k _ _ q n1, r.mono x.f x.c⟩
theorem RepB.plain (r : RepB K cs F H false v d) : Rep K cs F v d := by
  rcases r with r | ⟨hb, _⟩
  · exact r
  · cases hb
theorem cell_at {n : Nat} {a : Addr} {xs : List AV} (S : StOk K Cl cs F H h) (e : cs[n]? = some a) (q : cells h n = .lst xs) : ∃ vs, H a = some (.lst vs) ∧ Reps K cs F vs xs := by
  have := S.cell n a e
  rw [q] at this
  exact this
theorem cell_atD {n : Nat} {a : Addr} {xs : List (Key × AV)} (S : StOk K Cl cs F H h) (e : cs[n]? = some a) (q : cells h n = .dct xs) : ∃ vs, H a = some (.dK vs) ∧ RepK K cs F vs xs := by
  have := S.cell n a e
  rw [q] at this
  exact this
theorem RepB.viewW (r : RepB K cs F H b v d) (S : StOk K Cl cs F H h) {xs : List AV} (e : viewW h d = some xs) : ∃ a vs, v = .ref a ∧ H a = some (.lst vs) ∧ Reps K cs F vs xs := by
  rcases r with r | ⟨hb, a, e1, n1, n2, r⟩
  · cases r with
    | lst q r => simp [VL.viewW] at e; subst e; exact ⟨_, _, rfl, S.sub _ _ q, r⟩
    | adr q =>
      rename_i n a
      simp only [VL.viewW] at e
      split at e
      · rename_i xs' hc
        cases e
        obtain ⟨vs, q1, q2⟩ := cell_at S q hc
        exact ⟨_, _, rfl, q1, q2⟩
      · cases e
    | _ => simp [VL.viewW] at e
  · rcases r with ⟨vs, xs', e2, q, r⟩ | ⟨vs, xs', e2, q, r⟩
    · subst e2; simp [VL.viewW] at e; subst e; exact ⟨_, _, e1, q, r⟩
    · subst e2; simp [VL.viewW] at e
theorem RepB.view (r : RepB K cs F H b v d) (S : StOk K Cl cs F H h) {xs : List AV} (e : view h d = some xs) : ∃ a vs, v = .ref a ∧ SqL K H a vs ∧ Reps K cs F vs xs := by
  rcases r with r | ⟨hb, a, e1, n1, n2, r⟩
  · cases r with
    | lst q r => simp [VL.view] at e; subst e; exact ⟨_, _, rfl, sq_of (S.sub _ _ q), r⟩
    | ro q r => simp [VL.view] at e; subst e; exact ⟨_, _, rfl, ex_l S.sub q, r⟩
    | adr q =>
      rename_i n a
      simp only [VL.view] at e
      split at e
      · rename_i xs' hc
        cases e
        obtain ⟨vs, q1, q2⟩ := cell_at S q hc
        exact ⟨_, _, rfl, sq_of q1, q2⟩
      · cases e
    | _ => simp [VL.view] at e
  · rcases r with ⟨vs, xs', e2, q, r⟩ | ⟨vs, xs', e2, q, r⟩
    · subst e2; simp [VL.view] at e; subst e; exact ⟨_, _, e1, sq_of q, r⟩
    · subst e2; simp [VL.view] at e
theorem viewT_eq {h : AHeap} {d : AV} {xs : List AV} (e : viewT h d = some xs) : d = .tup xs ∨ view h d = some xs := by
  unfold VL.viewT at e
  split at e
  · cases e; exact .inl rfl
  · exact .inr e
theorem RepB.viewT (r : RepB K cs F H b v d) (S : StOk K Cl cs F H h) {xs : List AV} (e : viewT h d = some xs) : ∃ a vs, v = .ref a ∧ (SqL K H a vs ∨ SqT K H a vs) ∧ Reps K cs F vs xs := by
  rcases viewT_eq e with q | q
  · subst q
    rcases r with r | ⟨hb, a, e1, n1, n2, r⟩
    · cases r with
      | tup q r => exact ⟨_, _, rfl, .inr (ex_t S.sub q), r⟩
    · rcases r with ⟨vs, xs', e2, q, r⟩ | ⟨vs, xs', e2, q, r⟩ <;> cases e2
  · obtain ⟨a, vs, h1, h2, h3⟩ := r.view S q
    exact ⟨a, vs, h1, .inl h2, h3⟩
theorem RepB.viewD (r : RepB K cs F H b v d) (S : StOk K Cl cs F H h) {xs : List (Key × AV)} (e : viewD h d = some xs) : ∃ a vs, v = .ref a ∧ H a = some (.dK vs) ∧ RepK K cs F vs xs := by
  rcases r with r | ⟨hb, a, e1, n1, n2, r⟩
  · cases r with
    | dct q r => simp [VL.viewD] at e; subst e; exact ⟨_, _, rfl, S.sub _ _ q, r⟩
    | adr q =>
      rename_i n a
      simp only [VL.viewD] at e
      split at e
      · rename_i xs' hc
        cases e
        obtain ⟨vs, q1, q2⟩ := cell_atD S q hc
        exact ⟨_, _, rfl, q1, q2⟩
      · cases e
    | _ => simp [VL.viewD] at e
  · rcases r with ⟨vs, xs', e2, q, r⟩ | ⟨vs, xs', e2, q, r⟩
    · subst e2; simp [VL.viewD] at e
    · subst e2; simp [VL.viewD] at e; subst e; exact ⟨_, _, e1, q, r⟩
mutual
theorem Rep.dpH (S : StOk K Cl cs F H h) : ∀ {v : V} {d : AV}, Rep K cs F v d → ∀ {p : PyData}, VL.pdH h d = some p → Dp K H v p
  | _, _, .non, _, q => by simp [VL.pdH] at q; subst q; exact .non
  | _, _, .bl b, _, q => by simp [VL.pdH] at q; subst q; exact .bl b
  | _, _, .int i, _, q => by simp [VL.pdH] at q; subst q; exact .int i
  | _, _, .str s, _, q => by simp [VL.pdH] at q; subst q; exact .str s
  | _, _, .tup h r, _, q => by
    simp [VL.pdH] at q
    obtain ⟨l, e1, e2⟩ := q
    subst e2
    exact .tup (ex_t S.sub h) (Reps.dpH S r e1)
  | _, _, .lst h r, _, q => by
    simp [VL.pdH] at q
    obtain ⟨l, e1, e2⟩ := q
    subst e2
    exact .lst (sq_of (S.sub _ _ h)) (Reps.dpH S r e1)
  | _, _, .ro h r, _, q => by
    simp [VL.pdH] at q
    obtain ⟨l, e1, e2⟩ := q
    subst e2
    exact .lst (ex_l S.sub h) (Reps.dpH S r e1)
  | _, _, .dct h r, _, q => by simp [VL.pdH] at q
  | _, _, .adr g, _, q => by
    simp only [VL.pdH] at q
    split at q
    · rename_i xs' hc
      simp at q
      obtain ⟨l, e1, e2⟩ := q
      subst e2
      obtain ⟨vs, q1, q2⟩ := cell_at S g hc
      exact .lst (sq_of q1) (q2.dp S.sub e1)
    · cases q
theorem Reps.dpH (S : StOk K Cl cs F H h) : ∀ {v : List V} {d : List AV}, Reps K cs F v d → ∀ {p : List PyData}, VL.pdHs h d = some p → DpAll K H v p
  | _, _, .nil, _, q => by simp [VL.pdHs] at q; subst q; exact .nil
  | _, _, .cons g r, _, q => by
    simp [VL.pdHs, Option.bind_eq_some_iff] at q
    obtain ⟨d1, e1, l, e2, e3⟩ := q
    subst e3
    exact .cons (Rep.dpH S g e1) (Reps.dpH S r e2)
end
theorem Reps.upH : ∀ {v : List V} {d : List AV}, Reps K cs F v d → StOk K Cl cs F H h → ∀ {p : List PyData}, VL.pdHs h d = some p → DpAll K H v p := fun r S _ q => Reps.dpH S r q
theorem RepB.pdH (r : RepB K cs F H b v d) (S : StOk K Cl cs F H h) {p : PyData} (e : pdH h d = some p) : Dp K H v p := by
  rcases r with r | ⟨hb, a, e1, n1, n2, r⟩
  · exact Rep.dpH S r e
  · rcases r with ⟨vs, xs', e2, q, r⟩ | ⟨vs, xs', e2, q, r⟩
    · subst e2
      simp [VL.pdH] at e
      obtain ⟨l, e3, e4⟩ := e
      subst e4 e1
      exact .lst (sq_of q) (r.dpH S e3)
    · subst e2; simp [VL.pdH] at e
theorem RepB.int {i : Int} (r : RepB K cs F H b v (.int i)) : v = .int i := by
  rcases r with r | ⟨_, _, _, _, _, ⟨_, _, e, _⟩ | ⟨_, _, e, _⟩⟩
  · cases r; rfl
  · cases e
  · cases e
theorem RepB.str {i : Str} (r : RepB K cs F H b v (.str i)) : v = .str i := by
  rcases r with r | ⟨_, _, _, _, _, ⟨_, _, e, _⟩ | ⟨_, _, e, _⟩⟩
  · cases r; rfl
  · cases e
  · cases e
theorem RepB.bl {i : Bool} (r : RepB K cs F H b v (.bl i)) : v = .bl i := by
  rcases r with r | ⟨_, _, _, _, _, ⟨_, _, e, _⟩ | ⟨_, _, e, _⟩⟩
  · cases r; rfl
  · cases e
  · cases e
theorem RepB.non (r : RepB K cs F H b v .non) : v = .non := by
  rcases r with r | ⟨_, _, _, _, _, ⟨_, _, e, _⟩ | ⟨_, _, e, _⟩⟩
  · cases r; rfl
  · cases e
  · cases e
theorem RepB.isNon (r : RepB K cs F H b v d) : decide (v = V.non) = isNon d := by
  rcases r with r | ⟨_, _, e1, _, _, ⟨_, _, e, _⟩ | ⟨_, _, e, _⟩⟩
  · cases r <;> rfl
  · subst e e1; rfl
  · subst e e1; rfl
theorem RepB.flat (r : RepB K cs F H b v d) (f : flatA d = true) : flatV v = true ∧ ∀ w e, Rep K cs F w e → flatA e = true → eqV w v = eqF e d := by
  have key : ∀ {v d}, Rep K cs F v d → flatA d = true → flatV v = true ∧ ∀ w e, Rep K cs F w e → flatA e = true → eqV w v = eqF e d := by
    intro v d r f
    cases r with
    | non => exact ⟨rfl, fun w e r f => by cases r <;> first | rfl | cases f⟩
    | bl x => exact ⟨rfl, fun w e r f => by cases r <;> first | rfl | cases f⟩
    | int x => exact ⟨rfl, fun w e r f => by cases r <;> first | rfl | cases f⟩
    | str x => exact ⟨rfl, fun w e r f => by cases r <;> first | rfl | cases f⟩
    | _ => cases f
  rcases r with r | ⟨_, _, _, _, _, ⟨_, _, e, _⟩ | ⟨_, _, e, _⟩⟩
  · exact key r f
  · subst e; cases f
  · subst e; cases f
theorem Reps.flat {vs : List V} {xs : List AV} (r : Reps K cs F vs xs) (f : xs.all flatA = true) {v : V} {d : AV} (rv : RepB K cs F H b v d) (fd : flatA d = true) :
    vs.all flatV = true ∧ inV v vs = xs.any (fun y => eqF y d) := by
  revert xs
  induction vs with
  | nil => intro xs r f; cases r; exact ⟨rfl, rfl⟩
  | cons w vs ih =>
    intro xs r f
    cases r with
    | cons h t =>
      rw [List.all_cons, Bool.and_eq_true] at f
      obtain ⟨i1, i2⟩ := ih t f.2
      have q : RepB K cs F H false w _ := .inl h
      refine ⟨by rw [List.all_cons, (q.flat f.1).1, i1]; rfl, ?_⟩
      unfold inV at i2 ⊢
      rw [List.any_cons, List.any_cons, i2, (rv.flat fd).2 w _ h f.1]
theorem RepB.key (r : RepB K cs F H b v d) {k : Key} (e : keyOf d = some k) : v = kV k := by
  cases d with
  | int i => simp [keyOf] at e; subst e; exact r.int
  | str i => simp [keyOf] at e; subst e; exact r.str
  | _ => simp [keyOf] at e
end

/-- what is wanted of a value -/
def PostV (K : PySem.W.Frag) (Cl : Nat → Addr) (cs : List Addr) (F H : Hp) (h : AHeap) (Q : KA) (R : VK) : Prop :=
  ∀ v d F' H', Stp cs F H cs F' H' → StOk K Cl cs F' H' h → Rep K cs F' v d → Q d → R v H'
section
variable {K : PySem.W.Frag} {Cl : Nat → Addr} {cs : List Addr} {F H : Hp} {h : AHeap} {Q : KA} {R : VK}
theorem PostV.here (p : PostV K Cl cs F H h Q R) (S : StOk K Cl cs F H h) {v : V} {d : AV} (r : Rep K cs F v d) (q : Q d) : R v H := p v d F H .refl S r q
theorem PostV.int (p : PostV K Cl cs F H h Q R) (S : StOk K Cl cs F H h) {i : Int} (q : Q (.int i)) : R (.int i) H := p.here S (.int i) q
theorem PostV.bl (p : PostV K Cl cs F H h Q R) (S : StOk K Cl cs F H h) {i : Bool} (q : Q (.bl i)) : R (.bl i) H := p.here S (.bl i) q
theorem PostV.str (p : PostV K Cl cs F H h Q R) (S : StOk K Cl cs F H h) {i : Str} (q : Q (.str i)) : R (.str i) H := p.here S (.str i) q
theorem PostV.newT (p : PostV K Cl cs F H h Q R) (S : StOk K Cl cs F H h) {vs : List V} {xs : List AV} (r : Reps K cs F vs xs) (q : Q (.tup xs)) : ∀ a, H a = none → R (.ref a) (upd H a (.tup vs)) := fun a ha =>
  p _ _ _ _ (.newF S ha) (S.newF ha) (.tup (st_of upd_same) (r.mono (Stp.newF (o := .tup vs) S ha).f ⟨[], by simp⟩)) q
theorem PostV.newL (p : PostV K Cl cs F H h Q R) (S : StOk K Cl cs F H h) {vs : List V} {xs : List AV} (r : Reps K cs F vs xs) (q : Q (.lst xs)) : ∀ a, H a = none → R (.ref a) (upd H a (.lst vs)) := fun a ha =>
  p _ _ _ _ (.newF S ha) (S.newF ha) (.lst upd_same (r.mono (Stp.newF (o := .lst vs) S ha).f ⟨[], by simp⟩)) q
end

/-- a two-place operation by its weakest reading -/
def OpW (X : Cx) (f : Value → Value → Sem Value) (x y : V) (H : Hp) (Q : VK) : Prop :=
  ∀ (pins : List (Addr × Obj)) (s : Shared) (σ : L2.St) (v u : Value), Inv X pins σ H s → RelV x v → RelV y u → wpAny (model X.prog X.w) X.A (f v u) (EP X pins σ Q) X.xe s
theorem opw_ok {X : Cx} {f : Value → Value → Sem Value} : OpR X f (OpW X f) := fun pins s σ H x y v u Q I rx ry h => h pins s σ v u I rx ry
theorem opw_of {X : Cx} {f : Value → Value → Sem Value} {r : R2} (o : OpR X f r) {x y : V} {H : Hp} {Q : VK} (h : r x y H Q) : OpW X f x y H Q := fun pins s σ v u I rx ry => o pins s σ H x y v u Q I rx ry h
section
variable {X : Cx} {Cl : Nat → Addr} {cs : List Addr} {F H : Hp} {h : AHeap} {Q : KA} {R : VK} {x y : V} {d e : AV} {b b' : Bool}
theorem CDivA.w {i j : Int} (h : CDivA j) : CDivW i j := h
theorem addK_ok (S : StOk X.K Cl cs F H h) (rx : RepB X.K cs F H false x d) (ry : RepB X.K cs F H false y e) (q : addK h d e Q) (p : PostV X.K Cl cs F H h Q R) : OpW X (binaryOp .Add) x y H R := by
  unfold addK at q
  split at q
  · cases rx.int; cases ry.int
    exact opw_of op_add ⟨_, _, rfl, rfl, p.int S q⟩
  · cases rx.str; cases ry.str
    exact opw_of op_add_str ⟨_, _, rfl, rfl, q.1, p.str S q.2⟩
  · rename_i xs ys
    have rx := rx.plain
    have ry := ry.plain
    cases rx with
    | tup h1 r1 =>
      cases ry with
      | tup h2 r2 =>
        rename_i vs _ ws
        refine opw_of op_catA ⟨_, _, vs, ws, rfl, rfl, ex_t S.sub h1, ex_t S.sub h2, by rw [r1.length, r2.length]; exact q.1, fun z => ?_, fun _ z => ?_, fun _ _ => p.newT S (r1.append r2) q.2⟩
        · subst z
          cases r1
          exact p.here S (.tup h2 r2) q.2
        · subst z
          cases r2
          have q2 := q.2
          rw [List.append_nil] at q2
          exact p.here S (.tup h1 r1) q2
  · exact q.elim
theorem strRep_len (x : Str) (n : Int) : (strRep x n).length ≤ x.length * n.toNat + x.length := by
  unfold strRep
  split
  · exact Nat.zero_le _
  · split
    · omega
    · have key : ∀ (k : Nat) (acc : Array Nat), ((List.replicate k x.cps).foldl (· ++ ·) acc).size = acc.size + k * x.cps.size := by
        intro k
        induction k with
        | zero => intro acc; simp
        | succ k ih => intro acc; rw [List.replicate_succ, List.foldl_cons, ih, Array.size_append, Nat.succ_mul]; omega
      show ((List.replicate n.toNat x.cps).foldl (· ++ ·) #[]).size ≤ x.cps.size * n.toNat + x.cps.size
      rw [key, Nat.mul_comm]
      simp
theorem op_mul_str : OpR X (binaryOp .Mult) (fun x y H Q => ∃ z k, x = .str z ∧ y = .int k ∧ (-(2 ^ 60) < k ∧ k < 2 ^ 60 ∧ z.length * k.toNat ≤ 1000000) ∧ Q (.str (strRep z k)) H) := by
  intro pins s σ H x y v u Q I rx ry h
  obtain ⟨z, k, rfl, rfl, ⟨h1, h2, h3⟩, q⟩ := h
  obtain ⟨t, rfl⟩ := rx
  obtain ⟨t', rfl⟩ := ry
  have hs : sizeLine = 16777216 := sizeLine_eq
  have e60 : (2 ^ 60 : Int) = 1152921504606846976 := by decide
  have e63 : (2 ^ 63 : Int) = 9223372036854775808 := by decide
  rw [e60] at h1 h2
  refine PySem.P.mul_str ?_ (fun a b => ?_) (fun a b => ?_) ?_
  · have e1 : decide (k < -(2 ^ 63 : Int)) = false := decide_eq_false (by rw [e63]; omega)
    have e2 : decide (k ≥ 2 ^ 63) = false := decide_eq_false (by rw [e63]; omega)
    rw [e1, e2]; rfl
  · intro c
    have hk : 0 < k := by omega
    have h4 : (z.length : Int) * k ≤ 1000000 := by
      have : ((z.length * k.toNat : Nat) : Int) ≤ ((1000000 : Nat) : Int) := Int.ofNat_le.mpr h3
      rw [Int.natCast_mul] at this
      rw [Int.toNat_of_nonneg (by omega)] at this
      exact this
    have h5 : (2 ^ 63 - 1 : Int) / k < z.length := c
    have h6 := Int.lt_mul_of_ediv_lt hk h5
    have e63 : (2 ^ 63 - 1 : Int) = 9223372036854775807 := by decide
    rw [e63] at h6
    omega
  · unfold Builtin.Str.tooLong
    exact decide_eq_false (by omega)
  · have hl := strRep_len z k
    by_cases a : k < 1
    · have e : strRep z k = Str.empty := if_pos a
      rw [e] at q
      rw [if_pos a]
      exact ⟨by decide, .str Str.empty, H, I.tok _, ⟨_, rfl⟩, q⟩
    · rw [if_neg a]
      by_cases b : (k == 1 || z.length == 0) = true
      · have e : strRep z k = z := by unfold strRep; rw [if_neg a, if_pos b]
        rw [e] at q
        rw [if_pos b]
        exact ⟨.str z, H, I, ⟨_, rfl⟩, q⟩
      · have e : strRep z k = ⟨(List.replicate k.toNat z.cps).foldl (· ++ ·) #[]⟩ := by unfold strRep; rw [if_neg a, if_neg b]
        rw [e] at q hl
        rw [if_neg b]
        refine ⟨?_, .str _, H, I.tok _, ⟨_, rfl⟩, q⟩
        have : z.length ≤ z.length * k.toNat := Nat.le_mul_of_pos_right _ (by omega)
        omega
theorem binK_ok {op : Operator} (S : StOk X.K Cl cs F H h) (rx : RepB X.K cs F H false x d) (ry : RepB X.K cs F H false y e) (q : binK h op d e Q) (p : PostV X.K Cl cs F H h Q R) : OpW X (binaryOp op) x y H R := by
  unfold binK at q
  split at q
  · exact addK_ok S rx ry q p
  · split at q
    · cases rx.int; cases ry.int
      exact opw_of op_sub ⟨_, _, rfl, rfl, p.int S q⟩
    · exact q.elim
  · split at q
    · cases rx.int; cases ry.int
      rcases q.1 with c | c
      · exact opw_of op_mul ⟨_, _, rfl, rfl, c, p.int S q.2⟩
      · exact opw_of op_mulW ⟨_, _, rfl, rfl, c, p.int S q.2⟩
    · cases rx.str; cases ry.int
      exact opw_of op_mul_str ⟨_, _, rfl, rfl, q.1, p.str S q.2⟩
    · exact q.elim
  · split at q
    · cases rx.int; cases ry.int
      exact opw_of op_fdivW ⟨_, _, rfl, rfl, CDivA.w q.1, p.int S q.2⟩
    · exact q.elim
  · split at q
    · cases rx.int; cases ry.int
      exact opw_of op_mod ⟨_, _, rfl, rfl, q.1, p.int S q.2⟩
    · exact q.elim
  · split at q
    · cases rx.int; cases ry.int
      exact opw_of op_pow ⟨_, _, rfl, rfl, q.1, p.int S q.2⟩
    · exact q.elim
  · exact q.elim
theorem eqGen_ok (hu : X.A.units + 64 < cLine) {neg : Bool} (S : StOk X.K Cl cs F H h) (rx : RepB X.K cs F H b x d) (ry : RepB X.K cs F H b' y e) (q : eqGen h neg d e Q) (p : PostV X.K Cl cs F H h Q R) : OpW X (compareOp (if neg then .NotEq else .Eq)) x y H R := by
  unfold eqGen at q
  split at q
  · rename_i d1 e1 h1 h2
    have dx := rx.pdH S h1
    have dy := ry.pdH S h2
    cases neg with
    | true => exact opw_of (op_neD hu) ⟨_, _, dx, dy, q.1, q.2.1, p.bl S q.2.2⟩
    | false => exact opw_of (op_eqD hu) ⟨_, _, dx, dy, q.1, q.2.1, p.bl S q.2.2⟩
  · exact q.elim
theorem eqK_ok (hu : X.A.units + 64 < cLine) (S : StOk X.K Cl cs F H h) (rx : RepB X.K cs F H b x d) (ry : RepB X.K cs F H b' y e) (q : eqK h d e Q) (p : PostV X.K Cl cs F H h Q R) : OpW X (compareOp .Eq) x y H R := by
  unfold eqK at q
  split at q
  · cases rx.int; cases ry.int
    exact opw_of op_eq ⟨rfl, p.bl S (by simpa using q)⟩
  · cases rx.str; cases ry.str
    exact opw_of op_eq ⟨rfl, p.bl S (by simpa using q)⟩
  · cases rx.bl; cases ry.bl
    exact opw_of op_eq ⟨rfl, p.bl S (by simpa using q)⟩
  · cases rx.non; cases ry.non
    exact opw_of op_eq ⟨rfl, p.bl S (by simpa using q)⟩
  · cases rx.int; cases ry.str
    exact opw_of op_eq ⟨rfl, p.bl S (by simpa using q)⟩
  · cases rx.str; cases ry.int
    exact opw_of op_eq ⟨rfl, p.bl S (by simpa using q)⟩
  · exact eqGen_ok (neg := false) hu S rx ry q p
theorem neK_ok (hu : X.A.units + 64 < cLine) (S : StOk X.K Cl cs F H h) (rx : RepB X.K cs F H b x d) (ry : RepB X.K cs F H b' y e) (q : neK h d e Q) (p : PostV X.K Cl cs F H h Q R) : OpW X (compareOp .NotEq) x y H R := by
  unfold neK at q
  split at q
  · cases rx.int; cases ry.int
    exact opw_of op_ne ⟨rfl, p.bl S (by simpa using q)⟩
  · cases rx.str; cases ry.str
    exact opw_of op_ne ⟨rfl, p.bl S (by simpa using q)⟩
  · cases rx.bl; cases ry.bl
    exact opw_of op_ne ⟨rfl, p.bl S (by simpa using q)⟩
  · cases rx.non; cases ry.non
    exact opw_of op_ne ⟨rfl, p.bl S (by simpa using q)⟩
  · cases rx.int; cases ry.str
    exact opw_of op_ne ⟨rfl, p.bl S (by simpa using q)⟩
  · cases rx.str; cases ry.int
    exact opw_of op_ne ⟨rfl, p.bl S (by simpa using q)⟩
  · exact eqGen_ok (neg := true) hu S rx ry q p
theorem op_dIn (hu : X.A.units + 1 < cLine) : OpR X (compareOp .In) (fun x y H Q => ∃ a o, y = .ref a ∧ DGet H a x o ∧ Q (.bl o.isSome) H) := by
  intro pins s σ H x y v u Q I rx ry h
  obtain ⟨a, o, rfl, g, q⟩ := h
  cases ry
  exact d_in hu I g rx fun s3 I3 => ⟨.bl o.isSome, H, I3, rfl, q⟩
theorem op_dNotIn (hu : X.A.units + 1 < cLine) : OpR X (compareOp .NotIn) (fun x y H Q => ∃ a o, y = .ref a ∧ DGet H a x o ∧ Q (.bl (!o.isSome)) H) := by
  intro pins s σ H x y v u Q I rx ry h
  obtain ⟨a, o, rfl, g, q⟩ := h
  cases ry
  exact d_notIn hu I g rx fun s3 I3 => ⟨.bl (!o.isSome), H, I3, rfl, q⟩
theorem inK_ok (hu : X.A.units + 64 < cLine) {neg : Bool} (S : StOk X.K Cl cs F H h) (rx : RepB X.K cs F H b x d) (ry : RepB X.K cs F H b' y e) (q : inK h neg d e Q) (p : PostV X.K Cl cs F H h Q R) : OpW X (compareOp (if neg then .NotIn else .In)) x y H R := by
  unfold inK at q
  split at q
  · rename_i z
    split at q
    · rename_i w
      split at q
      · rename_i c hc
        cases rx.str; cases ry.str
        have ew : w = ⟨#[c]⟩ := by
          obtain ⟨w⟩ := w
          obtain ⟨w⟩ := w
          simp at hc
          rw [hc]
        cases neg with
        | true => exact opw_of op_notIn_sign ⟨c, z, by rw [ew], rfl, p.bl S q⟩
        | false => exact opw_of op_in_sign ⟨c, z, by rw [ew], rfl, p.bl S q⟩
      · exact q.elim
    · exact q.elim
  · split at q
    · rename_i xs hv
      obtain ⟨a, vs, rfl, hq, r⟩ := ry.viewT S hv
      obtain ⟨f1, f2⟩ := r.flat q.2.1 rx q.1
      have q3 := q.2.2
      rw [← f2] at q3
      cases neg with
      | true => exact opw_of op_notIn_seq ⟨a, vs, rfl, hq, (rx.flat q.1).1, f1, p.bl S q3⟩
      | false => exact opw_of op_in_seq ⟨a, vs, rfl, hq, (rx.flat q.1).1, f1, p.bl S q3⟩
    · split at q
      · rename_i kvs k hd hk
        obtain ⟨a, vs, rfl, hq, r⟩ := ry.viewD S hd
        cases rx.key hk
        have e1 : (valV vs k).isSome = (getD kvs k).isSome := by
          rcases r.get (k := k) with ⟨v, d, e1, e2, _⟩ | ⟨e1, e2⟩ <;> rw [e1, e2] <;> rfl
        rw [← e1] at q
        cases neg with
        | true => exact opw_of (op_dNotIn (by omega)) ⟨a, _, rfl, .k hq, p.bl S q⟩
        | false => exact opw_of (op_dIn (by omega)) ⟨a, _, rfl, .k hq, p.bl S q⟩
      · exact q.elim
theorem cmpK_ok (hu : X.A.units + 64 < cLine) {op : CmpOp} (S : StOk X.K Cl cs F H h) (rx : RepB X.K cs F H b x d) (ry : RepB X.K cs F H b' y e) (q : cmpK h op d e Q) (p : PostV X.K Cl cs F H h Q R) : OpW X (compareOp op) x y H R := by
  unfold cmpK at q
  split at q
  · exact eqK_ok hu S rx ry q p
  · exact neK_ok hu S rx ry q p
  · split at q
    · cases rx.int; cases ry.int
      exact opw_of op_lt ⟨_, _, rfl, rfl, p.bl S q⟩
    · exact q.elim
  · split at q
    · cases rx.int; cases ry.int
      exact opw_of op_le ⟨_, _, rfl, rfl, p.bl S q⟩
    · exact q.elim
  · split at q
    · cases rx.int; cases ry.int
      exact opw_of op_gt ⟨_, _, rfl, rfl, p.bl S q⟩
    · exact q.elim
  · split at q
    · cases rx.int; cases ry.int
      exact opw_of op_ge ⟨_, _, rfl, rfl, p.bl S q⟩
    · exact q.elim
  · split at q
    · cases ry.non
      rw [← rx.isNon] at q
      exact opw_of op_isN ⟨rfl, p.bl S q⟩
    · exact q.elim
  · split at q
    · cases ry.non
      rw [← rx.isNon] at q
      exact opw_of op_notN ⟨rfl, p.bl S q⟩
    · exact q.elim
  · exact inK_ok (neg := false) hu S rx ry q p
  · exact inK_ok (neg := true) hu S rx ry q p
end
/-! items, slices, truth, calls of built-ins -/
def IxW (X : Cx) (x y : V) (H : Hp) (Q : VK) : Prop :=
  ∀ (value slice : Expr) (pins : List (Addr × Obj)) (s : Shared) (σ : L2.St) (v u : Value), Inv X pins σ H s → RelV x v → RelV y u → subscripted slice false v u = operate [v, u] (getItem v u) → wpAny (model X.prog X.w) X.A (subscriptTail value slice v u) (EP X pins σ Q) X.xe s
theorem ixw_ok {X : Cx} : IxR X (IxW X) := fun value slice pins s σ H x y v u Q I rx ry h hs => h value slice pins s σ v u I rx ry hs
theorem ixw_of {X : Cx} {r : R2} (o : IxR X r) {x y : V} {H : Hp} {Q : VK} (h : r x y H Q) : IxW X x y H Q := fun value slice pins s σ v u I rx ry hs => o value slice pins s σ H x y v u Q I rx ry h hs
def SlW (X : Cx) (x : V) (lo hi : Option Int) (H : Hp) (Q : VK) : Prop :=
  ∀ (pins : List (Addr × Obj)) (s : Shared) (σ : L2.St) (v vl vu : Value) (sl : Addr), Inv X pins σ H s → RelV x v → s.heap.IsSliceOf sl vl vu .none → IsPart vl lo → IsPart vu hi →
    ∃ T id, typeLookup (.type T) "__getitem__" = pure (some (.builtin id)) ∧ s.TypeIs v T ∧ wpAny (model X.prog X.w) X.A (getItem v (.ref sl)) (EP X pins σ Q) X.xe s
theorem slw_ok {X : Cx} : SlR X (SlW X) := fun pins s σ H x v vl vu lo hi sl Q I rx hs pl pu h => h pins s σ v vl vu sl I rx hs pl pu
theorem slw_of {X : Cx} {r : V → Option Int → Option Int → Hp → VK → Prop} (o : SlR X r) {x : V} {lo hi : Option Int} {H : Hp} {Q : VK} (h : r x lo hi H Q) : SlW X x lo hi H Q := fun pins s σ v vl vu sl I rx hs pl pu => o pins s σ H x v vl vu lo hi sl Q I rx hs pl pu h
def CallW (X : Cx) (f : Value) (xs : List V) (H : Hp) (Q : VK) : Prop :=
  ∀ (pins : List (Addr × Obj)) (s : Shared) (σ : L2.St) (us : List Value), Inv X pins σ H s → Vals xs us → wpAny (model X.prog X.w) X.A (call f us) (EP X pins σ Q) X.xe s
theorem callw_ok {X : Cx} {f : Value} : CallR X f (CallW X f) := fun pins s σ H xs us Q I r h => h pins s σ us I r
theorem callw_of {X : Cx} {f : Value} {r : List V → Hp → VK → Prop} (o : CallR X f r) {xs : List V} {H : Hp} {Q : VK} (h : r xs H Q) : CallW X f xs H Q := fun pins s σ us I rs => o pins s σ H xs us Q I rs h
section
variable {X : Cx} {Cl : Nat → Addr} {cs : List Addr} {F H : Hp} {h : AHeap} {Q : KA} {R : VK} {x y : V} {d e : AV} {b b' : Bool}
theorem ix_dict (hu : X.A.units + 1 < cLine) : IxR X (fun x y H Q => ∃ a v, x = .ref a ∧ DGet H a y (some v) ∧ Q v H) := by
  intro value slice pins s σ H x y v u Q I rx ry h hs
  obtain ⟨a, w, rfl, g, q⟩ := h
  cases rx
  exact tail_any (dict_typeIs I g) PySem.F.slot_dict_getitem.lookup (d_getItem hu I g ry fun w' s3 I3 rw' => ⟨w, H, I3, rw', q⟩) hs
theorem subK_ok (hu : X.A.units + 64 < cLine) (S : StOk X.K Cl cs F H h) (rx : RepB X.K cs F H b x d) (ry : RepB X.K cs F H b' y e) (q : subK h d e Q) (p : PostV X.K Cl cs F H h Q R) : IxW X x y H R := by
  unfold subK at q
  split at q
  · split at q
    · cases rx.str; cases ry.int
      obtain ⟨q1, q2⟩ := q
      split at q2
      · rename_i c hc
        exact ixw_of ix_str ⟨_, _, c, rfl, rfl, q1, hc, p.str S q2⟩
      · exact q2.elim
    · exact q.elim
  · split at q
    · rename_i xs hv
      obtain ⟨a, vs, rfl, hq, r⟩ := rx.viewT S hv
      split at q
      · cases ry.int
        split at q
        · rename_i d' hd
          obtain ⟨v, hv, rv⟩ := r.at hd
          rcases hq with hq | hq
          · exact ixw_of ix_list ⟨a, vs, _, v, rfl, rfl, hq, hv, p.here S rv q⟩
          · exact ixw_of ix_tup ⟨a, vs, _, v, rfl, rfl, hq, hv, p.here S rv q⟩
        · exact q.elim
      · exact q.elim
    · split at q
      · rename_i kvs k hd hk
        obtain ⟨a, vs, rfl, hq, r⟩ := rx.viewD S hd
        cases ry.key hk
        split at q
        · rename_i d' hd'
          rcases r.get (k := k) with ⟨v, d2, e1, e2, r2⟩ | ⟨e1, e2⟩
          · rw [hd'] at e2; cases e2
            refine ixw_of (ix_dict (by omega)) ⟨a, v, rfl, ?_, p.here S r2 q⟩
            rw [← e1]
            exact .k hq
          · rw [hd'] at e2; cases e2
        · exact q.elim
      · exact q.elim
theorem Reps.cut_whole {K : PySem.W.Frag} {vs : List V} {xs : List AV} (r : Reps K cs F vs xs) {lo hi : Option Int} (w : HT.sIx vs.length 0 lo = 0 ∧ HT.sIx vs.length vs.length hi = vs.length) : _root_.VL.cut xs lo hi = xs := by
  unfold VL.cut
  rw [← r.length, w.1, w.2, r.length]
  simp
theorem sliceK_ok (S : StOk X.K Cl cs F H h) (rx : RepB X.K cs F H false x d) {lo hi : Option Int} (q : sliceK h d lo hi Q) (p : PostV X.K Cl cs F H h Q R) : SlW X x lo hi H R := by
  unfold sliceK at q
  split at q
  · cases rx.str
    exact slw_of sl_str ⟨_, rfl, q.1, p.str S q.2⟩
  · have rx := rx.plain
    cases rx with
    | tup h1 r1 =>
      refine slw_of sl_tupA ⟨_, _, rfl, ex_t S.sub h1, fun w => ?_, fun _ => p.newT S (r1.cut lo hi) q⟩
      rw [r1.cut_whole w] at q
      exact p.here S (.tup h1 r1) q
  · exact q.elim
theorem truK_ok (S : StOk X.K Cl cs F H h) (rx : RepB X.K cs F H b x d) {Q : Bool → Prop} (q : truK h d Q) : ∃ k, TruV X.K x H k ∧ Q k := by
  unfold truK at q
  split at q
  · cases rx.bl; exact ⟨_, rfl, q⟩
  · cases rx.non; exact ⟨_, rfl, q⟩
  · cases rx.int; exact ⟨_, rfl, q⟩
  · cases rx.str; exact ⟨_, ⟨q.1, rfl⟩, q.2⟩
  · split at q
    · rename_i xs hv
      obtain ⟨a, vs, rfl, hq, r⟩ := rx.viewT S hv
      have e : xs.isEmpty = vs.isEmpty := by
        have := r.length
        cases vs <;> cases xs <;> simp at this ⊢
      rw [e] at q
      rcases hq with hq | hq
      · exact ⟨_, .inl ⟨vs, hq, rfl⟩, q⟩
      · exact ⟨_, .inr (.inl ⟨vs, hq, rfl⟩), q⟩
    · exact q.elim
def bVal : Blt → Value
  | .len => .builtin "len" | .abs => .builtin "abs" | .int => .type "int" | .str => .type "str" | .max2 => .builtin "max" | .min2 => .builtin "min" | .maxL => .builtin "max" | .minL => .builtin "min"
  | .sum => .builtin "sum" | .all => .builtin "all" | .any => .builtin "any" | .tuple => .type "tuple" | .repr => .builtin "repr"
inductive RepBs (K : PySem.W.Frag) (cs : List Addr) (F H : Hp) (b : Bool) : List V → List AV → Prop
  | nil : RepBs K cs F H b [] []
  | cons {v : V} {vs : List V} {d : AV} {ds : List AV} : RepB K cs F H b v d → RepBs K cs F H b vs ds → RepBs K cs F H b (v :: vs) (d :: ds)
theorem RepBs.step {K : PySem.W.Frag} {cs' : List Addr} {F' H' : Hp} {vs : List V} {ds : List AV} (r : RepBs K cs F H b vs ds) (x : Stp cs F H cs' F' H') : RepBs K cs' F' H' b vs ds := by
  induction r with
  | nil => exact .nil
  | cons h _ ih => exact .cons (h.step x) ih
theorem RepBs.plain {K : PySem.W.Frag} {vs : List V} {ds : List AV} (r : RepBs K cs F H false vs ds) : Reps K cs F vs ds := by
  induction r with
  | nil => exact .nil
  | cons h _ ih => exact .cons h.plain ih
/-- repr, where no guard is open -/
theorem call_repr_D (gd : X.A.guards = some []) (hu : X.A.units + 64 < cLine) : CallR X (.builtin "repr") fun vs H Q => ∃ v d, vs = [v] ∧ Dp X.K H v d ∧ (d.showable = true ∧ d.hasDict = false ∧ d.depth ≤ 50 ∧ d.shown.length ≤ sizeLine) ∧ Q (.str d.shown) H := by
  rintro pins s σ H vs us Q J rs ⟨v, d, rfl, hd, ⟨h1, h2, h3, h4⟩, q⟩
  cases rs with
  | cons r rs =>
    rename_i u us
    cases rs
    obtain ⟨as, rd⟩ := Dp.reads J d v u hd r
    have fin : ∀ h' tk, (∀ b o, s.heap.get? b = some o → h'.get? b = some o) → ∀ t, EP X pins σ Q (.str d.shown t) { s with heap := h', toks := tk } :=
      fun h' tk hk t => ⟨.str d.shown, H, J.kept hk, ⟨t, rfl⟩, q⟩
    have same : ∀ b o, s.heap.get? b = some o → s.heap.get? b = some o := fun _ _ e => e
    cases rd with
    | none => exact PySem.P.repr_of_none (fin s.heap _ same _)
    | bool b => exact PySem.P.repr_of_bool (fin s.heap _ same _)
    | int i t => exact PySem.P.repr_of_int (by simpa [PyData.showable] using h1) (fin s.heap _ same _)
    | str x t => exact PySem.P.repr_of_str (fin s.heap _ same _) h4
    | list a1 a2 a3 a4 => exact repr_of_reads' (.list a1 a2 a3 a4) h1 (PyData.noDict_hsm h2) gd (by omega) same (fun h' t tk hk => fin h' tk hk t) h4
    | tuple a1 a2 a3 a4 => exact repr_of_reads' (.tuple a1 a2 a3 a4) h1 (PyData.noDict_hsm h2) gd (by omega) same (fun h' t tk hk => fin h' tk hk t) h4
    | dict a1 a2 a3 a4 a5 => cases h2
theorem bltK_ok (hc : X.calm = true) (gd : X.A.guards = some []) (hu : X.A.units + 64 < cLine) (S : StOk X.K Cl cs F H h) {bt : Blt} {vs : List V} {ds : List AV} (rs : RepBs X.K cs F H b vs ds) (q : bltK h bt ds Q) (p : PostV X.K Cl cs F H h Q R) : CallW X (bVal bt) vs H R := by
  unfold bltK at q
  split at q
  · -- len of a text
    cases rs with | cons r1 rs => cases rs; cases r1.str; exact callw_of call_len_str ⟨_, rfl, q.1, p.int S q.2⟩
  · cases rs with
    | cons r1 rs =>
      cases rs
      split at q
      · rename_i xs hv
        obtain ⟨a, vs, rfl, hq, r⟩ := r1.viewT S hv
        refine callw_of call_len_seq ⟨a, vs, rfl, hq, ?_⟩
        rw [r.length]
        exact p.int S q
      · split at q
        · rename_i kvs hd
          obtain ⟨a, vs, rfl, hq, r⟩ := r1.viewD S hd
          refine callw_of call_lenD ⟨a, vs, rfl, hq, ?_⟩
          rw [r.length]
          exact p.int S q
        · exact q.elim
  · cases rs with | cons r1 rs => cases rs; cases r1.int; exact callw_of call_abs ⟨_, rfl, p.int S q⟩
  · cases rs with | cons r1 rs => cases rs; cases r1.int; exact callw_of call_int1 (.inl ⟨_, rfl, p.int S q⟩)
  · cases rs with | cons r1 rs => cases rs; cases r1.bl; exact callw_of call_int1 (.inr ⟨_, rfl, p.int S q⟩)
  · cases rs with | cons r1 rs => cases rs; cases r1.int; exact callw_of call_str_int ⟨_, rfl, q.1, p.str S q.2⟩
  · cases rs with | cons r1 rs => cases rs with | cons r2 rs => cases rs; cases r1.int; cases r2.int; exact callw_of (call_max2 hc) ⟨_, _, rfl, p.int S q⟩
  · cases rs with | cons r1 rs => cases rs with | cons r2 rs => cases rs; cases r1.int; cases r2.int; exact callw_of (call_min2 hc) ⟨_, _, rfl, p.int S q⟩
  · cases rs with
    | cons r1 rs =>
      cases rs
      split at q
      · rename_i ns hv
        obtain ⟨xs, hv, hn⟩ := Option.bind_eq_some_iff.mp hv
        obtain ⟨a, vs, rfl, hq, r⟩ := r1.view S hv
        rw [r.ints hn] at hq
        exact callw_of (cr_max hc) ⟨a, ns, rfl, hq, q.1, fun m h1 h2 => p.int S (q.2 m h1 h2)⟩
      · exact q.elim
  · cases rs with
    | cons r1 rs =>
      cases rs
      split at q
      · rename_i ns hv
        obtain ⟨xs, hv, hn⟩ := Option.bind_eq_some_iff.mp hv
        obtain ⟨a, vs, rfl, hq, r⟩ := r1.view S hv
        rw [r.ints hn] at hq
        exact callw_of (cr_min hc) ⟨a, ns, rfl, hq, q.1, fun m h1 h2 => p.int S (q.2 m h1 h2)⟩
      · exact q.elim
  · cases rs with
    | cons r1 rs =>
      cases rs
      split at q
      · rename_i ns hv
        obtain ⟨xs, hv, hn⟩ := Option.bind_eq_some_iff.mp hv
        obtain ⟨a, vs, rfl, hq, r⟩ := r1.view S hv
        rw [r.ints hn] at hq
        exact callw_of (cr_sum hc) ⟨a, ns, rfl, hq, p.int S q⟩
      · exact q.elim
  · cases rs with
    | cons r1 rs =>
      cases rs
      split at q
      · rename_i ns hv
        obtain ⟨xs, hv, hn⟩ := Option.bind_eq_some_iff.mp hv
        obtain ⟨a, vs, rfl, hq, r⟩ := r1.view S hv
        rw [r.bools hn] at hq
        exact callw_of (cr_all hc) ⟨a, ns, rfl, hq, p.bl S q⟩
      · exact q.elim
  · cases rs with
    | cons r1 rs =>
      cases rs
      split at q
      · rename_i ns hv
        obtain ⟨xs, hv, hn⟩ := Option.bind_eq_some_iff.mp hv
        obtain ⟨a, vs, rfl, hq, r⟩ := r1.view S hv
        rw [r.bools hn] at hq
        exact callw_of (cr_any hc) ⟨a, ns, rfl, hq, p.bl S q⟩
      · exact q.elim
  · cases rs with
    | cons r1 rs =>
      cases rs
      split at q
      · rename_i d hd
        exact callw_of (call_repr_D gd hu) ⟨_, d, rfl, r1.pdH S hd, q.1, p.str S q.2⟩
      · exact q.elim
  · cases rs with
    | cons r1 rs =>
      cases rs
      rcases r1 with r | ⟨_, _, _, _, _, ⟨_, _, e, _⟩ | ⟨_, _, e, _⟩⟩
      · cases r with
        | tup h1 r1 => exact callw_of call_tuple_of ⟨_, _, rfl, .inr ⟨ex_t S.sub h1, p.here S (.tup h1 r1) q⟩⟩
      · cases e
      · cases e
  · cases rs with
    | cons r1 rs =>
      cases rs
      split at q
      · rename_i xs hv
        obtain ⟨a, vs, rfl, hq, r⟩ := r1.view S hv
        exact callw_of call_tuple_of ⟨a, vs, rfl, .inl ⟨hq, p.newT S r q⟩⟩
      · exact q.elim
  · exact q.elim
end
end VL

set_option maxRecDepth 100000
set_option maxHeartbeats 4000000
/-! VL: the promise of a def where no guard stands open: what repr asks. -/
namespace VL
open PySem L2 Evl PyProof.Rows PySem.Spec
/-- what a def keeps, called where no guard is open; no exception leaves it -/
structure FnG (P : Program) (W : World) (K : PySem.W.Frag) (gl : Str → Option Value) (B : Heap) (k : Nat) (f : Addr) (fd : FuncData) (ps : List Str) (sp : Sp) : Prop where
  cnt : ∀ vs H Q E, sp vs H Q E → vs.length = ps.length
  go : ∀ (A : Around) (fr : List PySem.Env) (s : Shared) (H : Hp) (ar : Args) (us : List Value) (vs : List V) (Q : VK) (E : XK),
    A.guards = some [] → Room k A → Env0 P W K gl B A fr s H → BindsTo s fd ar (ps.zip us) → Vals vs us → sp vs H Q E →
    codeAny (model P W) A (.call (.ref f) ar) (CR CX0 fr P W H s Q E) s
section
variable {P : Program} {W : World} {K : PySem.W.Frag} {gl : Str → Option Value} {B : Heap}
theorem FnG.of_body {name qn : Str} {st : Stmt} {f : Addr} {fd : FuncData} {N ps : List Str} {k : Nat} {sp : Sp} (F : Fun K name qn st f fd) (S : FnScope N ps (defScope st)) (cnt : ∀ vs H Q E, sp vs H Q E → vs.length = ps.length)
    (body : ∀ (cv : Value) (A : Around) (fr : List PySem.Env) (s : Shared) (H : Hp) (vs : List V) (Q : VK) (E : XK), (A.deeper (envOfC qn (defScope st) s.heap.objs.size f cv)).guards = some [] →
      Room k (A.deeper (envOfC qn (defScope st) s.heap.objs.size f cv)) → sp vs H Q E →
      ∃ t, PSs (cxOf CX0 P W K gl B N qn (defScope st) f cv A fr s H E).nox (defBody st) t ∧ t { nx := fun _ H' => Q .non H', rt := Q } (L2.start N vs) H) :
    FnG P W K gl B (k + 1) f fd ps sp := by
  obtain ⟨oc, od, kV, dc, pm, an, cv, ct, sl, rfl, at_, code⟩ := F.ex
  constructor
  · exact cnt
  intro A fr s H ar us vs Q E gd room env bnd rel want
  have here : K.In s.heap := env.mod.kin.keeps fun b o z => (env.bs b o z).1
  have kinds : ∀ y ∈ ps.zip us, (defScope st).names.lookup y.1 = some .local ∨ ((defScope st).names.lookup y.1 = some .cell ∧ ((cellsFrom (s.heap.objs.size + 1) (defScope st).names []).lookup y.1).isSome = true) := by
    rintro ⟨nm, v⟩ hy
    rcases S.par nm (List.of_mem_zip hy).1 with z | z
    · exact Or.inl z
    · exact Or.inr ⟨z, PySem.W.cellsFrom_some _ _ _ (Or.inl z)⟩
  refine codeAny_call_function room.depth (here _ _ at_) rfl S.co S.gen rfl (PySem.W.codeRec_of here code) (bnd _ _ _ _ ?_)
  refine wpAny_newFunctionEnv_cells S.kind kinds fun e0 he s1 x => ?_
  cases he
  have calm : s.heap.NoLimit := env.mod.nolimit.keeps fun b o z => (env.bs b o z).1
  refine And.intro (calm.keeps x.toInCall.keep) (codeAny_func ?_)
  obtain ⟨t, pt, run⟩ := body cv A fr s H vs Q E gd (room.deeper _) want
  have J : Inv (cxOf CX0 P W K gl B N qn (defScope st) f cv A fr s H E) [] (L2.start N vs) H s1 := inv_start S room.hd env (cnt _ _ _ _ want) rel x
  refine wpAny_mono (pt.nox.run [] s1 (L2.start N vs) H _ J run) ?_ fun _ _ z => z
  intro fl s2 z
  match fl, z with
  | .ret u, ⟨v, _, H2, J2, rv, q⟩ => exact ⟨v, H2, J2.os, J2.bare, J2.base, J2.hok, rv, q⟩
  | .next, ⟨_, H2, J2, q⟩ => exact ⟨V.non, H2, J2.os, J2.bare, J2.base, J2.hok, rfl, q⟩
  | .brk, ⟨_, _, _, q⟩ => exact q.elim
  | .cont, ⟨_, _, _, q⟩ => exact q.elim
end
section
variable {X : Cx} {k : Nat} {f : Addr} {fd : FuncData} {ps : List Str} {sp : Sp} {x : Str} {p pos : Pos} {e : Expr} {es : List Expr} {t : TA}
theorem FnG.step {pins : List (Addr × Obj)} {σ : L2.St} {H : Hp} {s : Shared} {Q : VK} {us : List Value} {vs : List V} (F : FnG X.prog X.w X.K X.mg X.base k f fd ps sp) (gd : X.A.guards = some []) (room : Room k X.A) (bnd : Binds X.K fd ps [])
    (J : Inv X pins σ H s) (rel : Vals vs us) (want : sp vs H Q E0) : wpAny (model X.prog X.w) X.A (call (.ref f) us) (EP X pins σ Q) X.xe s := by
  have n1 : (us ++ []).length = ps.length := by
    rw [List.append_nil, ← rel.length]
    exact F.cnt _ _ _ _ want
  have b1 := bnd s us J.kIn n1
  rw [List.append_nil] at b1
  refine wpAny_call (codeAny_mono (F.go X.A X.stack s H ⟨us, []⟩ us vs Q E0 gd room J.env0 b1 rel want) ?_)
  intro r s2 z
  match r, z with
  | .ok (.ret u), z => exact J.after z
  | .ok .next, z => exact z.elim
  | .ok .brk, z => exact z.elim
  | .ok .cont, z => exact z.elim
  | .error _, z => exact z.elim
/-- f(e, ..) -/
theorem FnG.call (F : FnG X.prog X.w X.K X.mg X.base k f fd ps sp) (gd : X.A.guards = some []) (room : Room k X.A) (hg : Gl X x) (hm : X.mg x = some (.ref f)) (hk : PySem.W.keepIn X.K (.ref f) = true) (bnd : Binds X.K fd ps [])
    (ha : PA X (e :: es) t) (hdb : (x == ("__debug__" : Str)) = false) (he : starEach (e :: es) X.env = (false, eval e X.env) :: starEach es X.env) (hpl : (backTo pos (starEach es X.env)).any (·.1) = false) :
    PE X (.Call (.Name x p) (e :: es) [] pos) fun σ H Q => t σ H fun vs H1 => sp vs H1 Q E0 := by
  constructor
  intro pins s σ H Q J z
  refine wpAny_Call_Name_kw (ld_glob J hg hm ?_ hdb)
  refine PySem.W.callWith_K (h₀ := X.base) J.ok.mod.kin hk (thn (ha.run pos pins s σ H _ J z) ?_) he hpl
  rintro us s1 ⟨vs, H1, J1, rel, want⟩
  exact ⟨J1.kIn, F.step gd room bnd J1 rel want⟩
/-- f() -/
theorem FnG.call0 (F : FnG X.prog X.w X.K X.mg X.base k f fd ps sp) (gd : X.A.guards = some []) (room : Room k X.A) (hg : Gl X x) (hm : X.mg x = some (.ref f)) (hk : PySem.W.keepIn X.K (.ref f) = true) (bnd : Binds X.K fd ps [])
    (hdb : (x == ("__debug__" : Str)) = false) : PE X (.Call (.Name x p) [] [] pos) fun σ H Q => sp [] H Q E0 := by
  constructor
  intro pins s σ H Q J z
  exact wpAny_Call_Name_kw (ld_glob J hg hm (PySem.W.callWith_K0 J.kIn hk (F.step (us := []) gd room bnd J .nil z)) hdb)
theorem under_gd {A : Around} {C : Addr} {us : List Value} (h : A.guards = some []) : (A.under (.builtin "type.__call__" ⟨.ref C :: us, []⟩)).guards = some [] := by
  first | exact h | (simp [Around.under, Code.guards, Code.isGuard, guardIds, pushGuards, h])
/-- C(..): the new instance, then its __init__ -/
theorem FnG.born {C : Addr} {pins : List (Addr × Obj)} {σ : L2.St} {H : Hp} {s : Shared} {Q : VK} {us : List Value} {vs : List V} (M : Mk X.K C f) (F : FnG X.prog X.w X.K X.mg X.base k f fd ps sp) (gd : X.A.guards = some []) (room : Room (k + 1) X.A) (bnd : Binds X.K fd ps [])
    (J : Inv X pins σ H s) (rel : Vals vs us) (want : ∀ x dx, H x = none → H dx = none → dx ≠ x → sp (.ref x :: vs) (upd (upd H dx (.own x)) x (.ins C dx [])) (fun v H2 => v = .non ∧ Q (.ref x) H2) E0) :
    wpAny (model X.prog X.w) X.A (PySem.call (.ref C) us) (EP X pins σ Q) X.xe s := by
  have n0 : H s.heap.objs.size = none := J.hok.fresh (Nat.le_refl _)
  have n1 : H (s.heap.objs.size + 1) = none := J.hok.fresh (Nat.le_succ _)
  have want := want _ _ n1 n0 (Nat.ne_of_lt (Nat.lt_succ_self _))
  have J2 := Inv.made (C := C) J
  have rel2 : Vals (V.ref (s.heap.objs.size + 1) :: vs) (Value.ref (s.heap.objs.size + 1) :: us) := .cons rfl rel
  have cnt : (Value.ref (s.heap.objs.size + 1) :: us ++ []).length = ps.length := by
    rw [List.append_nil, ← rel2.length]
    exact F.cnt _ _ _ _ want
  have b1 := bnd _ (Value.ref (s.heap.objs.size + 1) :: us) J2.kIn cnt
  rw [List.append_nil] at b1
  refine wpAny_call (make_map (f := f) J.kIn M.makes M.init (beq_iff_eq.mp M.fn) (codeAny_mono (F.go _ X.stack _ _ ⟨Value.ref (s.heap.objs.size + 1) :: us, []⟩ _ _ _ E0 (under_gd gd) (room.make C us []) (J2.env0.make C us []) b1 rel2 want) ?_))
  intro r s2 z
  match r, z with
  | .ok (.ret u), z =>
    obtain ⟨v, H2, J3, rv, ev, q⟩ := J2.after z
    subst ev
    exact ⟨rv, V.ref _, H2, J3, rfl, q⟩
  | .ok .next, z => exact z.elim
  | .ok .brk, z => exact z.elim
  | .ok .cont, z => exact z.elim
  | .error _, z => exact z.elim
theorem FnG.make {C : Addr} (M : Mk X.K C f) (F : FnG X.prog X.w X.K X.mg X.base k f fd ps sp) (gd : X.A.guards = some []) (room : Room (k + 1) X.A) (hg : Gl X x) (hm : X.mg x = some (.ref C)) (bnd : Binds X.K fd ps [])
    (ha : PA X (e :: es) t) (hdb : (x == ("__debug__" : Str)) = false) (he : starEach (e :: es) X.env = (false, eval e X.env) :: starEach es X.env) (hpl : (backTo pos (starEach es X.env)).any (·.1) = false) :
    PE X (.Call (.Name x p) (e :: es) [] pos) fun σ H Q => t σ H fun vs H1 => ∀ a dx, H1 a = none → H1 dx = none → dx ≠ a → sp (.ref a :: vs) (upd (upd H1 dx (.own a)) a (.ins C dx [])) (fun v H2 => v = .non ∧ Q (.ref a) H2) E0 := by
  constructor
  intro pins s σ H Q J z
  refine wpAny_Call_Name_kw (ld_glob J hg hm ?_ hdb)
  refine PySem.W.callWith_K (h₀ := X.base) J.ok.mod.kin M.kp (thn (ha.run pos pins s σ H _ J z) ?_) he hpl
  rintro us s1 ⟨vs, H1, J1, rel, want⟩
  exact ⟨J1.kIn, F.born M gd room bnd J1 rel want⟩
/-- the def of a method, found at the object -/
theorem call_at {o : Expr} {m : Str} {apos : Pos} {env : PySem.Env} {args : List Expr} {A : Around} {M : Model} {Q : Value → Shared → Prop} {E : Value → Shared → Prop} {s : Shared} (hb : attributeBase o m env (eval o env) = eval o env) (hl : (apos.endLine == pos.line) = true) (hf : methodCallForm args.length (backTo pos (starEach args env)) [] = true)
    (h : wpAny M A (eval o env) (fun ov s1 => ∀ pl, wpAny M A (getMethod ov m pl) (fun g s2 => wpAny M A (callWith pos g.1 g.2 (backTo pos (starEach args env)) []) Q E s2) E s1) E s) : wpAny M A (eval (.Call (.Attribute o m apos) args [] pos) env) Q E s := by
  rw [arm_eval_Call, hb]
  refine wpAny_bind (thn h ?_)
  intro ov s1 z
  refine wpAny_bind (wpAny_standAt ?_)
  have same : ∀ few, methodCallPos few o env apos pos = pure pos := fun few => by unfold methodCallPos; simp [hl]
  unfold methodCall
  show wpAny M A (holding [ov] (calleeOf (methodCallForm args.length (backTo pos (starEach args env)) []) o env ov m) >>= _) Q E s1
  rw [hf]
  refine wpAny_bind (wpAny_holding (thn (z _) ?_))
  intro g s2 z2
  exact wpAny_bind (wpAny_of_eq (same _) z2)
/-- a method of the object that stands there, at its class -/
def MethAt (X : Cx) (C : Addr) (m : Str) (sp : Sp) : Prop := ∃ k f fd ps, Cls X.K C ∧ Meth X.K C m f ∧ FnG X.prog X.w X.K X.mg X.base k f fd ps sp ∧ Room k X.A ∧ Binds X.K fd ps []
theorem pe_methG {m : Str} {o : Expr} {apos : Pos} {ta : TE} (ho : PE X o ta) (hb : attributeBase o m X.env (eval o X.env) = eval o X.env) (hl : (apos.endLine == pos.line) = true) (hf : methodCallForm (e :: es).length (backTo pos (starEach (e :: es) X.env)) [] = true) (gd : X.A.guards = some [])
    (ha : PA X (e :: es) t) (he : starEach (e :: es) X.env = (false, eval e X.env) :: starEach es X.env) (hpl : (backTo pos (starEach es X.env)).any (·.1) = false) :
    PE X (.Call (.Attribute o m apos) (e :: es) [] pos) fun σ H Q => ta σ H fun x H1 => ∃ a C dx fs sp, x = .ref a ∧ H1 a = some (.ins C dx fs) ∧ fs.lookup m = none ∧ MethAt X C m sp ∧ t σ H1 fun vs H2 => sp (x :: vs) H2 Q E0 := by
  constructor
  intro pins s σ H Q J z
  refine call_at hb hl hf (thn (ho.run pins s σ H _ J z) ?_)
  rintro u s1 ⟨x, H1, J1, rx, a, C, dx, fs, sp, rfl, ea, l, ⟨k, f, fd, ps, c, hm, F, room, bnd⟩, q⟩ pl
  cases rx
  refine getmeth_ok J1 ea c hm l ?_
  refine PySem.W.callWith_K (first := [.ref a]) (h₀ := X.base) J1.ok.mod.kin hm.kp (thn (ha.run pos pins s1 σ H1 _ J1 q) ?_) he hpl
  rintro us s2 ⟨vs, H2, J2, rel, want⟩
  exact ⟨J2.kIn, F.step (us := .ref a :: us) (vs := .ref a :: vs) gd room bnd J2 (.cons rfl rel) want⟩
theorem pe_methG0 {m : Str} {o : Expr} {apos : Pos} {ta : TE} (ho : PE X o ta) (hb : attributeBase o m X.env (eval o X.env) = eval o X.env) (hl : (apos.endLine == pos.line) = true) (gd : X.A.guards = some []) :
    PE X (.Call (.Attribute o m apos) [] [] pos) fun σ H Q => ta σ H fun x H1 => ∃ a C dx fs sp, x = .ref a ∧ H1 a = some (.ins C dx fs) ∧ fs.lookup m = none ∧ MethAt X C m sp ∧ sp [x] H1 Q E0 := by
  constructor
  intro pins s σ H Q J z
  refine call_at hb hl rfl (thn (ho.run pins s σ H _ J z) ?_)
  rintro u s1 ⟨x, H1, J1, rx, a, C, dx, fs, sp, rfl, ea, l, ⟨k, f, fd, ps, c, hm, F, room, bnd⟩, want⟩ pl
  cases rx
  refine getmeth_ok J1 ea c hm l ?_
  exact PySem.W.callWith_K0 (first := [.ref a]) J1.kIn hm.kp (F.step (us := [.ref a]) (vs := [.ref a]) gd room bnd J1 (.cons rfl .nil) want)
end
end VL

set_option maxRecDepth 100000
set_option maxHeartbeats 2000000
/-! VL: the syntax against the text; each construct. -/
namespace VL
open PySem L2 Evl PyProof.Rows PySem.Spec

/-! ### names -/
structure Tab where
  fname : Nat → Option Str
  gname : Nat → Str
  cname : Nat → Option Str
def glB (sc : Scope) (x : Str) : Bool := decide (sc.names.lookup x = some .globalImplicit)
def visB (sc : Scope) (x : Str) : Bool := match sc.names.lookup x with
  | some .local => true
  | some .cell => true
  | some .free => true
  | _ => false
def locB (sc : Scope) (x : Str) : Bool := match sc.names.lookup x with
  | some .local => true
  | some .cell => true
  | _ => false
def plainName (x : Str) : Bool := !(x == ("__debug__" : Str)) && !(x == ("__classdict__" : Str)) && decide (x ≠ "__name__")
theorem glB_ok {X : Cx} {x : Str} (h : glB X.env.scope x = true) : Gl X x := by
  show X.env.scope.names.lookup x = some .globalImplicit
  exact of_decide_eq_true h
theorem visB_ok {sc : Scope} {x : Str} (h : visB sc x = true) : Vis sc x := by
  unfold visB at h
  split at h
  · exact .inl (by assumption)
  · exact .inr (.inl (by assumption))
  · exact .inr (.inr (by assumption))
  · cases h
theorem locB_ok {sc : Scope} {x : Str} (h : locB sc x = true) : Loc sc x := by
  unfold locB at h
  split at h
  · exact .inl (by assumption)
  · exact .inr (by assumption)
  · cases h
theorem plainName_ok {x : Str} (h : plainName x = true) : (x == ("__debug__" : Str)) = false ∧ (x == ("__classdict__" : Str)) = false ∧ x ≠ "__name__" := by
  unfold plainName at h
  simp only [Bool.and_eq_true, Bool.not_eq_true', decide_eq_true_eq] at h
  exact ⟨h.1.1, h.1.2, h.2⟩
def agVar (sc : Scope) (N : List Str) (i : Nat) (x : Expr) : Bool := match x with
  | .Name id _ => decide (N[i]? = some id) && visB sc id && plainName id
  | _ => false
def bName : Blt → Str
  | .len => "len" | .abs => "abs" | .int => "int" | .str => "str" | .max2 => "max" | .min2 => "min" | .maxL => "max" | .minL => "min"
  | .sum => "sum" | .all => "all" | .any => "any" | .tuple => "tuple" | .repr => "repr"
def bltNames : List Str := ["len", "abs", "int", "str", "max", "min", "sum", "all", "any", "tuple", "list", "range", "isinstance", "bool", "dict", "repr", "sorted", "zip", "enumerate", "reversed"]
theorem bName_mem (b : Blt) : bName b ∈ bltNames := by cases b <;> decide +kernel
theorem bName_boot (b : Blt) : bootBuiltins (bName b) = some (bVal b) := by cases b <;> decide +kernel
theorem bName_plain (b : Blt) : plainName (bName b) = true := by cases b <;> decide +kernel
def notStar : Expr → Bool
  | .Starred _ _ => false
  | _ => true
def notSlice : Expr → Bool
  | .Slice _ _ _ _ => false
  | _ => true
def notSet : Expr → Bool
  | .Set _ _ _ => false
  | _ => true
/-- no super() -/
def notSup : Expr → Bool
  | .Call _ _ _ _ => false
  | _ => true
theorem star_cons {x : Expr} (h : notStar x = true) (r : List Expr) (env : PySem.Env) : starEach (x :: r) env = (false, eval x env) :: starEach r env := by
  cases x <;> first | rfl | cases h
theorem star_all : ∀ {es : List Expr}, es.all notStar = true → ∀ (pos : Pos) (env : PySem.Env), (backTo pos (starEach es env)).any (·.1) = false
  | [], _, _, _ => rfl
  | e :: es, h, pos, env => by
    rw [List.all_cons, Bool.and_eq_true] at h
    rw [star_cons h.1]
    show (false || (backTo pos (starEach es env)).any (·.1)) = false
    rw [star_all h.2] <;> rfl
theorem plainIx_of {x : Expr} (h : notSlice x = true) : PlainIx x := fun o i => by
  cases x <;> first | rfl | cases h
theorem folded_of {x : Expr} (h : notSet x = true) (env : PySem.Env) : ∀ v, foldedSetIterable x env v = pure v := fun v => by
  cases x <;> first | rfl | cases h
theorem base_of {x : Expr} (h : notSup x = true) (f : Str) (env : PySem.Env) : attributeBase x f env (eval x env) = eval x env := by
  cases x <;> first | rfl | cases h
/-- a test that is its value's truth -/
def plainT : Expr → Bool
  | .UnaryOp .Not _ _ => false
  | .BoolOp _ _ _ => false
  | .IfExp _ _ _ _ => false
  | .Compare _ _ _ _ => false
  | _ => true
theorem plainT_ok {x : Expr} (h : plainT x = true) (env : PySem.Env) : ∀ whole, isTrue x env whole = (do let v ← whole; standAt x.pos; holding [v] (truthy v)) := fun whole => by
  cases x <;> first | rfl | cases h | (rename_i op _ _; cases op <;> first | rfl | cases h)

/-- a target: its name's kind by the block's scope as written and as it runs -/
def tgN (sc0 sc : Scope) (id : Str) : Bool := (decide (sc0.names.lookup id = some .local) && decide (sc.names.lookup id = some .local)) || (decide (sc0.names.lookup id = some .cell) && decide (sc.names.lookup id = some .cell))
def agNames (sc0 sc : Scope) (N : List Str) : List Nat → List Expr → Bool
  | [], [] => true
  | i :: is, .Name id _ :: es => decide (N[i]? = some id) && tgN sc0 sc id && agNames sc0 sc N is es
  | _, _ => false
def agTg (sc0 sc : Scope) (N : List Str) : Tg → Expr → Bool
  | .nm i, x => match x with
    | .Name id _ => decide (N[i]? = some id) && tgN sc0 sc id
    | _ => false
  | .tup is, x => match x with
    | .Tuple es _ _ => agNames sc0 sc N is es
    | _ => false
def tgIds : Tg → List Nat
  | .nm i => [i]
  | .tup is => is
def ownP (N : List Str) : List Nat → List (Str × Nat)
  | [] => []
  | i :: is => (N.getD i "", i) :: ownP N is
theorem ownP_ids (N : List Str) (is : List Nat) : (ownP N is).map (·.2) = is := by
  induction is with
  | nil => rfl
  | cons i is ih => simp [ownP, ih]

def tail2 (op : BoolOp) (z : Expr) (pos : Pos) : List Expr → Expr
  | [] => z
  | w :: r => .BoolOp op (z :: w :: r) pos
mutual
def agE (T : Tab) (sc : Scope) (N : List Str) : E → Expr → Bool
  | .var i, x => agVar sc N i x
  | .vw i, x => agVar sc N i x
  | .cint i, x => match x with
    | .Constant (.int j) _ _ => decide (i = j)
    | _ => false
  | .cstr i, x => match x with
    | .Constant (.str j) _ _ => decide (i = j)
    | _ => false
  | .cbl i, x => match x with
    | .Constant (.bool j) _ _ => decide (i = j)
    | _ => false
  | .cnon, x => match x with
    | .Constant .none _ _ => true
    | _ => false
  | .glob g, x => match x with
    | .Name id _ => decide (id = T.gname g) && glB sc id && plainName id
    | _ => false
  | .bin op a b, x => match x with
    | .BinOp l o r _ => decide (op = o) && agE T sc N a l && agE T sc N b r
    | _ => false
  | .neg a, x => match x with
    | .UnaryOp .USub y _ => agE T sc N a y
    | _ => false
  | .not a, x => match x with
    | .UnaryOp .Not y _ => agE T sc N a y
    | _ => false
  | .cmp op a b, x => match x with
    | .Compare l [o] [r] _ => decide (op = o) && agE T sc N a l && agE T sc N b r && !behindInMarks o r
    | _ => false
  | .chain o1 o2 a b c, x => match x with
    | .Compare l [p1, p2] [r1, r2] _ => decide (o1 = p1) && decide (o2 = p2) && agE T sc N a l && agE T sc N b r1 && agE T sc N c r2 && !lastMarks [p1, p2] [r1, r2]
    | _ => false
  | .and a b, x => match x with
    | .BoolOp .And (y :: z :: rest) p => agE T sc N a y && agE T sc N b (tail2 .And z p rest)
    | _ => false
  | .or a b, x => match x with
    | .BoolOp .Or (y :: z :: rest) p => agE T sc N a y && agE T sc N b (tail2 .Or z p rest)
    | _ => false
  | .ite c a b, x => match x with
    | .IfExp t l r _ => agE T sc N c t && agE T sc N a l && agE T sc N b r
    | _ => false
  | .tup es, x => match x with
    | .Tuple xs _ _ => agEs T sc N es xs
    | _ => false
  | .fz n, x => agN T sc N n x
  | .new n, x => agN T sc N n x
  | .sub a i, x => match x with
    | .Subscript l r _ => agE T sc N a l && agE T sc N i r && notSlice r
    | _ => false
  | .slice a lo hi, x => match x with
    | .Subscript l (.Slice u v none _) _ => agE T sc N a l && agO T sc N lo u && agO T sc N hi v
    | _ => false
  | .call f es, x => match x with
    | .Call (.Name id _) xs [] _ => decide (T.fname f = some id) && glB sc id && plainName id && agEs T sc N es xs
    | _ => false
  | .blt b es, x => match x with
    | .Call (.Name id _) (y :: xs) [] _ => decide (id = bName b) && glB sc id && agEs T sc N es (y :: xs)
    | _ => false
  | .isi a t, x => match x with
    | .Call (.Name id _) [y, .Name id2 _] [] _ => decide (id = "isinstance") && glB sc id && decide (id2 = Str.ofString t) && glB sc id2 && agE T sc N a y && notStar y && (["int", "bool", "str", "list", "tuple"] : List String).contains t
    | _ => false
  | .smt m o a, x => match x with
    | .Call (.Attribute y nm apos) [z] [] cpos => (match m with | .join => decide (nm = "join")) && agE T sc N o y && agE T sc N a z && notStar z && notSup y && (apos.endLine == cpos.line)
    | _ => false
  | .attr a f, x => match x with
    | .Attribute y g _ => decide (f = g) && agE T sc N a y && notSup y
    | _ => false
  | .mcall o m es, x => match x with
    | .Call (.Attribute y nm apos) xs [] cpos => decide (m = nm) && agE T sc N o y && agEs T sc N es xs && notSup y && (apos.endLine == cpos.line) && decide (xs.length < 30)
    | _ => false
  | .make c es, x => match x with
    | .Call (.Name id _) (y :: xs) [] _ => decide (T.cname c = some id) && glB sc id && plainName id && agEs T sc N es (y :: xs)
    | _ => false
  | .tru a, x => agE T sc N a x && plainT x
def agEs (T : Tab) (sc : Scope) (N : List Str) : Es → List Expr → Bool
  | .nil, xs => match xs with
    | [] => true
    | _ => false
  | .cons e es, xs => match xs with
    | y :: ys => agE T sc N e y && notStar y && agEs T sc N es ys
    | _ => false
def agO (T : Tab) (sc : Scope) (N : List Str) : Oe → Option Expr → Bool
  | .no, x => match x with
    | none => true
    | _ => false
  | .so e, x => match x with
    | some y => agE T sc N e y
    | _ => false
def agN (T : Tab) (sc : Scope) (N : List Str) : Nw → Expr → Bool
  | .lst es, x => match x with
    | .List xs _ => agEs T sc N es xs
    | _ => false
  | .comp elt tg it cond own, x => match x with
    | .ListComp y [⟨t, i, ifs, a⟩] scope _ => decide (a = 0) && blkC N sc scope (ownP N own) && (tgIds tg).all (fun i => own.contains i) && agTg scope (relS scope sc) N tg t && agI T sc N it i && notSet i && agE T (relS scope sc) N elt y &&
      (match ifs with
      | [] => match cond with
        | .no => true
        | _ => false
      | [c] => agC T (relS scope sc) N cond c
      | _ => false)
    | _ => false
  | .slice a lo hi, x => match x with
    | .Subscript l (.Slice u v none _) _ => agE T sc N a l && agO T sc N lo u && agO T sc N hi v
    | _ => false
  | .listOf a, x => match x with
    | .Call (.Name id _) [y] [] _ => decide (id = "list") && glB sc id && agE T sc N a y && notStar y
    | _ => false
  | .cat a b, x => match x with
    | .BinOp l o r _ => decide (o = .Add) && agE T sc N a l && agE T sc N b r
    | _ => false
  | .rev a, x => match x with
    | .Subscript l (.Slice none none (some (.UnaryOp .USub (.Constant (.int 1) _ _) _)) _) _ => agE T sc N a l
    | _ => false
  | .dct1 _ _, _ => false
def agC (T : Tab) (sc : Scope) (N : List Str) : Oe → Expr → Bool
  | .no, _ => false
  | .so e, x => agE T sc N e x
def agI (T : Tab) (sc : Scope) (N : List Str) : It → Expr → Bool
  | .rng1 a, x => match x with
    | .Call (.Name id _) [y] [] _ => decide (id = "range") && glB sc id && agE T sc N a y && notStar y
    | _ => false
  | .rng2 a b, x => match x with
    | .Call (.Name id _) [y, z] [] _ => decide (id = "range") && glB sc id && agE T sc N a y && notStar y && agE T sc N b z && notStar z
    | _ => false
  | .seq a, x => agE T sc N a x
  | .own i, x => agVar sc N i x
  | .chars a, x => agE T sc N a x
end

/-! ### the context -/
def spOf (K : PySem.W.Frag) (Cl : Nat → Addr) (C : Ctx) (f : Nat) : Sp := fun vs H Q _ => ∃ cs F h ds Qa, StOk K Cl cs F H h ∧ Reps K cs F vs ds ∧ C.call f ds h Qa ∧
  ∀ v d cs' F' H' h', Stp cs F H cs' F' H' → StOk K Cl cs' F' H' h' → Rep K cs' F' v d → Qa d h' → Q v H'
structure XOk (C : Ctx) (T : Tab) (Cl : Nat → Addr) (X : Cx) : Prop where
  nd : X.N.Nodup
  calm : X.calm = true
  units : X.A.units + 65 < cLine
  gd : X.A.guards = some []
  blt : ∀ x, x ∈ bltNames → X.mg x = none
  glob : ∀ g d, C.glob g = some d → ∃ u v, X.mg (T.gname g) = some u ∧ RelV v u ∧ ∀ cs F, Rep X.K cs F v d
  fn : ∀ f x, T.fname f = some x → ∃ k a fd ps, FnG X.prog X.w X.K X.mg X.base k a fd ps (spOf X.K Cl C f) ∧ Room k X.A ∧ X.mg x = some (.ref a) ∧ PySem.W.keepIn X.K (.ref a) = true ∧ Binds X.K fd ps []
  cls : ∀ c x, T.cname c = some x → ∃ f k a fd ps, C.init c = some f ∧ FnG X.prog X.w X.K X.mg X.base k a fd ps (spOf X.K Cl C f) ∧ Room (k + 1) X.A ∧ X.mg x = some (.ref (Cl c)) ∧ Mk X.K (Cl c) a ∧ Binds X.K fd ps []
  mth : ∀ c m f, C.meth c m = some f → ∃ k a fd ps, FnG X.prog X.w X.K X.mg X.base k a fd ps (spOf X.K Cl C f) ∧ Room k X.A ∧ Cls X.K (Cl c) ∧ Meth X.K (Cl c) m a ∧ Binds X.K fd ps []
  fld : ∀ c f, C.fld c f = true → Cls X.K (Cl c) ∧ NoAttr X.K (Cl c) f
theorem XOk.blk {C : Ctx} {T : Tab} {Cl : Nat → Addr} {X : Cx} (O : XOk C T Cl X) (s : Shared) (H : Hp) (scope : Scope) (cl : List (Str × Addr)) (c : Addr) (fp : List Addr) : XOk C T Cl (X.blk s H scope (compEnvC scope cl c X.env) fp) where
  nd := O.nd
  calm := O.calm
  units := O.units
  gd := O.gd
  blt := O.blt
  glob := O.glob
  fn := O.fn
  cls := O.cls
  mth := O.mth
  fld := O.fld

/-! ### weakest readings -/
def WE (X : Cx) (e : Expr) : TE := fun σ H Q => ∀ pins s, Inv X pins σ H s → wpAny (model X.prog X.w) X.A (eval e X.env) (EP X pins σ Q) X.xe s
def WT (X : Cx) (e : Expr) : TT := fun σ H Q => ∀ pins s, Inv X pins σ H s → wpAny (model X.prog X.w) X.A (isTrue e X.env (eval e X.env)) (TP X pins σ Q) X.xe s
def WW (X : Cx) (e : Expr) : TT := fun σ H Q => ∀ (whole : Sem Value) pins s, Inv X pins σ H s → wpAny (model X.prog X.w) X.A (isTrue e X.env whole) (TP X pins σ Q) X.xe s
def WA (X : Cx) (es : List Expr) : TA := fun σ H Q => ∀ (pos : Pos) pins s, Inv X pins σ H s → wpAny (model X.prog X.w) X.A (spliced (backTo pos (starEach es X.env))) (AP X pins σ Q) X.xe s
def WO (X : Cx) (e : Option Expr) : TO := fun σ H Q => ∀ pins s, Inv X pins σ H s → wpAny (model X.prog X.w) X.A (evalPart e X.env) (fun u s' => ∃ o H', Inv X pins σ H' s' ∧ IsPart u o ∧ Q o H') X.xe s
section
variable {X : Cx}
theorem pe_we {e : Expr} : PE X e (WE X e) := ⟨fun pins s σ H Q I h => h pins s I⟩
theorem pt_we {e : Expr} : PT X e (WT X e) := ⟨fun pins s σ H Q I h => h pins s I⟩
theorem po_we {e : Option Expr} : PO X e (WO X e) := ⟨fun pins s σ H Q I h => h pins s I⟩
theorem wo_of {e : Option Expr} {t : TO} (p : PO X e t) {σ : L2.St} {H : Hp} {Q : Option Int → Hp → Prop} (h : t σ H Q) : WO X e σ H Q := fun pins s I => p.run pins s σ H Q I h
theorem pa_we {e : List Expr} : PA X e (WA X e) := ⟨fun pos pins s σ H Q I h => h pos pins s I⟩
theorem we_of {e : Expr} {t : TE} (p : PE X e t) {σ : L2.St} {H : Hp} {Q : VK} (h : t σ H Q) : WE X e σ H Q := fun pins s I => p.run pins s σ H Q I h
theorem wt_of {e : Expr} {t : TT} (p : PT X e t) {σ : L2.St} {H : Hp} {Q : Bool → Hp → Prop} (h : t σ H Q) : WT X e σ H Q := fun pins s I => p.run pins s σ H Q I h
theorem wa_of {e : List Expr} {t : TA} (p : PA X e t) {σ : L2.St} {H : Hp} {Q : List V → Hp → Prop} (h : t σ H Q) : WA X e σ H Q := fun pos pins s I => p.run pos pins s σ H Q I h
end

/-! ### what is shown of each construct -/
def EOk (K : PySem.W.Frag) (Cl : Nat → Addr) (b : Bool) (cs : List Addr) (F H : Hp) (Q : AV → AHeap → Prop) (R : VK) : Prop :=
  ∀ v d cs' F' H' h', Stp cs F H cs' F' H' → StOk K Cl cs' F' H' h' → RepB K cs' F' H' b v d → Q d h' → R v H'
def BOk (K : PySem.W.Frag) (Cl : Nat → Addr) (cs : List Addr) (F H : Hp) (Q : Bool → AHeap → Prop) (R : Bool → Hp → Prop) : Prop :=
  ∀ k cs' F' H' h', Stp cs F H cs' F' H' → StOk K Cl cs' F' H' h' → Q k h' → R k H'
def AOk (K : PySem.W.Frag) (Cl : Nat → Addr) (b : Bool) (cs : List Addr) (F H : Hp) (Q : List AV → AHeap → Prop) (R : List V → Hp → Prop) : Prop :=
  ∀ v d cs' F' H' h', Stp cs F H cs' F' H' → StOk K Cl cs' F' H' h' → RepBs K cs' F' H' b v d → Q d h' → R v H'
def OOk (K : PySem.W.Frag) (Cl : Nat → Addr) (cs : List Addr) (F H : Hp) (Q : Option Int → AHeap → Prop) (R : Option Int → Hp → Prop) : Prop :=
  ∀ k cs' F' H' h', Stp cs F H cs' F' H' → StOk K Cl cs' F' H' h' → Q k h' → R k H'
def NOk (K : PySem.W.Frag) (Cl : Nat → Addr) (cs : List Addr) (F H : Hp) (Q : Cell → AHeap → Prop) (R : VK) : Prop :=
  ∀ p c cs' F' H' h', Stp cs F H cs' F' H' → StOk K Cl cs' F' H' h' → H p = none → F' p = none → p ∉ cs' → COk K Cl cs' F' H' p c → Q c h' → R (.ref p) H'
section
variable (C : Ctx) (T : Tab) (Cl : Nat → Addr)
def SE (X : Cx) (b : Bool) (e : E) (x : Expr) : Prop := ∀ ρ h Q σ cs F H R, StOk X.K Cl cs F H h → EnvOk X.K Cl cs F H σ ρ → WpE C b e ρ h Q → EOk X.K Cl b cs F H Q R → WE X x σ H R
def ST (X : Cx) (e : E) (x : Expr) : Prop := ∀ ρ h Q σ cs F H R, StOk X.K Cl cs F H h → EnvOk X.K Cl cs F H σ ρ → WpT C e ρ h Q → BOk X.K Cl cs F H Q R → WT X x σ H R
def SA (X : Cx) (es : Es) (x : List Expr) : Prop := ∀ ρ h Q σ cs F H R, StOk X.K Cl cs F H h → EnvOk X.K Cl cs F H σ ρ → WpEs C es ρ h Q → AOk X.K Cl false cs F H Q R → WA X x σ H R
def SB (X : Cx) (es : Es) (x : List Expr) : Prop := ∀ ρ h Q σ cs F H R, StOk X.K Cl cs F H h → EnvOk X.K Cl cs F H σ ρ → WpBs C es ρ h Q → AOk X.K Cl true cs F H Q R → WA X x σ H R
def SO (X : Cx) (e : Oe) (x : Option Expr) : Prop := ∀ ρ h Q σ cs F H R, StOk X.K Cl cs F H h → EnvOk X.K Cl cs F H σ ρ → WpO C e ρ h Q → OOk X.K Cl cs F H Q R → WO X x σ H R
def SN (X : Cx) (e : Nw) (x : Expr) : Prop := ∀ ρ h Q σ cs F H R, StOk X.K Cl cs F H h → EnvOk X.K Cl cs F H σ ρ → WpN C e ρ h Q → NOk X.K Cl cs F H Q R → WE X x σ H R
end

section
variable {C : Ctx} {T : Tab} {Cl : Nat → Addr} {X : Cx} {b : Bool} {K : PySem.W.Frag} {cs cs' cs'' : List Addr} {F F' F'' H H' H'' : Hp} {h : AHeap}
theorem EOk.lift {Q : AV → AHeap → Prop} {R : VK} (p : EOk K Cl b cs F H Q R) (x : Stp cs F H cs' F' H') : EOk K Cl b cs' F' H' Q R :=
  fun v d cs2 F2 H2 h2 y S r q => p v d cs2 F2 H2 h2 (x.trans y) S r q
theorem BOk.lift {Q : Bool → AHeap → Prop} {R : Bool → Hp → Prop} (p : BOk K Cl cs F H Q R) (x : Stp cs F H cs' F' H') : BOk K Cl cs' F' H' Q R :=
  fun k cs2 F2 H2 h2 y S q => p k cs2 F2 H2 h2 (x.trans y) S q
theorem NOk.lift {Q : Cell → AHeap → Prop} {R : VK} (p : NOk K Cl cs F H Q R) (x : Stp cs F H cs' F' H') : NOk K Cl cs' F' H' Q R :=
  fun v d cs2 F2 H2 h2 y S r1 r2 r3 r4 q => p v d cs2 F2 H2 h2 (x.trans y) S (x.fresh r1) r2 r3 r4 q
theorem EOk.post {Q : AV → AHeap → Prop} {R : VK} (p : EOk K Cl b cs F H Q R) : PostV K Cl cs F H h (fun z => Q z h) R := fun v d F' H' x S r q => p v d cs F' H' h x S (.inl r) q
theorem NOk.fz {Q : AV → AHeap → Prop} {R : VK} (p : EOk K Cl b cs F H Q R) : NOk K Cl cs F H (fun c h1 => match c with
    | .lst xs => Q (.lst xs) h1
    | .dct xs => Q (.dct xs) h1
    | _ => False) R := fun a c cs' F' H' h' x S n1 n2 n3 r q => by
  have key : ∀ o, H' a = some o → Stp cs' F' H' cs' (upd F' a o) H' → True := fun _ _ _ => trivial
  cases c with
  | lst xs =>
    obtain ⟨vs, e, r⟩ := r
    have x2 : Stp cs F H cs' (upd F' a (.lst vs)) H' := by
      refine ⟨x.f.trans (Ex.new n2), x.c, x.k, x.d, fun b q1 q2 => ?_, x.m⟩
      by_cases hb : b = a
      · subst hb; exact n1
      · rw [upd_ne hb] at q2; exact x.n b q1 q2
    exact p _ (.lst xs) _ _ _ _ x2 (S.freeze n2 n3 e) (.inl (.lst upd_same (r.mono (Ex.new n2) ⟨[], by simp⟩))) q
  | dct xs =>
    obtain ⟨vs, e, r⟩ := r
    have x2 : Stp cs F H cs' (upd F' a (.dK vs)) H' := by
      refine ⟨x.f.trans (Ex.new n2), x.c, x.k, x.d, fun b q1 q2 => ?_, x.m⟩
      by_cases hb : b = a
      · subst hb; exact n1
      · rw [upd_ne hb] at q2; exact x.n b q1 q2
    exact p _ (.dct xs) _ _ _ _ x2 (S.freeze n2 n3 e) (.inl (.dct upd_same (r.mono (Ex.new n2) ⟨[], by simp⟩))) q
  | obj c fs => exact q.elim
  | dead => exact q.elim
theorem NOk.new {Q : AV → AHeap → Prop} {R : VK} (p : EOk K Cl b cs F H Q R) : NOk K Cl cs F H (fun c h1 => Q (.adr h1.length) (h1 ++ [c])) R := fun a c cs' F' H' h' x S n1 n2 n3 r q => by
  have x2 : Stp cs F H (cs' ++ [a]) F' H' := by
    refine ⟨x.f, ?_, x.k, x.d, x.n, fun b q1 q2 => ?_⟩
    · obtain ⟨r, e⟩ := x.c
      exact ⟨r ++ [a], by rw [e, List.append_assoc]⟩
    · rw [List.mem_append] at q1
      rcases q1 with q1 | q1
      · exact x.m b q1 q2
      · simp at q1; subst q1; exact n1
  refine p _ (.adr h'.length) _ _ _ _ x2 (S.cellNew n2 n3 (r.mono (fun _ _ z => z) ⟨[a], rfl⟩ fun _ z => z)) (.inl (.adr ?_)) q
  rw [← S.len]
  simp

/-! ### expressions -/
theorem s_var {i : Nat} {x : Expr} (hag : agVar X.env.scope X.N i x = true) : SE C Cl X b (.var i) x := fun ρ h Q σ cs F H R S V w p => by
  unfold agVar at hag
  split at hag
  · rename_i id pos
    simp only [Bool.and_eq_true, decide_eq_true_eq] at hag
    obtain ⟨⟨h1, h2⟩, h3⟩ := hag
    obtain ⟨n1, n2, _⟩ := plainName_ok h3
    simp only [WpE] at w
    split at w
    · rename_i d hd
      obtain ⟨v, e, r⟩ := V.val i d hd
      exact we_of (pe_var h1 (visB_ok h2) n1 n2) ⟨v, e, p _ _ _ _ _ _ .refl S (.inl r) w⟩
    · exact w.elim
  · cases hag
theorem own_rep {i : Nat} {σ : L2.St} {ρ : Env} {c : Cell} (V : EnvOk K Cl cs F H σ ρ) (e : getS ρ i = .own c) : ∃ v, σ[i]? = some (some v) ∧ ∀ d, (∃ xs, c = .lst xs ∧ d = .lst xs) ∨ (∃ xs, c = .dct xs ∧ d = .dct xs) → RepB K cs F H true v d := by
  obtain ⟨a, h1, h2, h3, h4⟩ := V.own i c e
  refine ⟨_, h1, fun d q => ?_⟩
  rcases q with ⟨xs, rfl, rfl⟩ | ⟨xs, rfl, rfl⟩
  · obtain ⟨vs, q1, q2⟩ := h4
    exact .inr ⟨rfl, a, rfl, h2, h3, .inl ⟨vs, xs, rfl, q1, q2⟩⟩
  · obtain ⟨vs, q1, q2⟩ := h4
    exact .inr ⟨rfl, a, rfl, h2, h3, .inr ⟨vs, xs, rfl, q1, q2⟩⟩
theorem s_vw {i : Nat} {x : Expr} (hag : agVar X.env.scope X.N i x = true) : SE C Cl X b (.vw i) x := fun ρ h Q σ cs F H R S V w p => by
  unfold agVar at hag
  split at hag
  · rename_i id pos
    simp only [Bool.and_eq_true, decide_eq_true_eq] at hag
    obtain ⟨⟨h1, h2⟩, h3⟩ := hag
    obtain ⟨n1, n2, _⟩ := plainName_ok h3
    cases b with
    | false => simp only [WpE] at w
    | true =>
      simp only [WpE] at w
      split at w
      · rename_i xs hd
        obtain ⟨v, e, r⟩ := own_rep V hd
        exact we_of (pe_var h1 (visB_ok h2) n1 n2) ⟨v, e, p _ _ _ _ _ _ .refl S (r _ (.inl ⟨xs, rfl, rfl⟩)) w⟩
      · rename_i xs hd
        obtain ⟨v, e, r⟩ := own_rep V hd
        exact we_of (pe_var h1 (visB_ok h2) n1 n2) ⟨v, e, p _ _ _ _ _ _ .refl S (r _ (.inr ⟨xs, rfl, rfl⟩)) w⟩
      · exact w.elim
  · cases hag
theorem s_glob {g : Nat} {id : Str} {pos : Pos} (O : XOk C T Cl X) (h0 : id = T.gname g) (h1 : glB X.env.scope id = true) (h2 : plainName id = true) : SE C Cl X b (.glob g) (.Name id pos) := fun ρ h Q σ cs F H R S V w p => by
  simp only [WpE] at w
  split at w
  · rename_i d hd
    obtain ⟨u, v, e1, e2, r⟩ := O.glob g d hd
    rw [← h0] at e1
    exact we_of (pe_glob (glB_ok h1) e1 e2 (plainName_ok h2).1) (p _ _ _ _ _ _ .refl S (.inl (r _ _)) w)
  · exact w.elim
theorem s_bin {op : Operator} {a c : E} {l r : Expr} {pos : Pos} (ha : SE C Cl X false a l) (hc : SE C Cl X false c r) : SE C Cl X b (.bin op a c) (.BinOp l op r pos) := fun ρ h Q σ cs F H R S V w p => by
  simp only [WpE] at w
  refine we_of (pe_op opw_ok pe_we pe_we) (ha _ _ _ _ _ _ _ _ S V w fun v1 d1 cs1 F1 H1 h1 x1 S1 r1 q1 => ?_)
  refine hc _ _ _ _ _ _ _ _ S1 (V.step x1) q1 fun v2 d2 cs2 F2 H2 h2 x2 S2 r2 q2 => ?_
  exact binK_ok S2 (r1.step x2) r2 q2 ((p.lift (x1.trans x2)).post)
theorem un_w {f : Value → Sem Value} : UnR X f (fun x H Q => ∀ (pins : List (Addr × Obj)) (s : Shared) (σ : L2.St) (v : Value), Inv X pins σ H s → RelV x v → wpAny (model X.prog X.w) X.A (f v) (EP X pins σ Q) X.xe s) :=
  fun pins s σ H x v Q I rx h => h pins s σ v I rx
theorem s_neg {a : E} {l : Expr} {pos : Pos} (ha : SE C Cl X false a l) : SE C Cl X b (.neg a) (.UnaryOp .USub l pos) := fun ρ h Q σ cs F H R S V w p => by
  simp only [WpE] at w
  refine we_of (pe_un un_neg pe_we) (ha _ _ _ _ _ _ _ _ S V w fun v1 d1 cs1 F1 H1 h1 x1 S1 r1 q1 => ?_)
  unfold negK at q1
  split at q1
  · cases r1.int
    exact ⟨_, rfl, (p.lift x1).post.int S1 q1⟩
  · exact q1.elim
theorem s_cmp {op : CmpOp} {a c : E} {l r : Expr} {pos : Pos} (O : XOk C T Cl X) (ha : SE C Cl X true a l) (hc : SE C Cl X true c r) (hm : behindInMarks op r = false) : SE C Cl X b (.cmp op a c) (.Compare l [op] [r] pos) := fun ρ h Q σ cs F H R S V w p => by
  simp only [WpE] at w
  refine we_of (pe_cmpR opw_ok pe_we pe_we hm) (ha _ _ _ _ _ _ _ _ S V w fun v1 d1 cs1 F1 H1 h1 x1 S1 r1 q1 => ?_)
  refine hc _ _ _ _ _ _ _ _ S1 (V.step x1) q1 fun v2 d2 cs2 F2 H2 h2 x2 S2 r2 q2 => ?_
  exact cmpK_ok (by have := O.units; omega) S2 (r1.step x2) r2 q2 ((p.lift (x1.trans x2)).post)
theorem s_cmpT {op : CmpOp} {a c : E} {l r : Expr} {pos : Pos} (O : XOk C T Cl X) (ha : SE C Cl X true a l) (hc : SE C Cl X true c r) (hm : behindInMarks op r = false) : ST C Cl X (.cmp op a c) (.Compare l [op] [r] pos) := fun ρ h Q σ cs F H R S V w p => by
  simp only [WpT] at w
  refine wt_of (pt_cmpR opw_ok pe_we pe_we hm) (ha _ _ _ _ _ _ _ _ S V w fun v1 d1 cs1 F1 H1 h1 x1 S1 r1 q1 => ?_)
  refine hc _ _ _ _ _ _ _ _ S1 (V.step x1) q1 fun v2 d2 cs2 F2 H2 h2 x2 S2 r2 q2 => ?_
  refine cmpK_ok (by have := O.units; omega) S2 (r1.step x2) r2 q2 fun v d F' H' y S3 rv qv => ?_
  split at qv
  · cases rv
    exact ⟨_, rfl, p _ _ _ _ _ ((x1.trans x2).trans y) S3 qv⟩
  · exact qv.elim
theorem s_chain {o1 o2 : CmpOp} {a c e : E} {l r1 r2 : Expr} {pos : Pos} (O : XOk C T Cl X) (ha : SE C Cl X false a l) (hc : SE C Cl X false c r1) (he : SE C Cl X false e r2) (hm : lastMarks [o1, o2] [r1, r2] = false) :
    SE C Cl X b (.chain o1 o2 a c e) (.Compare l [o1, o2] [r1, r2] pos) := fun ρ h Q σ cs F H R S V w p => by
  simp only [WpE] at w
  refine we_of (pe_chain opw_ok opw_ok pe_we pe_we pe_we hm) (ha _ _ _ _ _ _ _ _ S V w fun v1 d1 cs1 F1 H1 h1 x1 S1 r1 q1 => ?_)
  refine hc _ _ _ _ _ _ _ _ S1 (V.step x1) q1 fun v2 d2 cs2 F2 H2 h2 x2 S2 r2 q2 => ?_
  refine cmpK_ok (by have := O.units; omega) S2 (r1.step x2) r2 q2 fun v d F' H' y S3 rv qv => ?_
  split at qv
  · cases rv
    refine ⟨true, rfl, ?_⟩
    rw [if_pos rfl]
    refine he _ _ _ _ _ _ _ _ S3 (V.step ((x1.trans x2).trans y)) qv fun v3 d3 cs3 F3 H3 h3 x3 S4 r3 q3 => ?_
    exact cmpK_ok (by have := O.units; omega) S4 ((r2.step y).step x3) r3 q3 ((p.lift (((x1.trans x2).trans y).trans x3)).post)
  · cases rv
    refine ⟨false, rfl, ?_⟩
    rw [if_neg Bool.false_ne_true]
    exact p _ _ _ _ _ _ ((x1.trans x2).trans y) S3 (.inl (.bl false)) qv
  · exact qv.elim
theorem s_chainT {o1 o2 : CmpOp} {a c e : E} {l r1 r2 : Expr} {pos : Pos} (O : XOk C T Cl X) (ha : SE C Cl X false a l) (hc : SE C Cl X false c r1) (he : SE C Cl X false e r2) (hm : lastMarks [o1, o2] [r1, r2] = false) :
    ST C Cl X (.chain o1 o2 a c e) (.Compare l [o1, o2] [r1, r2] pos) := fun ρ h Q σ cs F H R S V w p => by
  simp only [WpT] at w
  refine wt_of (pt_chain opw_ok opw_ok pe_we pe_we pe_we hm) (ha _ _ _ _ _ _ _ _ S V w fun v1 d1 cs1 F1 H1 h1 x1 S1 r1 q1 => ?_)
  refine hc _ _ _ _ _ _ _ _ S1 (V.step x1) q1 fun v2 d2 cs2 F2 H2 h2 x2 S2 r2 q2 => ?_
  refine cmpK_ok (by have := O.units; omega) S2 (r1.step x2) r2 q2 fun v d F' H' y S3 rv qv => ?_
  split at qv
  · cases rv
    refine ⟨true, rfl, ?_⟩
    rw [if_pos rfl]
    refine he _ _ _ _ _ _ _ _ S3 (V.step ((x1.trans x2).trans y)) qv fun v3 d3 cs3 F3 H3 h3 x3 S4 r3 q3 => ?_
    refine cmpK_ok (by have := O.units; omega) S4 ((r2.step y).step x3) r3 q3 fun v d F' H' y' S5 rv' qv' => ?_
    split at qv'
    · cases rv'
      exact ⟨_, rfl, p _ _ _ _ _ ((((x1.trans x2).trans y).trans x3).trans y') S5 qv'⟩
    · exact qv'.elim
  · cases rv
    refine ⟨false, rfl, ?_⟩
    rw [if_neg Bool.false_ne_true]
    exact ⟨false, rfl, p _ _ _ _ _ ((x1.trans x2).trans y) S3 qv⟩
  · exact qv.elim
theorem s_not {a : E} {l : Expr} {pos : Pos} (ha : SE C Cl X false a l) : SE C Cl X b (.not a) (.UnaryOp .Not l pos) := fun ρ h Q σ cs F H R S V w p => by
  simp only [WpE] at w
  refine we_of (pe_not pe_we) (ha _ _ _ _ _ _ _ _ S V w fun v1 d1 cs1 F1 H1 h1 x1 S1 r1 q1 => ?_)
  split at q1
  · cases r1.bl
    exact ⟨_, rfl, (p.lift x1).post.bl S1 q1⟩
  · exact q1.elim
theorem s_notT {a : E} {l : Expr} {pos : Pos} (ha : ST C Cl X a l) : ST C Cl X (.not a) (.UnaryOp .Not l pos) := fun ρ h Q σ cs F H R S V w p => by
  simp only [WpT] at w
  exact wt_of (pt_not pt_we) (ha _ _ _ _ _ _ _ _ S V w fun k cs1 F1 H1 h1 x1 S1 q1 => p _ _ _ _ _ x1 S1 q1)
theorem pe_two {op : BoolOp} {y z : Expr} {rest : List Expr} {pos : Pos} {tz : TE} (hz : PE X (tail2 op z pos rest) tz) : PE X (.BoolOp op (z :: rest) pos) tz := by
  cases rest with
  | nil => exact pe_one hz
  | cons w r => exact hz
theorem s_and {a c : E} {y z : Expr} {rest : List Expr} {pos : Pos} (ha : SE C Cl X false a y) (hc : SE C Cl X false c (tail2 .And z pos rest)) : SE C Cl X b (.and a c) (.BoolOp .And (y :: z :: rest) pos) := fun ρ h Q σ cs F H R S V w p => by
  simp only [WpE] at w
  refine we_of (pe_and pe_we (pe_two (y := y) pe_we)) (ha _ _ _ _ _ _ _ _ S V w fun v1 d1 cs1 F1 H1 h1 x1 S1 r1 q1 => ?_)
  split at q1
  · cases r1.bl
    refine ⟨true, rfl, ?_⟩
    rw [if_pos rfl]
    exact hc _ _ _ _ _ _ _ _ S1 (V.step x1) q1 fun v2 d2 cs2 F2 H2 h2 x2 S2 r2 q2 => p _ _ _ _ _ _ (x1.trans x2) S2 (.inl r2.plain) q2
  · cases r1.bl
    refine ⟨false, rfl, ?_⟩
    rw [if_neg Bool.false_ne_true]
    exact p _ _ _ _ _ _ x1 S1 (.inl (.bl false)) q1
  · exact q1.elim
theorem s_or {a c : E} {y z : Expr} {rest : List Expr} {pos : Pos} (ha : SE C Cl X false a y) (hc : SE C Cl X false c (tail2 .Or z pos rest)) : SE C Cl X b (.or a c) (.BoolOp .Or (y :: z :: rest) pos) := fun ρ h Q σ cs F H R S V w p => by
  simp only [WpE] at w
  refine we_of (pe_or pe_we (pe_two (y := y) pe_we)) (ha _ _ _ _ _ _ _ _ S V w fun v1 d1 cs1 F1 H1 h1 x1 S1 r1 q1 => ?_)
  split at q1
  · cases r1.bl
    refine ⟨false, rfl, ?_⟩
    rw [if_neg Bool.false_ne_true]
    exact hc _ _ _ _ _ _ _ _ S1 (V.step x1) q1 fun v2 d2 cs2 F2 H2 h2 x2 S2 r2 q2 => p _ _ _ _ _ _ (x1.trans x2) S2 (.inl r2.plain) q2
  · cases r1.bl
    refine ⟨true, rfl, ?_⟩
    rw [if_pos rfl]
    exact p _ _ _ _ _ _ x1 S1 (.inl (.bl true)) q1
  · exact q1.elim
/-- a conjunction's or disjunction's test asks its whole for nothing -/
theorem pw_of {op : BoolOp} {es : List Expr} {pos : Pos} {t : TT} (h : PT X (.BoolOp op es pos) t) : PW X (.BoolOp op es pos) t := ⟨fun whole pins s σ H Q I hw => by
  have := h.run pins s σ H Q I hw
  exact this⟩
theorem s_andT {a c : E} {y z : Expr} {rest : List Expr} {pos : Pos} (ha : ST C Cl X a y) (hc : ST C Cl X c (tail2 .And z pos rest)) : ST C Cl X (.and a c) (.BoolOp .And (y :: z :: rest) pos) := fun ρ h Q σ cs F H R S V w p => by
  simp only [WpT] at w
  have hz : PW X (.BoolOp .And (z :: rest) pos) (WT X (tail2 .And z pos rest)) := by
    cases rest with
    | nil => exact pw_and1 pt_we
    | cons w r => exact pw_of pt_we
  refine wt_of (pw_and pt_we hz).pt (ha _ _ _ _ _ _ _ _ S V w fun k cs1 F1 H1 h1 x1 S1 q1 => ?_)
  cases k with
  | true =>
    rw [if_pos rfl] at q1 ⊢
    exact hc _ _ _ _ _ _ _ _ S1 (V.step x1) q1 (p.lift x1)
  | false =>
    rw [if_neg Bool.false_ne_true] at q1 ⊢
    exact p _ _ _ _ _ x1 S1 q1
theorem s_orT {a c : E} {y z : Expr} {rest : List Expr} {pos : Pos} (ha : ST C Cl X a y) (hc : ST C Cl X c (tail2 .Or z pos rest)) : ST C Cl X (.or a c) (.BoolOp .Or (y :: z :: rest) pos) := fun ρ h Q σ cs F H R S V w p => by
  simp only [WpT] at w
  have hz : PW X (.BoolOp .Or (z :: rest) pos) (WT X (tail2 .Or z pos rest)) := by
    cases rest with
    | nil => exact pw_or1 pt_we
    | cons w r => exact pw_of pt_we
  refine wt_of (pw_or pt_we hz).pt (ha _ _ _ _ _ _ _ _ S V w fun k cs1 F1 H1 h1 x1 S1 q1 => ?_)
  cases k with
  | false =>
    rw [if_neg Bool.false_ne_true] at q1 ⊢
    exact hc _ _ _ _ _ _ _ _ S1 (V.step x1) q1 (p.lift x1)
  | true =>
    rw [if_pos rfl] at q1 ⊢
    exact p _ _ _ _ _ x1 S1 q1
theorem s_truT {a : E} {l : Expr} (ha : SE C Cl X false a l) (hl : plainT l = true) : ST C Cl X (.tru a) l := fun ρ h Q σ cs F H R S V w p => by
  simp only [WpT] at w
  refine wt_of (pt_truth pe_we (plainT_ok hl _)) (ha _ _ _ _ _ _ _ _ S V w fun v1 d1 cs1 F1 H1 h1 x1 S1 r1 q1 => ?_)
  obtain ⟨k, e1, e2⟩ := truK_ok S1 r1 q1
  exact ⟨k, e1, p _ _ _ _ _ x1 S1 e2⟩
theorem s_ite {c a d : E} {t l r : Expr} {pos : Pos} (hc : ST C Cl X c t) (ha : SE C Cl X false a l) (hd : SE C Cl X false d r) : SE C Cl X b (.ite c a d) (.IfExp t l r pos) := fun ρ h Q σ cs F H R S V w p => by
  simp only [WpE] at w
  refine we_of (pe_ifExp pt_we pe_we pe_we) (hc _ _ _ _ _ _ _ _ S V w fun k cs1 F1 H1 h1 x1 S1 q1 => ?_)
  cases k with
  | true =>
    rw [if_pos rfl] at q1 ⊢
    exact ha _ _ _ _ _ _ _ _ S1 (V.step x1) q1 fun v2 d2 cs2 F2 H2 h2 x2 S2 r2 q2 => p _ _ _ _ _ _ (x1.trans x2) S2 (.inl r2.plain) q2
  | false =>
    rw [if_neg Bool.false_ne_true] at q1 ⊢
    exact hd _ _ _ _ _ _ _ _ S1 (V.step x1) q1 fun v2 d2 cs2 F2 H2 h2 x2 S2 r2 q2 => p _ _ _ _ _ _ (x1.trans x2) S2 (.inl r2.plain) q2
theorem s_tup {es : Es} {xs : List Expr} {k : Nat} {pos : Pos} (ha : SA C Cl X es xs) : SE C Cl X b (.tup es) (.Tuple xs k pos) := fun ρ h Q σ cs F H R S V w p => by
  simp only [WpE] at w
  refine we_of (pe_tup pa_we) (ha _ _ _ _ _ _ _ _ S V w fun vs ds cs1 F1 H1 h1 x1 S1 rs q1 => ?_)
  have rs := rs.plain
  exact ⟨by rw [rs.length]; exact q1.1, (p.lift x1).post.newT S1 rs q1.2⟩
theorem s_fz {n : Nw} {x : Expr} (hn : SN C Cl X n x) : SE C Cl X b (.fz n) x := fun ρ h Q σ cs F H R S V w p => by
  simp only [WpE] at w
  exact hn _ _ _ _ _ _ _ _ S V w (NOk.fz p)
theorem s_new {n : Nw} {x : Expr} (hn : SN C Cl X n x) : SE C Cl X b (.new n) x := fun ρ h Q σ cs F H R S V w p => by
  simp only [WpE] at w
  exact hn _ _ _ _ _ _ _ _ S V w (NOk.new p)
theorem s_sub {a i : E} {l r : Expr} {pos : Pos} (O : XOk C T Cl X) (ha : SE C Cl X true a l) (hi : SE C Cl X false i r) (hs : notSlice r = true) : SE C Cl X b (.sub a i) (.Subscript l r pos) := fun ρ h Q σ cs F H R S V w p => by
  simp only [WpE] at w
  refine we_of (pe_ix ixw_ok pe_we pe_we (plainIx_of hs)) (ha _ _ _ _ _ _ _ _ S V w fun v1 d1 cs1 F1 H1 h1 x1 S1 r1 q1 => ?_)
  refine hi _ _ _ _ _ _ _ _ S1 (V.step x1) q1 fun v2 d2 cs2 F2 H2 h2 x2 S2 r2 q2 => ?_
  exact subK_ok (by have := O.units; omega) S2 (r1.step x2) r2 q2 ((p.lift (x1.trans x2)).post)
theorem s_so {e : E} {x : Expr} (he : SE C Cl X false e x) : SO C Cl X (.so e) (some x) := fun ρ h Q σ cs F H R S V w p => by
  simp only [WpO] at w
  refine wo_of (po_some pe_we) (he _ _ _ _ _ _ _ _ S V w fun v1 d1 cs1 F1 H1 h1 x1 S1 r1 q1 => ?_)
  split at q1
  · cases r1.int
    exact ⟨_, rfl, p _ _ _ _ _ x1 S1 q1⟩
  · exact q1.elim
theorem s_no : SO C Cl X .no none := fun ρ h Q σ cs F H R S V w p => by
  simp only [WpO] at w
  exact wo_of po_none (p _ _ _ _ _ .refl S w)
theorem OOk.lift {Q : Option Int → AHeap → Prop} {R : Option Int → Hp → Prop} (p : OOk K Cl cs F H Q R) (x : Stp cs F H cs' F' H') : OOk K Cl cs' F' H' Q R :=
  fun k cs2 F2 H2 h2 y S q => p k cs2 F2 H2 h2 (x.trans y) S q
theorem AOk.lift {Q : List AV → AHeap → Prop} {R : List V → Hp → Prop} (p : AOk K Cl b cs F H Q R) (x : Stp cs F H cs' F' H') : AOk K Cl b cs' F' H' Q R :=
  fun v d cs2 F2 H2 h2 y S r q => p v d cs2 F2 H2 h2 (x.trans y) S r q
theorem s_slice {a : E} {lo hi : Oe} {l : Expr} {u v : Option Expr} {p2 pos : Pos} (ha : SE C Cl X false a l) (hl : SO C Cl X lo u) (hh : SO C Cl X hi v) : SE C Cl X b (.slice a lo hi) (.Subscript l (.Slice u v none p2) pos) := fun ρ h Q σ cs F H R S V w p => by
  simp only [WpE] at w
  refine we_of (pe_slice slw_ok pe_we po_we po_we) (ha _ _ _ _ _ _ _ _ S V w fun v1 d1 cs1 F1 H1 h1 x1 S1 r1 q1 => ?_)
  refine hl _ _ _ _ _ _ _ _ S1 (V.step x1) q1 fun k2 cs2 F2 H2 h2 x2 S2 q2 => ?_
  refine hh _ _ _ _ _ _ _ _ S2 ((V.step x1).step x2) q2 fun k3 cs3 F3 H3 h3 x3 S3 q3 => ?_
  exact sliceK_ok S3 ((r1.step x2).step x3) q3 ((p.lift ((x1.trans x2).trans x3)).post)
theorem s_nil : SA C Cl X .nil [] := fun ρ h Q σ cs F H R S V w p => by
  simp only [WpEs] at w
  exact wa_of pa_nil (p _ _ _ _ _ _ .refl S .nil w)
theorem s_cons {e : E} {es : Es} {x : Expr} {xs : List Expr} (he : SE C Cl X false e x) (hs : SA C Cl X es xs) (hx : notStar x = true) : SA C Cl X (.cons e es) (x :: xs) := fun ρ h Q σ cs F H R S V w p => by
  simp only [WpEs] at w
  refine wa_of (pa_cons pe_we pa_we (star_cons hx _ _)) (he _ _ _ _ _ _ _ _ S V w fun v1 d1 cs1 F1 H1 h1 x1 S1 r1 q1 => ?_)
  refine hs _ _ _ _ _ _ _ _ S1 (V.step x1) q1 fun v2 d2 cs2 F2 H2 h2 x2 S2 r2 q2 => ?_
  exact p _ _ _ _ _ _ (x1.trans x2) S2 (.cons (r1.step x2) r2) q2
theorem s_nilB : SB C Cl X .nil [] := fun ρ h Q σ cs F H R S V w p => by
  simp only [WpBs] at w
  exact wa_of pa_nil (p _ _ _ _ _ _ .refl S .nil w)
theorem s_consB {e : E} {es : Es} {x : Expr} {xs : List Expr} (he : SE C Cl X true e x) (hs : SB C Cl X es xs) (hx : notStar x = true) : SB C Cl X (.cons e es) (x :: xs) := fun ρ h Q σ cs F H R S V w p => by
  simp only [WpBs] at w
  refine wa_of (pa_cons pe_we pa_we (star_cons hx _ _)) (he _ _ _ _ _ _ _ _ S V w fun v1 d1 cs1 F1 H1 h1 x1 S1 r1 q1 => ?_)
  refine hs _ _ _ _ _ _ _ _ S1 (V.step x1) q1 fun v2 d2 cs2 F2 H2 h2 x2 S2 r2 q2 => ?_
  exact p _ _ _ _ _ _ (x1.trans x2) S2 (.cons (r1.step x2) r2) q2
theorem s_call {f : Nat} {es : Es} {id : Str} {p1 pos : Pos} {xs : List Expr} (O : XOk C T Cl X) (h0 : T.fname f = some id) (h1 : glB X.env.scope id = true) (h2 : plainName id = true) (hx : xs.all notStar = true) (hn : xs = [] → es = .nil) (ha : SA C Cl X es xs) :
    SE C Cl X b (.call f es) (.Call (.Name id p1) xs [] pos) := fun ρ h Q σ cs F H R S V w p => by
  simp only [WpE] at w
  obtain ⟨k, a, fd, ps, G, hr, hm, hk, hb⟩ := O.fn f id h0
  have key : WA X xs σ H fun vs H1 => spOf X.K Cl C f vs H1 R E0 := by
    refine ha _ _ _ _ _ _ _ _ S V w fun vs ds cs1 F1 H1 h1 x1 S1 rs q1 => ?_
    exact ⟨cs1, F1, h1, ds, Q, S1, rs.plain, q1, fun v d cs' F' H' h' y S' r q => p _ _ _ _ _ _ (x1.trans y) S' (.inl r) q⟩
  cases xs with
  | nil =>
    refine we_of (G.call0 O.gd hr (glB_ok h1) hm hk hb (plainName_ok h2).1) ?_
    show spOf X.K Cl C f [] H R E0
    cases es with
    | nil =>
      simp only [WpEs] at w
      exact ⟨cs, F, h, [], Q, S, .nil, w, fun v d cs' F' H' h' y S' r q => p _ _ _ _ _ _ y S' (.inl r) q⟩
    | cons e es => cases hn rfl
  | cons x xs =>
    rw [List.all_cons, Bool.and_eq_true] at hx
    exact we_of (G.call O.gd hr (glB_ok h1) hm hk hb pa_we (plainName_ok h2).1 (star_cons hx.1 _ _) (star_all hx.2 _ _)) key
theorem s_blt {bt : Blt} {es : Es} {id : Str} {p1 pos : Pos} {y : Expr} {xs : List Expr} (O : XOk C T Cl X) (h0 : id = bName bt) (h1 : glB X.env.scope id = true) (hx : (y :: xs).all notStar = true) (ha : SB C Cl X es (y :: xs)) :
    SE C Cl X b (.blt bt es) (.Call (.Name id p1) (y :: xs) [] pos) := fun ρ h Q σ cs F H R S V w p => by
  simp only [WpE] at w
  subst h0
  rw [List.all_cons, Bool.and_eq_true] at hx
  have hm := O.blt _ (bName_mem bt)
  obtain ⟨n1, n2, n3⟩ := plainName_ok (bName_plain bt)
  have hv := bName_boot bt
  have key : WA X (y :: xs) σ H fun vs H1 => CallW X (bVal bt) vs H1 R := by
    refine ha _ _ _ _ _ _ _ _ S V w fun vs ds cs1 F1 H1 h1 x1 S1 rs q1 => ?_
    exact bltK_ok O.calm O.gd (by have := O.units; omega) S1 rs q1 ((p.lift x1).post)
  have hg : Gl X (bName bt) := glB_ok h1
  revert hm hv key hg n1 n3
  generalize bName bt = nm
  generalize hbv : bVal bt = bv
  intro hm n1 n3 hv key hg
  cases bt <;> cases hbv <;> first
    | exact we_of (pe_callB callw_ok hg hm hv pa_we n3 n1 (star_cons hx.1 _ _) (star_all hx.2 _ _)) key
    | exact we_of (pe_callTy callw_ok hg hm hv pa_we n3 n1 (star_cons hx.1 _ _) (star_all hx.2 _ _)) key
end
end VL

set_option maxRecDepth 100000
set_option maxHeartbeats 2000000
/-! VL: isinstance, join, new lists, what is walked, comprehensions. -/
namespace VL
open PySem L2 Evl PyProof.Rows PySem.Spec

section
variable {C : Ctx} {T : Tab} {Cl : Nat → Addr} {X : Cx} {b : Bool} {K : PySem.W.Frag} {cs cs' cs'' : List Addr} {F F' F'' H H' H'' : Hp} {h : AHeap}
theorem tyx_l {a : Addr} {vs : List V} (q : SqL K H a vs) : TyX K H (.ref a) (.type "list") := by
  rcases q with (q | ⟨o, q⟩) | ⟨o, its, n, h1, h2, _⟩
  · exact .base (.lst q)
  · exact .base (.frz q)
  · exact .kList h1 h2
theorem tyx_t {a : Addr} {vs : List V} (q : SqT K H a vs) : TyX K H (.ref a) (.type "tuple") := by
  rcases q with (q | ⟨o, q⟩) | ⟨o, its, n, h1, h2, _⟩
  · exact .base (.tup q)
  · exact .fTuple q
  · exact .kTuple h1 h2
def tyNames : List String := ["int", "bool", "str", "list", "tuple"]
theorem ty_boot {t : String} (h : tyNames.contains t = true) : bootBuiltins (Str.ofString t) = some (.type t) ∧ Str.ofString t ∈ bltNames ∧ plainName (Str.ofString t) = true := by
  have h' : t ∈ tyNames := by simpa using h
  simp only [tyNames, List.mem_cons, List.not_mem_nil, or_false] at h'
  rcases h' with rfl | rfl | rfl | rfl | rfl <;> exact ⟨by decide +kernel, by decide +kernel, by decide +kernel⟩
theorem isiK_ok (S : StOk X.K Cl cs F H h) {x : V} {d : AV} (rx : RepB X.K cs F H b x d) {t : String} {Q : KA} {R : VK} (q : isiK d t h Q) (p : PostV X.K Cl cs F H h Q R) : rIsi X.K [x, .ty t] H R := by
  have fin : ∀ {tx : String} {k : Bool}, TyX X.K H x (.type tx) → kitB tx t = some k → Q (.bl k) → rIsi X.K [x, .ty t] H R := fun {tx k} h1 h2 q => ⟨x, .ty t, .type tx, .type t, k, rfl, .ty t, h1, kit_ty h2, p.bl S q⟩
  unfold isiK at q
  split at q
  · cases rx.non
    obtain ⟨e, q⟩ := q
    rcases e with rfl | rfl | rfl | rfl | rfl <;> exact fin (.base .non) (by decide +kernel) q
  · cases rx.bl
    rcases q with ⟨rfl, q⟩ | ⟨rfl, q⟩ | ⟨rfl | rfl | rfl, q⟩ <;> exact fin (.base (.bl _)) (by decide +kernel) q
  · cases rx.int
    rcases q with ⟨rfl, q⟩ | ⟨rfl | rfl | rfl | rfl, q⟩ <;> exact fin (.base (.int _)) (by decide +kernel) q
  · cases rx.str
    rcases q with ⟨rfl, q⟩ | ⟨rfl | rfl | rfl | rfl, q⟩ <;> exact fin (.base (.str _)) (by decide +kernel) q
  · rename_i xs
    have hx : ∃ a vs, x = .ref a ∧ SqT X.K H a vs := by
      rcases rx with r | ⟨_, _, _, _, _, ⟨_, _, e, _⟩ | ⟨_, _, e, _⟩⟩
      · cases r with
        | tup h1 r1 => exact ⟨_, _, rfl, ex_t S.sub h1⟩
      · cases e
      · cases e
    obtain ⟨a, vs, rfl, hq⟩ := hx
    rcases q with ⟨rfl, q⟩ | ⟨rfl | rfl | rfl | rfl, q⟩ <;> exact fin (tyx_t hq) (by decide +kernel) q
  · exact q.elim
  · split at q
    · rename_i xs hv
      obtain ⟨a, vs, rfl, hq, _⟩ := rx.view S hv
      rcases q with ⟨rfl, q⟩ | ⟨rfl | rfl | rfl | rfl, q⟩ <;> exact fin (tyx_l hq) (by decide +kernel) q
    · exact q.elim
theorem s_isi {a : E} {t : String} {id id2 : Str} {p1 p2 pos : Pos} {y : Expr} (O : XOk C T Cl X) (h0 : id = "isinstance") (h1 : glB X.env.scope id = true) (h2 : id2 = Str.ofString t) (h3 : glB X.env.scope id2 = true) (ht : tyNames.contains t = true) (hy : notStar y = true)
    (ha : SE C Cl X true a y) : SE C Cl X b (.isi a t) (.Call (.Name id p1) [y, .Name id2 p2] [] pos) := fun ρ h Q σ cs F H R S V w p => by
  simp only [WpE] at w
  subst h0 h2
  obtain ⟨e1, e2, e3⟩ := ty_boot ht
  obtain ⟨n1, n2, n3⟩ := plainName_ok e3
  have pt : PE X (.Name (Str.ofString t) p2) (tC (.ty t)) := pe_bltn (glB_ok h3) (O.blt _ e2) e1 rfl n3 n1
  refine we_of (pe_callB call_isi (glB_ok h1) (O.blt _ (by decide +kernel)) (by decide +kernel) (pa_cons pe_we (pa_cons pt pa_nil) (star_cons hy _ _)) (by decide +kernel) (by decide +kernel) (star_cons hy _ _)) ?_
  refine ha _ _ _ _ _ _ _ _ S V w fun v1 d1 cs1 F1 H1 h1 x1 S1 r1 q1 => ?_
  exact isiK_ok S1 r1 q1 ((p.lift x1).post)
theorem s_smt {m : Sm} {o a : E} {nm : Str} {y z : Expr} {apos cpos : Pos} (hm : (match m with | .join => decide (nm = "join")) = true) (ho : SE C Cl X false o y) (ha : SE C Cl X true a z) (hz : notStar z = true) (hy : notSup y = true) (hl : (apos.endLine == cpos.line) = true) :
    SE C Cl X b (.smt m o a) (.Call (.Attribute y nm apos) [z] [] cpos) := fun ρ h Q σ cs F H R S V w p => by
  simp only [WpE] at w
  cases m with
  | join =>
    have hm : nm = "join" := of_decide_eq_true hm
    subst hm
    refine we_of (pe_join pe_we pe_we (star_cons hz _ _) (base_of hy _ _) hl) ?_
    refine ho _ _ _ _ _ _ _ _ S V w fun v1 d1 cs1 F1 H1 h1 x1 S1 r1 q1 => ?_
    split at q1
    · cases r1.str
      refine ⟨⟨_, rfl⟩, ha _ _ _ _ _ _ _ _ S1 (V.step x1) q1 fun v2 d2 cs2 F2 H2 h2 x2 S2 r2 q2 => ?_⟩
      unfold smtK at q2
      simp only at q2
      split at q2
      · rename_i ys hv
        obtain ⟨xs, hv, hn⟩ := Option.bind_eq_some_iff.mp hv
        obtain ⟨a, vs, rfl, hq, r⟩ := r2.viewT S2 hv
        rw [r.strs hn] at hq
        exact ⟨_, a, ys, rfl, rfl, hq, q2.1, (p.lift (x1.trans x2)).post.str S2 q2.2⟩
      · exact q2.elim
    · exact q1.elim

/-! ### objects of own classes -/
theorem Rep.adr_inv {K : PySem.W.Frag} {cs : List Addr} {F : Hp} {v : V} {n : Nat} (r : Rep K cs F v (.adr n)) : ∃ a, v = .ref a ∧ cs[n]? = some a := by
  cases r with
  | adr e => exact ⟨_, rfl, e⟩
theorem obj_at (S : StOk K Cl cs F H h) {n c : Nat} {a : Addr} {fs : List (Str × AV)} (e : cs[n]? = some a) (hc : cells h n = .obj c fs) : ∃ dx fvs, H a = some (.ins (Cl c) dx fvs) ∧ RepF K cs F fvs fs := by
  have := S.cell n a e
  rw [hc] at this
  exact this
theorem s_attr {a : E} {f : Str} {y : Expr} {pos : Pos} (O : XOk C T Cl X) (ha : SE C Cl X false a y) (hy : notSup y = true) : SE C Cl X b (.attr a f) (.Attribute y f pos) := fun ρ h Q σ cs F H R S V w p => by
  simp only [WpE] at w
  refine we_of (pe_fld pe_we (base_of hy _ _)) (ha _ _ _ _ _ _ _ _ S V w fun v1 d1 cs1 F1 H1 h1 x1 S1 r1 q1 => ?_)
  split at q1
  · rename_i n
    split at q1
    · rename_i c fs hc
      obtain ⟨hf, q1⟩ := q1
      split at q1
      · rename_i d hd
        obtain ⟨a, rfl, e⟩ := Rep.adr_inv r1.plain
        obtain ⟨dx, fvs, e2, r⟩ := obj_at S1 e hc
        obtain ⟨v, hv, rv⟩ := r.get hd
        exact ⟨a, Cl c, dx, fvs, v, rfl, e2, (O.fld c f hf).1, (O.fld c f hf).2, hv, p _ _ _ _ _ _ x1 S1 (.inl rv) q1⟩
      · exact q1.elim
    · exact q1.elim
  · exact q1.elim
theorem few_form {xs : List Expr} (hx : xs.all notStar = true) (hn : xs.length < 30) (pos : Pos) (env : PySem.Env) : methodCallForm xs.length (backTo pos (starEach xs env)) [] = true := by
  have := star_all hx pos env
  unfold methodCallForm
  rw [List.any_eq_false] at this
  have e : (backTo pos (starEach xs env)).all (fun x => !x.1) = true := by
    rw [List.all_eq_true]
    intro x hx
    have := this x hx
    simpa using this
  simp [e, hn]
theorem s_mcall {o : E} {m : Str} {es : Es} {y : Expr} {apos cpos : Pos} {xs : List Expr} (O : XOk C T Cl X) (ho : SE C Cl X false o y) (hy : notSup y = true) (hl : (apos.endLine == cpos.line) = true) (hx : xs.all notStar = true) (hn : xs.length < 30) (hnil : xs = [] → es = .nil) (ha : SA C Cl X es xs) :
    SE C Cl X b (.mcall o m es) (.Call (.Attribute y m apos) xs [] cpos) := fun ρ h Q σ cs F H R S V w p => by
  simp only [WpE] at w
  have key : ∀ v1 d1 cs1 F1 H1 h1, Stp cs F H cs1 F1 H1 → StOk X.K Cl cs1 F1 H1 h1 → RepB X.K cs1 F1 H1 false v1 d1 → (match d1 with
      | .adr n => match cells h1 n with
        | .obj c fs => match fs.lookup m with
          | some _ => False
          | none => match C.meth c m with
            | some f => WpEs C es ρ h1 fun xs h2 => C.call f (d1 :: xs) h2 Q
            | none => False
        | _ => False
      | _ => False) → ∃ a CC dx fs sp, v1 = .ref a ∧ H1 a = some (.ins CC dx fs) ∧ fs.lookup m = none ∧ MethAt X CC m sp ∧ WA X xs σ H1 fun vs H2 => sp (v1 :: vs) H2 R E0 := by
    intro v1 d1 cs1 F1 H1 h1 x1 S1 r1 q1
    split at q1
    · rename_i n
      split at q1
      · rename_i c fs hc
        split at q1
        · exact q1.elim
        · rename_i hlk
          split at q1
          · rename_i f hf
            obtain ⟨a, rfl, e⟩ := Rep.adr_inv r1.plain
            obtain ⟨dx, fvs, e2, r⟩ := obj_at S1 e hc
            obtain ⟨k, g, fd, ps, G, room, hc1, hm, hb⟩ := O.mth c m f hf
            refine ⟨a, Cl c, dx, fvs, spOf X.K Cl C f, rfl, e2, r.none hlk, ⟨k, g, fd, ps, hc1, hm, G, room, hb⟩, ?_⟩
            refine ha _ _ _ _ _ _ _ _ S1 (V.step x1) q1 fun vs ds cs2 F2 H2 h2 x2 S2 rs q2 => ?_
            exact ⟨cs2, F2, h2, .adr n :: ds, Q, S2, .cons (r1.plain.mono x2.f x2.c) rs.plain, q2, fun v d cs' F' H' h' y S' r q => p _ _ _ _ _ _ ((x1.trans x2).trans y) S' (.inl r) q⟩
          · exact q1.elim
      · exact q1.elim
    · exact q1.elim
  cases xs with
  | nil =>
    have := hnil rfl
    subst this
    refine we_of (pe_methG0 pe_we (base_of hy _ _) hl O.gd) (ho _ _ _ _ _ _ _ _ S V w fun v1 d1 cs1 F1 H1 h1 x1 S1 r1 q1 => ?_)
    obtain ⟨a, CC, dx, fs, sp, e1, e2, e3, e4, _⟩ := key v1 d1 cs1 F1 H1 h1 x1 S1 r1 q1
    subst e1
    split at q1
    · rename_i n
      split at q1
      · rename_i c fs' hc
        split at q1
        · exact q1.elim
        · rename_i hlk
          split at q1
          · rename_i f hf
            obtain ⟨a', ea, e⟩ := Rep.adr_inv r1.plain
            cases ea
            obtain ⟨dx', fvs, e2', r⟩ := obj_at S1 e hc
            obtain ⟨k, g, fd, ps, G, room, hc1, hm, hb⟩ := O.mth c m f hf
            simp only [WpEs] at q1
            exact ⟨a, Cl c, dx', fvs, spOf X.K Cl C f, rfl, e2', r.none hlk, ⟨k, g, fd, ps, hc1, hm, G, room, hb⟩, cs1, F1, h1, [.adr n], Q, S1, .cons r1.plain .nil, q1, fun v d cs' F' H' h' y S' r q => p _ _ _ _ _ _ (x1.trans y) S' (.inl r) q⟩
          · exact q1.elim
      · exact q1.elim
    · exact q1.elim
  | cons x xs =>
    have hx2 := hx
    rw [List.all_cons, Bool.and_eq_true] at hx2
    refine we_of (pe_methG pe_we (base_of hy _ _) hl (few_form hx hn _ _) O.gd pa_we (star_cons hx2.1 _ _) (star_all hx2.2 _ _)) (ho _ _ _ _ _ _ _ _ S V w fun v1 d1 cs1 F1 H1 h1 x1 S1 r1 q1 => ?_)
    exact key v1 d1 cs1 F1 H1 h1 x1 S1 r1 q1
theorem s_make {c : Nat} {es : Es} {id : Str} {p1 pos : Pos} {x : Expr} {xs : List Expr} (O : XOk C T Cl X) (h0 : T.cname c = some id) (h1 : glB X.env.scope id = true) (h2 : plainName id = true) (hx : (x :: xs).all notStar = true) (ha : SA C Cl X es (x :: xs)) :
    SE C Cl X b (.make c es) (.Call (.Name id p1) (x :: xs) [] pos) := fun ρ h Q σ cs F H R S V w p => by
  simp only [WpE] at w
  obtain ⟨f, k, g, fd, ps, hi, G, room, hm, M, hb⟩ := O.cls c id h0
  rw [List.all_cons, Bool.and_eq_true] at hx
  refine we_of (G.make M O.gd room (glB_ok h1) hm hb pa_we (plainName_ok h2).1 (star_cons hx.1 _ _) (star_all hx.2 _ _)) (ha _ _ _ _ _ _ _ _ S V w fun vs ds cs1 F1 H1 h1' x1 S1 rs q1 => ?_)
  rw [hi] at q1
  intro a dx na nd ne
  have ne2 : a ≠ dx := fun z => ne z.symm
  have hF : F1 a = none := by
    cases q : F1 a with
    | none => rfl
    | some u => rw [S1.sub _ _ q] at na; cases na
  have hc : a ∉ cs1 := fun z => by
    obtain ⟨n, hn⟩ := List.mem_iff_getElem?.mp z
    exact (S1.cell n a hn).some na
  have na2 : upd H1 dx (.own a) a = none := by rw [upd_ne ne2]; exact na
  have S2 := (S1.newN (o := .own a) nd).newN (o := .ins (Cl c) dx []) na2
  have y1 : Stp cs1 F1 H1 cs1 F1 (upd (upd H1 dx (.own a)) a (.ins (Cl c) dx [])) := (Stp.newN nd).trans (Stp.newN na2)
  have S3 := S2.cellNew (c := .obj c []) hF hc ⟨dx, [], upd_same, .nil⟩
  have y2 : Stp cs1 F1 H1 (cs1 ++ [a]) F1 (upd (upd H1 dx (.own a)) a (.ins (Cl c) dx [])) := by
    refine ⟨y1.f, ⟨[a], rfl⟩, y1.k, y1.d, y1.n, fun b q1 q2 => ?_⟩
    rw [List.mem_append] at q1
    rcases q1 with q1 | q1
    · exact absurd q1 q2
    · simp at q1; subst q1; exact na
  have ga : (cs1 ++ [a])[h1'.length]? = some a := by
    rw [← S1.len]
    simp
  refine ⟨cs1 ++ [a], F1, h1' ++ [.obj c []], .adr h1'.length :: ds, _, S3, .cons (.adr ga) (rs.plain.mono y2.f y2.c), q1, fun v d cs' F' H' h' y S' r q => ?_⟩
  split at q
  · cases r
    refine ⟨rfl, p _ _ _ _ _ _ ((x1.trans y2).trans y) S' (.inl (.adr ?_)) q⟩
    obtain ⟨r, e⟩ := y.c
    exact get_pre e ga
  · exact q.elim

/-! ### new lists -/
theorem NOk.made {Q : Cell → AHeap → Prop} {R : VK} (p : NOk K Cl cs F H Q R) (S : StOk K Cl cs F H h) {a : Addr} {o : HO} {c : Cell} (ha : H a = none) (r : COk K Cl cs F (upd H a o) a c) (q : Q c h) : R (.ref a) (upd H a o) := by
  have hF : F a = none := by
    cases w : F a with
    | none => rfl
    | some u => rw [S.sub _ _ w] at ha; cases ha
  have hc : a ∉ cs := fun z => by
    obtain ⟨n, hn⟩ := List.mem_iff_getElem?.mp z
    exact (S.cell n a hn).some ha
  exact p a c cs F _ h (.newN ha) (S.newN ha) ha hF hc r q
theorem n_lst {es : Es} {xs : List Expr} {pos : Pos} (ha : SA C Cl X es xs) : SN C Cl X (.lst es) (.List xs pos) := fun ρ h Q σ cs F H R S V w p => by
  simp only [WpN] at w
  refine we_of (pe_lst pa_we) (ha _ _ _ _ _ _ _ _ S V w fun vs ds cs1 F1 H1 h1 x1 S1 rs q1 => ?_)
  have rs := rs.plain
  exact ⟨by rw [rs.length]; exact q1.1, fun a ha => (p.lift x1).made S1 ha (show COk X.K Cl cs1 F1 _ a (.lst ds) from ⟨vs, upd_same, rs⟩) q1.2⟩
theorem n_slice {a : E} {lo hi : Oe} {l : Expr} {u v : Option Expr} {p2 pos : Pos} (ha : SE C Cl X true a l) (hl : SO C Cl X lo u) (hh : SO C Cl X hi v) : SN C Cl X (.slice a lo hi) (.Subscript l (.Slice u v none p2) pos) := fun ρ h Q σ cs F H R S V w p => by
  simp only [WpN] at w
  refine we_of (pe_slice sl_list pe_we po_we po_we) (ha _ _ _ _ _ _ _ _ S V w fun v1 d1 cs1 F1 H1 h1 x1 S1 r1 q1 => ?_)
  refine hl _ _ _ _ _ _ _ _ S1 (V.step x1) q1 fun k2 cs2 F2 H2 h2 x2 S2 q2 => ?_
  refine hh _ _ _ _ _ _ _ _ S2 ((V.step x1).step x2) q2 fun k3 cs3 F3 H3 h3 x3 S3 q3 => ?_
  split at q3
  · rename_i xs hv
    obtain ⟨a, vs, rfl, hq, r⟩ := ((r1.step x2).step x3).view S3 hv
    exact ⟨a, vs, rfl, hq, fun a ha => (p.lift ((x1.trans x2).trans x3)).made S3 ha (show COk X.K Cl cs3 F3 _ a (.lst (cut xs k2 k3)) from ⟨_, upd_same, r.cut k2 k3⟩) q3⟩
  · exact q3.elim
theorem n_list {a : E} {id : Str} {p1 pos : Pos} {y : Expr} (O : XOk C T Cl X) (h0 : id = "list") (h1 : glB X.env.scope id = true) (hy : notStar y = true) (ha : SE C Cl X true a y) : SN C Cl X (.listOf a) (.Call (.Name id p1) [y] [] pos) := fun ρ h Q σ cs F H R S V w p => by
  simp only [WpN] at w
  subst h0
  refine we_of (pe_callTy call_list_of (glB_ok h1) (O.blt _ (by decide +kernel)) (by decide +kernel) (pa_cons pe_we pa_nil (star_cons hy _ _)) (by decide +kernel) (by decide +kernel) (star_cons hy _ _)) ?_
  refine ha _ _ _ _ _ _ _ _ S V w fun v1 d1 cs1 F1 H1 h1 x1 S1 r1 q1 => ?_
  split at q1
  · rename_i xs hv
    obtain ⟨a, vs, rfl, hq, r⟩ := r1.viewT S1 hv
    exact ⟨a, vs, rfl, hq, fun a ha => (p.lift x1).made S1 ha (show COk X.K Cl cs1 F1 _ a (.lst xs) from ⟨_, upd_same, r⟩) q1⟩
  · exact q1.elim
theorem n_cat {a c : E} {l r : Expr} {pos : Pos} (ha : SE C Cl X true a l) (hc : SE C Cl X true c r) : SN C Cl X (.cat a c) (.BinOp l .Add r pos) := fun ρ h Q σ cs F H R S V w p => by
  simp only [WpN] at w
  refine we_of (pe_op op_cat pe_we pe_we) (ha _ _ _ _ _ _ _ _ S V w fun v1 d1 cs1 F1 H1 h1 x1 S1 r1 q1 => ?_)
  refine hc _ _ _ _ _ _ _ _ S1 (V.step x1) q1 fun v2 d2 cs2 F2 H2 h2 x2 S2 r2 q2 => ?_
  split at q2
  · rename_i xs ys hx hy
    obtain ⟨a1, vs, rfl, e1, t1⟩ := (r1.step x2).viewW S2 hx
    obtain ⟨a2, ws, rfl, e2, t2⟩ := r2.viewW S2 hy
    exact ⟨a1, a2, vs, ws, rfl, rfl, e1, e2, by rw [t1.length, t2.length]; exact q2.1, fun a ha => (p.lift (x1.trans x2)).made S2 ha (show COk X.K Cl cs2 F2 _ a (.lst (xs ++ ys)) from ⟨_, upd_same, t1.append t2⟩) q2.2⟩
  · exact q2.elim

theorem n_rev {a : E} {l : Expr} {k : Nat} {p1 p2 p3 pos : Pos} (ha : SE C Cl X true a l) : SN C Cl X (.rev a) (.Subscript l (.Slice none none (some (.UnaryOp .USub (.Constant (.int 1) k p1) p2)) p3) pos) := fun ρ h Q σ cs F H R S V w p => by
  simp only [WpN] at w
  refine we_of (pe_revL pe_we) (ha _ _ _ _ _ _ _ _ S V w fun v1 d1 cs1 F1 H1 h1 x1 S1 r1 q1 => ?_)
  split at q1
  · rename_i xs hv
    obtain ⟨a, vs, rfl, hq, r⟩ := r1.view S1 hv
    exact ⟨a, vs, rfl, hq, fun a ha => (p.lift x1).made S1 ha (show COk X.K Cl cs1 F1 _ a (.lst xs.reverse) from ⟨_, upd_same, r.rev⟩) q1⟩
  · exact q1.elim

/-! ### what is walked -/
/-- from where the walk began: st, also through what the frame owns -/
def Rl (st : Bool) (cs : List Addr) (F H : Hp) (cs' : List Addr) (F' H' : Hp) : Prop := match st with
  | true => Stp cs F H cs' F' H'
  | false => Ex F F' ∧ ∃ r, cs' = cs ++ r
theorem Rl.of {st : Bool} (x : Stp cs F H cs' F' H') : Rl st cs F H cs' F' H' := by
  cases st with
  | true => exact x
  | false => exact ⟨x.f, x.c⟩
def IOk (K : PySem.W.Frag) (Cl : Nat → Addr) (st : Bool) (cs : List Addr) (F H : Hp) (Q : List AV → (AHeap → Prop) → AHeap → Prop) (R : L2.It → Hp → Prop) : Prop :=
  ∀ J items chk G Y cs' F' H' h', Stp cs F H cs' F' H' → StOk K Cl cs' F' H' h' → L2.Walk J items.length G Y →
    (∀ cs2 F2 H2 h2, Rl st cs' F' H' cs2 F2 H2 → StOk K Cl cs2 F2 H2 h2 → chk h2 → G H2) →
    (∀ i H2 v H3 cs2 F2 h2 d, StOk K Cl cs2 F2 H2 h2 → Ex F' F2 → (∃ r, cs2 = cs' ++ r) → items[i]? = some d → chk h2 → Y i H2 v H3 → ∃ F3, Stp cs2 F2 H2 cs2 F3 H3 ∧ StOk K Cl cs2 F3 H3 h2 ∧ Rep K cs2 F3 v d) →
    Q items chk h' → R J H'
def WI (X : Cx) (tg iter : Expr) : TI := fun σ H R => ∀ pins s, Inv X pins σ H s → wpAny (model X.prog X.w) X.A (eval iter X.env) (fun v s1 => wpAny (model X.prog X.w) X.A (pyIter v) (PIE X pins σ tg R) X.xe s1) X.xe s
theorem pi_we {tg iter : Expr} : PI X tg iter (WI X tg iter) := ⟨fun pins s σ H R I h => h pins s I⟩
theorem wi_of {tg iter : Expr} {t : TI} (p : PI X tg iter t) {σ : L2.St} {H : Hp} {R : L2.It → Hp → Prop} (h : t σ H R) : WI X tg iter σ H R := fun pins s I => p.run pins s σ H R I h
def SI (C : Ctx) (Cl : Nat → Addr) (X : Cx) (st : Bool) (tg : Expr) (e : It) (x : Expr) : Prop := ∀ ρ h Q σ cs F H (R : L2.It → Hp → Prop), StOk X.K Cl cs F H h → EnvOk X.K Cl cs F H σ ρ → WpI C e ρ h Q → IOk X.K Cl st cs F H Q R → WI X tg x σ H R
theorem i_rng1 {st : Bool} {tg : Expr} {a : E} {id : Str} {p1 pos : Pos} {y : Expr} (O : XOk C T Cl X) (h0 : id = "range") (h1 : glB X.env.scope id = true) (hy : notStar y = true) (ha : SE C Cl X false a y) : SI C Cl X st tg (.rng1 a) (.Call (.Name id p1) [y] [] pos) := fun ρ h Q σ cs F H R S V w p => by
  simp only [WpI] at w
  subst h0
  refine wi_of (pi_range1 (glB_ok h1) (O.blt _ (by decide +kernel)) (pa_cons pe_we pa_nil (star_cons hy _ _)) (star_cons hy _ _)) ?_
  refine ha _ _ _ _ _ _ _ _ S V w fun v1 d1 cs1 F1 H1 h1 x1 S1 r1 q1 => ?_
  split at q1
  · rename_i n
    cases r1.int
    refine ⟨n, rfl, q1.1.1, q1.1.2, p _ _ _ (fun _ => True) (YFn fun i => .int (0 + i)) _ _ _ _ x1 S1 (by rw [List.length_map, List.length_range]; exact walk_range) (fun _ _ _ _ _ _ _ => trivial) ?_ q1.2⟩
    intro i H2 v H3 cs2 F2 h2 d S e c hd _ ⟨y1, y2⟩
    subst y1 y2
    rw [List.getElem?_map] at hd
    obtain ⟨j, hj, rfl⟩ := Option.map_eq_some_iff.mp hd
    have hj' := (List.getElem?_eq_some_iff.mp hj).2
    simp at hj'
    subst hj'
    refine ⟨F2, .refl, S, ?_⟩
    show Rep X.K cs2 F2 (.int (0 + (i : Int))) (.int (i : Int))
    rw [Int.zero_add]
    exact .int _
  · exact q1.elim
theorem i_rng2 {st : Bool} {tg : Expr} {a c : E} {id : Str} {p1 pos : Pos} {y z : Expr} (O : XOk C T Cl X) (h0 : id = "range") (h1 : glB X.env.scope id = true) (hy : notStar y = true) (hz : notStar z = true) (ha : SE C Cl X false a y) (hc : SE C Cl X false c z) :
    SI C Cl X st tg (.rng2 a c) (.Call (.Name id p1) [y, z] [] pos) := fun ρ h Q σ cs F H R S V w p => by
  simp only [WpI] at w
  subst h0
  refine wi_of (pi_range2 (glB_ok h1) (O.blt _ (by decide +kernel)) (pa_cons pe_we (pa_cons pe_we pa_nil (star_cons hz _ _)) (star_cons hy _ _)) (by rw [star_cons hy, star_cons hz]; rfl) (star_cons hz _ _)) ?_
  refine ha _ _ _ _ _ _ _ _ S V w fun v1 d1 cs1 F1 H1 h1 x1 S1 r1 q1 => ?_
  refine hc _ _ _ _ _ _ _ _ S1 (V.step x1) q1 fun v2 d2 cs2 F2 H2 h2 x2 S2 r2 q2 => ?_
  split at q2
  · rename_i i0 n
    cases r1.int
    cases r2.int
    refine ⟨i0, n, rfl, q2.1, p _ _ _ (fun _ => True) (YFn fun i => .int (i0 + i)) _ _ _ _ (x1.trans x2) S2 (by simpa using walk_range) (fun _ _ _ _ _ _ _ => trivial) ?_ q2.2⟩
    intro i H2 v H3 cs2 F2 h2 d S e c hd _ ⟨y1, y2⟩
    subst y1 y2
    rw [List.getElem?_map] at hd
    obtain ⟨j, hj, rfl⟩ := Option.map_eq_some_iff.mp hd
    have hj' := (List.getElem?_eq_some_iff.mp hj).2
    simp at hj'
    subst hj'
    exact ⟨F2, .refl, S, .int _⟩
  · exact q2.elim
theorem i_chars {st : Bool} {tg : Expr} {a : E} {x : Expr} (ha : SE C Cl X false a x) : SI C Cl X st tg (.chars a) x := fun ρ h Q σ cs F H R S V w p => by
  simp only [WpI] at w
  refine wi_of (pi_str pe_we) (ha _ _ _ _ _ _ _ _ S V w fun v1 d1 cs1 F1 H1 h1 x1 S1 r1 q1 => ?_)
  split at q1
  · rename_i z
    cases r1.str
    refine ⟨z, rfl, p _ _ _ (fun _ => True) _ _ _ _ _ x1 S1 (by simpa using walk_str) (fun _ _ _ _ _ _ _ => trivial) ?_ q1⟩
    intro i H2 v H3 cs2 F2 h2 d S e c hd _ ⟨y1, cc, y2, y3⟩
    subst y1 y3
    rw [List.getElem?_map] at hd
    obtain ⟨j, hj, rfl⟩ := Option.map_eq_some_iff.mp hd
    have : z.cps[i]? = some j := by simpa using hj
    rw [y2] at this
    cases this
    exact ⟨F2, .refl, S, .str _⟩
  · exact q1.elim
theorem WpI_seq_vw {i : Nat} {ρ : Env} {h : AHeap} {Q} (w : WpI C (.seq (.vw i)) ρ h Q) : False := by
  simp only [WpI, WpE] at w
/-- a list or a tuple: which of the two shows where it is walked -/
theorem pi_seq {tg iter : Expr} {te : TE} (he : PE X iter te) : PI X tg iter (fun σ H R => te σ H fun x H1 => ∃ a, x = .ref a ∧ (((∃ xs, SqL X.K H1 a xs) ∧ R (Itl X.K a) H1) ∨ ((∃ xs, SqT X.K H1 a xs) ∧ R (Itt X.K a) H1))) := by
  refine ⟨fun pins s σ H R I h => ?_⟩
  refine thn (he.run pins s σ H _ I h) fun v s1 ⟨x, H1, I1, r1, a, e, q⟩ => ?_
  subst e
  rcases q with ⟨⟨xs, hq⟩, q⟩ | ⟨⟨xs, hq⟩, q⟩
  · obtain ⟨its, rv, pl, hz⟩ := I1.list hq
    cases r1
    have fresh : H1 s1.heap.objs.size = none := I1.hok.fresh (Nat.le_refl _)
    refine wpAny_pyIter_list pl.isList ⟨s1.heap.objs.size, [s1.heap.objs.size], _, Itl X.K a, H1, rfl, ?_, turn_list a _, ?_, ?_, q⟩
    · exact I1.kept (t' := s1.toks) fun _ _ z => Heap.get?_push_of_some _ z
    · exact ⟨_, Heap.get?_push_size _ rfl, rfl, rfl⟩
    · intro c hc
      obtain rfl : c = s1.heap.objs.size := by simpa using hc
      exact I1.fpOk (Nat.le_refl _) fresh
  · obtain ⟨its, rv, pl, hz⟩ := I1.tuple hq
    cases r1
    have fresh : H1 s1.heap.objs.size = none := I1.hok.fresh (Nat.le_refl _)
    refine wpAny_pyIter_tuple (show s1.heap.IsTuple a its.toArray from pl) ⟨s1.heap.objs.size, [s1.heap.objs.size], _, Itt X.K a, H1, rfl, ?_, turn_tuple a _, ?_, ?_, q⟩
    · exact I1.kept (t' := s1.toks) fun _ _ z => Heap.get?_push_of_some _ z
    · exact ⟨_, Heap.get?_push_size _ rfl, rfl, rfl⟩
    · intro c hc
      obtain rfl : c = s1.heap.objs.size := by simpa using hc
      exact I1.fpOk (Nat.le_refl _) fresh
theorem i_seq {st : Bool} {tg : Expr} {a : E} {x : Expr} (ha : SE C Cl X false a x) : SI C Cl X st tg (.seq a) x := fun ρ h Q σ cs F H R S V w p => by
  simp only [WpI] at w
  refine wi_of (pi_seq pe_we) (ha _ _ _ _ _ _ _ _ S V w fun v1 d1 cs1 F1 H1 h1 x1 S1 r1 q1 => ?_)
  split at q1
  · rename_i items hv
    have r1' := r1.plain
    rcases viewT_eq hv with e | hv'
    · subst e
      cases r1' with
      | tup g1 g2 =>
        rename_i a vs
        refine ⟨a, rfl, .inr ⟨⟨vs, ex_t S1.sub g1⟩, p _ items _ (fun H => SqT X.K H a vs) (YAt vs) _ _ _ _ x1 S1 (by rw [← g2.length]; exact walk_tup) (fun cs2 F2 H2 h2 rl S2 _ => ?_) ?_ q1⟩⟩
        · have mo : Ex F1 F2 := by
            cases st with
            | true => exact Stp.f rl
            | false => exact rl.1
          exact ex_t S2.sub (ex_t mo g1)
        · intro i H2 v H3 cs2 F2 h2 d S e c hd _ ⟨y1, y2⟩
          subst y1
          obtain ⟨v', e1, r2⟩ := g2.get hd
          rw [y2] at e1
          cases e1
          exact ⟨F2, .refl, S, r2.mono e c⟩
    · obtain ⟨a, vs, e, hq, r⟩ := r1.view S1 hv'
      have stay : ∀ cs2 F2 H2 h2, Ex F1 F2 → (∃ r, cs2 = cs1 ++ r) → StOk X.K Cl cs2 F2 H2 h2 → viewT h2 d1 = some items → ∃ vs2, SqL X.K H2 a vs2 ∧ Reps X.K cs2 F2 vs2 items := by
        intro cs2 F2 H2 h2 m1 m2 S2 hv2
        have r2 : RepB X.K cs2 F2 H2 false v1 d1 := .inl (r1'.mono m1 m2)
        have hv3 : view h2 d1 = some items := by
          rcases viewT_eq hv2 with z | z
          · subst z
            simp [VL.view] at hv'
          · exact z
        obtain ⟨a2, vs2, e2, hq2, rr⟩ := r2.view S2 hv3
        rw [e] at e2
        cases e2
        exact ⟨vs2, hq2, rr⟩
      refine ⟨a, e, .inl ⟨⟨vs, hq⟩, p (Itl X.K a) items _ (fun H => ∃ vs2, SqL X.K H a vs2 ∧ vs2.length = items.length) (fun i H v H' => H' = H ∧ ∀ vs2, SqL X.K H a vs2 → vs2[i]? = some v) _ _ _ _ x1 S1 ?_ (fun cs2 F2 H2 h2 rl S2 hc => ?_) ?_ q1⟩⟩
      · refine ⟨fun i H hi ⟨vs2, g1, g2⟩ => ⟨vs2, vs2[i], g1, by simp [hi, g2]⟩, fun H ⟨vs2, g1, g2⟩ => ⟨vs2, g1, Nat.le_of_eq g2⟩, fun i H v H' hi _ y => y⟩
      · have mo : Ex F1 F2 ∧ ∃ r, cs2 = cs1 ++ r := by
          cases st with
          | true => exact ⟨Stp.f rl, Stp.c rl⟩
          | false => exact rl
        obtain ⟨vs2, g1, g2⟩ := stay cs2 F2 H2 h2 mo.1 mo.2 S2 hc
        exact ⟨vs2, g1, g2.length⟩
      · intro i H2 v H3 cs2 F2 h2 d S2 e c hd hc ⟨y1, y2⟩
        subst y1
        obtain ⟨vs2, g1, g2⟩ := stay cs2 F2 H3 h2 e c S2 hc
        obtain ⟨v', e1, r2⟩ := g2.get hd
        rw [y2 vs2 g1] at e1
        cases e1
        exact ⟨F2, .refl, S2, r2⟩
  · exact q1.elim
theorem i_own {tg : Expr} {i : Nat} {x : Expr} (hag : agVar X.env.scope X.N i x = true) : SI C Cl X true tg (.own i) x := fun ρ h Q σ cs F H R S V w p => by
  unfold agVar at hag
  split at hag
  · rename_i id pos
    simp only [Bool.and_eq_true, decide_eq_true_eq] at hag
    obtain ⟨⟨h1, h2⟩, h3⟩ := hag
    obtain ⟨n1, n2, _⟩ := plainName_ok h3
    simp only [WpI] at w
    split at w
    · rename_i items hd
      obtain ⟨a, e1, e2, e3, vs, e4, r⟩ := V.own i _ hd
      refine wi_of (pi_list (pe_var h1 (visB_ok h2) n1 n2)) ⟨_, e1, a, rfl, ⟨vs, sq_of e4⟩, p _ items _ (fun H => SqL X.K H a vs) (YAt vs) _ _ _ _ .refl S (by rw [← r.length]; exact walk_list) (fun cs2 F2 H2 h2 rl S2 _ => ?_) ?_ w⟩
      · exact sq_of (Stp.k rl _ _ e4 e2)
      · intro j H2 v H3 cs2 F2 h2 d S2 e c hd _ ⟨y1, y2⟩
        subst y1
        obtain ⟨v', g1, r2⟩ := r.get hd
        rw [y2] at g1
        cases g1
        exact ⟨F2, .refl, S2, r2.mono e c⟩
    · exact w.elim
  · cases hag

/-! ### targets -/
def gNames : List Nat → TGs
  | [] => gNil
  | i :: is => gCons (gName i) (gNames is)
def gOf (K : PySem.W.Frag) : Tg → TG
  | .nm i => gName i
  | .tup is => gTup K is.length (gNames is)
/-- a name that may be stored to in this context -/
def Sto (sc0 : Scope) (X : Cx) : Prop := ∀ id, tgN sc0 X.env.scope id = true → Loc X.env.scope id ∧ (X.fn id = true ∨ X.env.scope.names.lookup id = some .local)
theorem pgs_names {sc0 : Scope} (nd : X.N.Nodup) (st : Sto sc0 X) : ∀ {is : List Nat} {es : List Expr}, agNames sc0 X.env.scope X.N is es = true → PGs X es (gNames is) ∧ (assignEach es X.env).length = is.length ∧ (assignEach es X.env).findIdx? (·.1) = none
  | [], [], _ => ⟨pgs_nil, rfl, rfl⟩
  | [], _ :: _, h => by simp [agNames] at h
  | i :: is, [], h => by simp [agNames] at h
  | i :: is, e :: es, h => by
    cases e <;> simp [agNames] at h
    rename_i id pos
    obtain ⟨⟨h1, h2⟩, h3⟩ := h
    obtain ⟨g1, g2, g3⟩ := pgs_names nd st h3
    obtain ⟨s1, s2⟩ := st id h2
    refine ⟨pgs_cons (pg_name nd h1 s1 s2) g1 rfl, ?_, ?_⟩
    · show (assignEach es X.env).length + 1 = is.length + 1
      rw [g2]
    · show ((false, assign (.Name id pos) X.env) :: assignEach es X.env).findIdx? (·.1) = none
      rw [List.findIdx?_cons, g3] <;> rfl
theorem pg_ok {sc0 : Scope} (nd : X.N.Nodup) (calm : X.calm = true) (st : Sto sc0 X) {tg : Tg} {x : Expr} (h : agTg sc0 X.env.scope X.N tg x = true) : PG X x (gOf X.K tg) := by
  cases tg with
  | nm i =>
    cases x <;> simp [agTg] at h
    obtain ⟨s1, s2⟩ := st _ h.2
    exact pg_name nd h.1 s1 s2
  | tup is =>
    cases x <;> simp [agTg] at h
    obtain ⟨g1, g2, g3⟩ := pgs_names nd st h
    exact pg_tup calm g1 g2 g3
theorem sets_ok {ρ' : Env} : ∀ {is : List Nat} {xs : List AV} {vs : List V} {σ : L2.St} {ρ : Env} {R : L2.St → Hp → Prop}, EnvOk K Cl cs F H σ ρ → Reps K cs F vs xs → setsS ρ is xs = some ρ' →
    (∀ σ', EnvOk K Cl cs F H σ' ρ' → (∀ own : List Nat, (∀ i ∈ is, i ∈ own) → wipe σ' own = wipe σ own) → R σ' H) → gNames is vs σ H R
  | [], [], _, σ, ρ, R, V, .nil, e, k => by
    simp [setsS] at e
    subst e
    exact ⟨rfl, k σ V fun _ _ => rfl⟩
  | [], _ :: _, _, _, _, _, _, _, e, _ => by simp [setsS] at e
  | _ :: _, [], _, _, _, _, _, _, e, _ => by simp [setsS] at e
  | i :: is, x :: xs, _, σ, ρ, R, V, .cons r rs, e, k => by
    rename_i v vs
    simp only [setsS] at e
    refine ⟨v, vs, rfl, sets_ok (V.setV r) rs e fun σ' V' hw => k σ' V' fun own ho => ?_⟩
    rw [hw own fun j hj => ho j (List.mem_cons_of_mem _ hj)]
    exact wipe_set (ho i List.mem_cons_self)
where
  wipe_set {σ : L2.St} {i : Nat} {v : Option V} : ∀ {own : List Nat}, i ∈ own → wipe (σ.set i v) own = wipe σ own
    | j :: own, h => by
      unfold wipe
      by_cases hj : i ∈ own
      · rw [wipe_set hj]
      · have e : i = j := by
          rcases List.mem_cons.mp h with e | e
          · exact e
          · exact absurd e hj
        subst e
        have : ∀ (own : List Nat) (σ : L2.St), i ∉ own → (wipe (σ.set i v) own) = (wipe σ own).set i v := by
          intro own
          induction own with
          | nil => intro σ _; rfl
          | cons k own ih =>
            intro σ hk
            unfold wipe
            rw [ih σ fun z => hk (List.mem_cons_of_mem _ z)]
            exact List.set_comm _ _ fun z => hk (z ▸ List.mem_cons_self)
        rw [this own σ hj, List.set_set]
theorem tg_ok {σ : L2.St} {ρ : Env} {tg : Tg} {d : AV} {v : V} {Q : Env → Prop} {R : L2.St → Hp → Prop} (S : StOk K Cl cs F H h) (V : EnvOk K Cl cs F H σ ρ) (r : Rep K cs F v d) (w : tgK tg d ρ Q)
    (k : ∀ σ' ρ', EnvOk K Cl cs F H σ' ρ' → (∀ own : List Nat, (∀ i ∈ tgIds tg, i ∈ own) → wipe σ' own = wipe σ own) → Q ρ' → R σ' H) : gOf K tg v σ H R := by
  cases tg with
  | nm i =>
    exact k _ _ (V.setV r) (fun own ho => sets_ok.wipe_set (ho i (by simp [tgIds]))) w
  | tup is =>
    unfold tgK at w
    simp only at w
    split at w
    · rename_i xs
      split at w
      · rename_i ρ' hs
        cases r with
        | tup g1 g2 =>
          rename_i a vs
          refine ⟨a, vs, rfl, ex_t S.sub g1, ?_, sets_ok V g2 hs fun σ' V' hw => k σ' ρ' V' hw w⟩
          have : ∀ {is : List Nat} {xs : List AV} {ρ : Env}, setsS ρ is xs = some ρ' → xs.length = is.length := by
            intro is
            induction is with
            | nil => intro xs ρ h; cases xs <;> simp [setsS] at h ⊢
            | cons i is ih => intro xs ρ h; cases xs <;> simp [setsS] at h ⊢; exact ih h
          rw [g2.length, this hs]
      · exact w.elim
    · exact w.elim

/-! ### comprehensions -/
def WEb (X : Cx) (scope : Scope) (e : Expr) : TE := fun σ H Q => ∀ (s : Shared) (H0 : Hp) (D : Addr) (cl : List (Str × Addr)) (fp : List Addr), WE (X.blk s H0 scope (compEnvC scope cl D X.env) fp) e σ H Q
def WTb (X : Cx) (scope : Scope) (e : Expr) : TT := fun σ H Q => ∀ (s : Shared) (H0 : Hp) (D : Addr) (cl : List (Str × Addr)) (fp : List Addr), WT (X.blk s H0 scope (compEnvC scope cl D X.env) fp) e σ H Q
/-- a test of a comprehension: none, or one -/
def WCb (X : Cx) (scope : Scope) : List Expr → TT
  | [] => tYes
  | c :: _ => WTb X scope c
theorem sto_blk {X : Cx} {scope : Scope} (s : Shared) (H0 : Hp) (D : Addr) (cl : List (Str × Addr)) (fp : List Addr) : Sto scope (X.blk s H0 scope (compEnvC scope cl D X.env) fp) := fun id h => by
  unfold tgN at h
  simp only [Bool.or_eq_true, Bool.and_eq_true, decide_eq_true_eq] at h
  rcases h with ⟨h1, h2⟩ | ⟨h1, h2⟩
  · exact ⟨.inl h2, .inr h2⟩
  · refine ⟨.inr h2, .inl ?_⟩
    show (scope.names.lookup id == some .cell) = true
    rw [h1]; rfl
theorem Stp.chgNew {p : Addr} {o : HO} (x : Stp cs F H cs' F' H') (hp : H p = none) : Stp cs F H cs' F' (upd H' p o) := by
  refine ⟨x.f, x.c, fun b u q n => ?_, fun b q => ?_, x.n, x.m⟩
  · rw [upd_ne fun z => by subst z; rw [hp] at q; cases q]
    exact x.k b u q n
  · by_cases hb : b = p
    · subst hb; rw [upd_same]; simp
    · rw [upd_ne hb]; exact x.d b q
theorem wipe_in {i : Nat} : ∀ {own : List Nat} (σ : L2.St), i ∈ own → (wipe σ own)[i]? = if i < σ.length then some none else none
  | j :: own, σ, hi => by
    unfold wipe
    by_cases hj : j = i
    · subst hj
      rw [List.getElem?_set]
      simp [wipe_length]
    · rw [List.getElem?_set_ne hj]
      exact wipe_in σ (by simpa [Ne.symm hj] using hi)
theorem wipe_idem {σ : L2.St} {own : List Nat} : wipe (wipe σ own) own = wipe σ own := by
  apply List.ext_getElem?
  intro i
  by_cases hi : i ∈ own
  · rw [wipe_in _ hi, wipe_in _ hi, wipe_length]
  · rw [wipe_out hi]
def compB (C : Ctx) (elt : E) (tg : Tg) (cond : Oe) (own : List Nat) (ρ : Env) : AV → AHeap → (Option AV → AHeap → Prop) → Prop := fun x h2 R => tgK tg x (wipeS ρ own) fun ρ2 => WpC C cond ρ2 h2 fun k h3 =>
  if k = true then WpE C false elt ρ2 h3 fun y h4 => R (some y) h4 else R none h3
/-- what stands between two turns of a comprehension -/
def CInv (K : PySem.W.Frag) (Cl : Nat → Addr) (cs1 : List Addr) (F1 H1 : Hp) (B : AV → AHeap → (Option AV → AHeap → Prop) → Prop) (chk : AHeap → Prop) (items : List AV) (Q : List AV → AHeap → Prop) (D : Addr) (i : Nat) (H' : Hp) : Prop :=
  ∃ cs2 F2 h2 acc vs, Stp cs1 F1 H1 cs2 F2 H' ∧ StOk K Cl cs2 F2 H' h2 ∧ H' D = some (.lst vs) ∧ Reps K cs2 F2 vs acc ∧ D ∉ cs2 ∧ F2 D = none ∧ acc.length ≤ i ∧ compL B chk (items.drop i) acc h2 Q
theorem n_comp {elt : E} {tg : Tg} {it : It} {cond : Oe} {own : List Nat} {y t i : Expr} {ifs : List Expr} {scope : Scope} {pos : Pos} (O : XOk C T Cl X) (hb : BlkOk X.N X.env.scope scope (ownP X.N own)) (ho : ∀ i ∈ tgIds tg, i ∈ own)
    (ht : agTg scope (relS scope X.env.scope) X.N tg t = true) (hi : SI C Cl X true t it i) (hs : notSet i = true) (he : ∀ s H0 D cl fp, SE C Cl (X.blk s H0 scope (compEnvC scope cl D X.env) fp) false elt y)
    (hc : (ifs = [] ∧ cond = .no) ∨ ∃ c e, ifs = [c] ∧ cond = .so e ∧ ∀ s H0 D cl fp, ST C Cl (X.blk s H0 scope (compEnvC scope cl D X.env) fp) e c) : ∀ ρ h Q σ cs F H R, StOk X.K Cl cs F H h → EnvOk X.K Cl cs F H σ ρ → WpN C (.comp elt tg it cond own) ρ h Q → NOk X.K Cl cs F H Q R →
      tLc (WI X t i) (gOf X.K tg) (WCb X scope ifs) (WEb X scope y) own σ H R := fun ρ h Q σ cs F H R S V w p => by
  simp only [WpN] at w
  unfold tLc
  refine hi _ _ _ _ _ _ _ _ S V w fun J items chk G Y cs1 F1 H1 h1 x1 S1 wk hG hY q1 => ?_
  obtain ⟨hlen, q1⟩ := q1
  intro D hD
  have hF1 : F1 D = none := by
    cases w : F1 D with
    | none => rfl
    | some u => rw [S1.sub _ _ w] at hD; cases hD
  have hc1 : D ∉ cs1 := fun z => by
    obtain ⟨n, hn⟩ := List.mem_iff_getElem?.mp z
    exact (S1.cell n D hn).some hD
  refine lc_it wk (CInv X.K Cl cs1 F1 H1 (compB C elt tg cond own ρ) chk items (fun acc h2 => Q (.lst acc) h2) D) ?_ ?_ ?_ ?_
  · exact ⟨cs1, F1, h1, [], [], .newN hD, S1.newN hD, upd_same, .nil, hc1, hF1, Nat.le_refl _, q1⟩
  · rintro j H' hj ⟨cs2, F2, h2, acc, vs, x2, S2, e1, e2, e3, e4, e5, e6⟩
    refine hG cs2 F2 H' h2 x2 S2 ?_
    cases hd : items.drop j with
    | nil => rw [hd] at e6; exact e6.1
    | cons d r => rw [hd] at e6; exact e6.1
  · rintro j v H' H3 hj ⟨cs2, F2, h2, acc, vs, x2, S2, e1, e2, e3, e4, e5, e6⟩ hy
    rw [List.drop_eq_getElem_cons hj] at e6
    obtain ⟨ck, e6⟩ := e6
    obtain ⟨F3, x3, S3, rv⟩ := hY j H' v H3 cs2 F2 h2 _ S2 x2.f x2.c (List.getElem?_eq_getElem hj) ck hy
    have V3 : EnvOk X.K Cl cs2 F3 H3 σ ρ := V.step ((x1.trans x2).trans x3)
    refine tg_ok S3 (V3.wipe own) rv e6 fun σ4 ρ4 V4 hw e7 => ⟨by rw [hw own ho, wipe_idem], ?_⟩
    have d3 : H3 D = some (.lst vs) := x3.k _ _ e1 e3
    have n3 : F3 D = none := by
      cases w : F3 D with
      | none => rfl
      | some o =>
        have z := x3.n D e4 (by rw [w]; simp)
        rw [e1] at z; cases z
    have x13 : Stp cs1 F1 H1 cs2 F3 H3 := x2.trans x3
    -- the test
    have test : ∀ {R2 : Bool → Hp → Prop}, BOk X.K Cl cs2 F3 H3 (fun k h3 => if k = true then WpE C false elt ρ4 h3 fun y h4 => compL (compB C elt tg cond own ρ) chk (items.drop (j + 1)) (acc ++ [y]) h4 (fun acc h2 => Q (.lst acc) h2) else compL (compB C elt tg cond own ρ) chk (items.drop (j + 1)) acc h3 (fun acc h2 => Q (.lst acc) h2)) R2 → WCb X scope ifs σ4 H3 R2 := by
      intro R2 post
      rcases hc with ⟨rfl, rfl⟩ | ⟨c, e, rfl, rfl, hc⟩
      · simp only [WpC] at e7
        exact post _ _ _ _ _ .refl S3 e7
      · simp only [WpC] at e7
        intro s H0 D' cl fp
        exact hc s H0 D' cl fp _ _ _ _ _ _ _ _ S3 V4 e7 post
    refine test fun k cs4 F4 H4 h4 x4 S4 q4 => ?_
    have d4 : H4 D = some (.lst vs) := x4.k _ _ d3 e3
    have n4 : F4 D = none := by
      cases w : F4 D with
      | none => rfl
      | some o =>
        have z := x4.n D n3 (by rw [w]; simp)
        rw [d3] at z; cases z
    have c4 : D ∉ cs4 := fun z => by
      have := x4.m D z e3
      rw [d3] at this; cases this
    cases k with
    | false =>
      rw [if_neg Bool.false_ne_true] at q4 ⊢
      exact ⟨cs4, F4, h4, acc, vs, x13.trans x4, S4, d4, (e2.mono (x3.trans x4).f (x3.trans x4).c), c4, n4, by omega, q4⟩
    | true =>
      rw [if_pos rfl] at q4 ⊢
      intro s H0 D' cl fp
      refine he s H0 D' cl fp _ _ _ _ _ _ _ _ S4 (V4.step x4) q4 fun v5 d5 cs5 F5 H5 h5 x5 S5 r5 q5 => ?_
      have d5' : H5 D = some (.lst vs) := x5.k _ _ d4 c4
      have n5 : F5 D = none := by
        cases w : F5 D with
        | none => rfl
        | some o =>
          have z := x5.n D n4 (by rw [w]; simp)
          rw [d4] at z; cases z
      have c5 : D ∉ cs5 := fun z => by
        have := x5.m D z c4
        rw [d4] at this; cases this
      have x35 := (x3.trans x4).trans x5
      have lv : vs.length = acc.length := e2.length
      refine ⟨vs, d5', by omega, cs5, F5, h5, acc ++ [d5], vs ++ [v5], ((x13.trans x4).trans x5).chgNew hD, S5.chgN n5 c5, upd_same, (e2.mono x35.f x35.c).append (.cons r5.plain .nil), c5, n5, by rw [List.length_append, List.length_singleton]; omega, q5⟩
  · rintro H' ⟨cs2, F2, h2, acc, vs, x2, S2, e1, e2, e3, e4, e5, e6⟩
    rw [List.drop_of_length_le (Nat.le_refl _)] at e6
    exact p D (.lst acc) cs2 F2 H' h2 (x1.trans x2) S2 (x1.fresh hD) e4 e3 ⟨vs, e1, e2⟩ e6.2
end
end VL

set_option maxRecDepth 100000
set_option maxHeartbeats 4000000
/-! VL: every expression that agrees with the text. -/
namespace VL
open PySem L2 Evl PyProof.Rows PySem.Spec

section
variable {C : Ctx} {T : Tab} {Cl : Nat → Addr}
theorem agEs_all {sc : Scope} {N : List Str} : ∀ {es : Es} {xs : List Expr}, agEs T sc N es xs = true → xs.all notStar = true ∧ (xs = [] → es = .nil)
  | .nil, [], _ => ⟨rfl, fun _ => rfl⟩
  | .nil, _ :: _, h => by simp [agEs] at h
  | .cons e es, [], h => by simp [agEs] at h
  | .cons e es, x :: xs, h => by
    simp only [agEs, Bool.and_eq_true] at h
    refine ⟨?_, fun z => by cases z⟩
    rw [List.all_cons, h.1.2, (agEs_all h.2).1]; rfl
theorem agC_so {sc : Scope} {N : List Str} {e : Oe} {c : Expr} (h : agC T sc N e c = true) : ∃ e', e = .so e' := by
  cases e with
  | no => simp [agC] at h
  | so e => exact ⟨e, rfl⟩
/-- what a comprehension of the text must show -/
structure CompOk (C : Ctx) (T : Tab) (Cl : Nat → Addr) (X : Cx) (elt : E) (tg : Tg) (it : It) (cond : Oe) (own : List Nat) (y t i : Expr) (ifs : List Expr) (scope : Scope) : Prop where
  hb : BlkOk X.N X.env.scope scope (ownP X.N own)
  ho : ∀ i ∈ tgIds tg, i ∈ own
  ht : agTg scope (relS scope X.env.scope) X.N tg t = true
  hi : SI C Cl X true t it i
  hs : notSet i = true
  he : ∀ s H0 D cl fp, SE C Cl (X.blk s H0 scope (compEnvC scope cl D X.env) fp) false elt y
  hc : (ifs = [] ∧ cond = .no) ∨ ∃ c e, ifs = [c] ∧ cond = .so e ∧ ∀ s H0 D cl fp, ST C Cl (X.blk s H0 scope (compEnvC scope cl D X.env) fp) e c
section
variable {X : Cx} {elt : E} {tg : Tg} {it : It} {cond : Oe} {own : List Nat} {y t i : Expr} {ifs : List Expr} {scope : Scope}
theorem CompOk.pg (K : CompOk C T Cl X elt tg it cond own y t i ifs scope) (O : XOk C T Cl X) : ∀ (s : Shared) (H0 : Hp) (D : Addr) (cl : List (Str × Addr)) (fp : List Addr), PG (X.blk s H0 scope (compEnvC scope cl D X.env) fp) t (gOf X.K tg) := fun s H0 D cl fp =>
  pg_ok (X := X.blk s H0 scope (compEnvC scope cl D X.env) fp) O.nd O.calm (sto_blk s H0 D cl fp) K.ht
theorem CompOk.pts (K : CompOk C T Cl X elt tg it cond own y t i ifs scope) : ∀ (s : Shared) (H0 : Hp) (D : Addr) (cl : List (Str × Addr)) (fp : List Addr), PTs (X.blk s H0 scope (compEnvC scope cl D X.env) fp) ifs (WCb X scope ifs) := fun s H0 D cl fp => by
  rcases K.hc with ⟨rfl, _⟩ | ⟨c, e, rfl, _, _⟩
  · exact pts_nil
  · exact pts_one ⟨fun pins s' σ H Q I h => h s H0 D cl fp pins s' I⟩
theorem CompOk.pe (K : CompOk C T Cl X elt tg it cond own y t i ifs scope) : ∀ (s : Shared) (H0 : Hp) (D : Addr) (cl : List (Str × Addr)) (fp : List Addr), PE (X.blk s H0 scope (compEnvC scope cl D X.env) fp) y (WEb X scope y) := fun s H0 D cl fp =>
  ⟨fun pins s' σ H Q I h => h s H0 D cl fp pins s' I⟩
theorem CompOk.reads (K : CompOk C T Cl X elt tg it cond own y t i ifs scope) (O : XOk C T Cl X) : ∀ ρ h Q σ cs F H R, StOk X.K Cl cs F H h → EnvOk X.K Cl cs F H σ ρ → WpN C (.comp elt tg it cond own) ρ h Q → NOk X.K Cl cs F H Q R →
    tLc (WI X t i) (gOf X.K tg) (WCb X scope ifs) (WEb X scope y) ((ownP X.N own).map (·.2)) σ H R := by
  rw [ownP_ids]
  exact n_comp O K.hb K.ho K.ht K.hi K.hs K.he K.hc (pos := ⟨0, 0, 0, 0⟩)
theorem CompOk.sn (K : CompOk C T Cl X elt tg it cond own y t i ifs scope) (O : XOk C T Cl X) {pos : Pos} : SN C Cl X (.comp elt tg it cond own) (.ListComp y [⟨t, i, ifs, 0⟩] scope pos) := fun ρ h Q σ cs F H R S V w p =>
  we_of (pe_lc O.calm O.nd pi_we K.hb (K.pg O) K.pts K.pe (folded_of K.hs _)) (K.reads O ρ h Q σ cs F H R S V w p)
end

mutual
theorem sE : ∀ (e : E) (b : Bool) (x : Expr) (X : Cx), XOk C T Cl X → agE T X.env.scope X.N e x = true → SE C Cl X b e x
  | .var i, b, x, X, O, h => s_var (by simpa only [agE] using h)
  | .vw i, b, x, X, O, h => s_vw (by simpa only [agE] using h)
  | .cint i, b, x, X, O, h => fun ρ h' Q σ cs F H R S V w p => by
    simp only [agE] at h
    split at h
    · have e := of_decide_eq_true h
      subst e
      simp only [WpE] at w
      exact we_of pe_int (p _ _ _ _ _ _ .refl S (.inl (.int i)) w)
    · cases h
  | .cstr i, b, x, X, O, h => fun ρ h' Q σ cs F H R S V w p => by
    simp only [agE] at h
    split at h
    · have e := of_decide_eq_true h
      subst e
      simp only [WpE] at w
      exact we_of pe_str (p _ _ _ _ _ _ .refl S (.inl (.str i)) w)
    · cases h
  | .cbl i, b, x, X, O, h => fun ρ h' Q σ cs F H R S V w p => by
    simp only [agE] at h
    split at h
    · have e := of_decide_eq_true h
      subst e
      simp only [WpE] at w
      exact we_of pe_bl (p _ _ _ _ _ _ .refl S (.inl (.bl i)) w)
    · cases h
  | .cnon, b, x, X, O, h => fun ρ h' Q σ cs F H R S V w p => by
    simp only [agE] at h
    split at h
    · simp only [WpE] at w
      exact we_of pe_non (p _ _ _ _ _ _ .refl S (.inl .non) w)
    · cases h
  | .glob g, b, x, X, O, h => by
    simp only [agE] at h
    split at h
    · simp only [Bool.and_eq_true, decide_eq_true_eq] at h
      exact s_glob O h.1.1 h.1.2 h.2
    · cases h
  | .bin op a c, b, x, X, O, h => by
    simp only [agE] at h
    split at h
    · simp only [Bool.and_eq_true, decide_eq_true_eq] at h
      obtain ⟨⟨rfl, h1⟩, h2⟩ := h
      exact s_bin (sE a false _ X O h1) (sE c false _ X O h2)
    · cases h
  | .neg a, b, x, X, O, h => by
    simp only [agE] at h
    split at h
    · exact s_neg (sE a false _ X O h)
    · cases h
  | .not a, b, x, X, O, h => by
    simp only [agE] at h
    split at h
    · exact s_not (sE a false _ X O h)
    · cases h
  | .cmp op a c, b, x, X, O, h => by
    simp only [agE] at h
    split at h
    · simp only [Bool.and_eq_true, decide_eq_true_eq, Bool.not_eq_true'] at h
      obtain ⟨⟨⟨rfl, h1⟩, h2⟩, h3⟩ := h
      exact s_cmp O (sE a true _ X O h1) (sE c true _ X O h2) h3
    · cases h
  | .chain o1 o2 a c d, b, x, X, O, h => by
    simp only [agE] at h
    split at h
    · simp only [Bool.and_eq_true, decide_eq_true_eq, Bool.not_eq_true'] at h
      obtain ⟨⟨⟨⟨⟨rfl, rfl⟩, h1⟩, h2⟩, h3⟩, h4⟩ := h
      exact s_chain O (sE a false _ X O h1) (sE c false _ X O h2) (sE d false _ X O h3) h4
    · cases h
  | .and a c, b, x, X, O, h => by
    simp only [agE] at h
    split at h
    · simp only [Bool.and_eq_true] at h
      exact s_and (sE a false _ X O h.1) (sE c false _ X O h.2)
    · cases h
  | .or a c, b, x, X, O, h => by
    simp only [agE] at h
    split at h
    · simp only [Bool.and_eq_true] at h
      exact s_or (sE a false _ X O h.1) (sE c false _ X O h.2)
    · cases h
  | .ite c a d, b, x, X, O, h => by
    simp only [agE] at h
    split at h
    · simp only [Bool.and_eq_true] at h
      exact s_ite (sT c _ X O h.1.1) (sE a false _ X O h.1.2) (sE d false _ X O h.2)
    · cases h
  | .tup es, b, x, X, O, h => by
    simp only [agE] at h
    split at h
    · exact s_tup (sEs es _ X O h)
    · cases h
  | .fz n, b, x, X, O, h => s_fz (sN n x X O (by simpa only [agE] using h))
  | .new n, b, x, X, O, h => s_new (sN n x X O (by simpa only [agE] using h))
  | .sub a i, b, x, X, O, h => by
    simp only [agE] at h
    split at h
    · simp only [Bool.and_eq_true] at h
      exact s_sub O (sE a true _ X O h.1.1) (sE i false _ X O h.1.2) h.2
    · cases h
  | .slice a lo hi, b, x, X, O, h => by
    simp only [agE] at h
    split at h
    · simp only [Bool.and_eq_true] at h
      exact s_slice (sE a false _ X O h.1.1) (sO lo _ X O h.1.2) (sO hi _ X O h.2)
    · cases h
  | .call f es, b, x, X, O, h => by
    simp only [agE] at h
    split at h
    · simp only [Bool.and_eq_true, decide_eq_true_eq] at h
      obtain ⟨⟨⟨h0, h1⟩, h2⟩, h3⟩ := h
      obtain ⟨q1, q2⟩ := agEs_all h3
      exact s_call O h0 h1 h2 q1 q2 (sEs es _ X O h3)
    · cases h
  | .blt bt es, b, x, X, O, h => by
    simp only [agE] at h
    split at h
    · simp only [Bool.and_eq_true, decide_eq_true_eq] at h
      obtain ⟨⟨h0, h1⟩, h3⟩ := h
      exact s_blt O h0 h1 (agEs_all h3).1 (sBs es _ X O h3)
    · cases h
  | .isi a t, b, x, X, O, h => by
    simp only [agE] at h
    split at h
    · simp only [Bool.and_eq_true, decide_eq_true_eq] at h
      obtain ⟨⟨⟨⟨⟨⟨h0, h1⟩, h2⟩, h3⟩, h4⟩, h5⟩, h6⟩ := h
      exact s_isi O h0 h1 h2 h3 h6 h5 (sE a true _ X O h4)
    · cases h
  | .smt m o a, b, x, X, O, h => by
    simp only [agE] at h
    split at h
    · simp only [Bool.and_eq_true] at h
      obtain ⟨⟨⟨⟨⟨h0, h1⟩, h2⟩, h3⟩, h4⟩, h5⟩ := h
      exact s_smt h0 (sE o false _ X O h1) (sE a true _ X O h2) h3 h4 h5
    · cases h
  | .attr a f, b, x, X, O, h => by
    simp only [agE] at h
    split at h
    · simp only [Bool.and_eq_true, decide_eq_true_eq] at h
      obtain ⟨⟨rfl, h1⟩, h2⟩ := h
      exact s_attr O (sE a false _ X O h1) h2
    · cases h
  | .mcall o m es, b, x, X, O, h => by
    simp only [agE] at h
    split at h
    · simp only [Bool.and_eq_true, decide_eq_true_eq] at h
      obtain ⟨⟨⟨⟨⟨rfl, h1⟩, h2⟩, h3⟩, h4⟩, h5⟩ := h
      exact s_mcall O (sE o false _ X O h1) h3 h4 (agEs_all h2).1 h5 (agEs_all h2).2 (sEs es _ X O h2)
    · cases h
  | .make c es, b, x, X, O, h => by
    simp only [agE] at h
    split at h
    · simp only [Bool.and_eq_true, decide_eq_true_eq] at h
      obtain ⟨⟨⟨h0, h1⟩, h2⟩, h3⟩ := h
      exact s_make O h0 h1 h2 (agEs_all h3).1 (sEs es _ X O h3)
    · cases h
  | .tru a, b, x, X, O, h => fun ρ h' Q σ cs F H R S V w p => by simp only [WpE] at w
theorem sT : ∀ (e : E) (x : Expr) (X : Cx), XOk C T Cl X → agE T X.env.scope X.N e x = true → ST C Cl X e x
  | .and a c, x, X, O, h => by
    simp only [agE] at h
    split at h
    · simp only [Bool.and_eq_true] at h
      exact s_andT (sT a _ X O h.1) (sT c _ X O h.2)
    · cases h
  | .or a c, x, X, O, h => by
    simp only [agE] at h
    split at h
    · simp only [Bool.and_eq_true] at h
      exact s_orT (sT a _ X O h.1) (sT c _ X O h.2)
    · cases h
  | .not a, x, X, O, h => by
    simp only [agE] at h
    split at h
    · exact s_notT (sT a _ X O h)
    · cases h
  | .cmp op a c, x, X, O, h => by
    simp only [agE] at h
    split at h
    · simp only [Bool.and_eq_true, decide_eq_true_eq, Bool.not_eq_true'] at h
      obtain ⟨⟨⟨rfl, h1⟩, h2⟩, h3⟩ := h
      exact s_cmpT O (sE a true _ X O h1) (sE c true _ X O h2) h3
    · cases h
  | .chain o1 o2 a c d, x, X, O, h => by
    simp only [agE] at h
    split at h
    · simp only [Bool.and_eq_true, decide_eq_true_eq, Bool.not_eq_true'] at h
      obtain ⟨⟨⟨⟨⟨rfl, rfl⟩, h1⟩, h2⟩, h3⟩, h4⟩ := h
      exact s_chainT O (sE a false _ X O h1) (sE c false _ X O h2) (sE d false _ X O h3) h4
    · cases h
  | .tru a, x, X, O, h => by
    simp only [agE, Bool.and_eq_true] at h
    exact s_truT (sE a false _ X O h.1) h.2
  | .cbl k, x, X, O, h => fun ρ h' Q σ cs F H R S V w p => by
    simp only [agE] at h
    split at h
    · have e := of_decide_eq_true h
      subst e
      simp only [WpT] at w
      exact wt_of (pt_truth pe_bl (plainT_ok rfl _)) ⟨_, rfl, p _ _ _ _ _ .refl S w⟩
    · cases h
  | .var _, _, _, _, _ => fun ρ h' Q σ cs F H R S V w p => by simp only [WpT] at w
  | .vw _, _, _, _, _ => fun ρ h' Q σ cs F H R S V w p => by simp only [WpT] at w
  | .cint _, _, _, _, _ => fun ρ h' Q σ cs F H R S V w p => by simp only [WpT] at w
  | .cstr _, _, _, _, _ => fun ρ h' Q σ cs F H R S V w p => by simp only [WpT] at w
  | .cnon, _, _, _, _ => fun ρ h' Q σ cs F H R S V w p => by simp only [WpT] at w
  | .glob _, _, _, _, _ => fun ρ h' Q σ cs F H R S V w p => by simp only [WpT] at w
  | .bin _ _ _, _, _, _, _ => fun ρ h' Q σ cs F H R S V w p => by simp only [WpT] at w
  | .neg _, _, _, _, _ => fun ρ h' Q σ cs F H R S V w p => by simp only [WpT] at w
  | .ite _ _ _, _, _, _, _ => fun ρ h' Q σ cs F H R S V w p => by simp only [WpT] at w
  | .tup _, _, _, _, _ => fun ρ h' Q σ cs F H R S V w p => by simp only [WpT] at w
  | .fz _, _, _, _, _ => fun ρ h' Q σ cs F H R S V w p => by simp only [WpT] at w
  | .new _, _, _, _, _ => fun ρ h' Q σ cs F H R S V w p => by simp only [WpT] at w
  | .sub _ _, _, _, _, _ => fun ρ h' Q σ cs F H R S V w p => by simp only [WpT] at w
  | .slice _ _ _, _, _, _, _ => fun ρ h' Q σ cs F H R S V w p => by simp only [WpT] at w
  | .call _ _, _, _, _, _ => fun ρ h' Q σ cs F H R S V w p => by simp only [WpT] at w
  | .blt _ _, _, _, _, _ => fun ρ h' Q σ cs F H R S V w p => by simp only [WpT] at w
  | .isi _ _, _, _, _, _ => fun ρ h' Q σ cs F H R S V w p => by simp only [WpT] at w
  | .smt _ _ _, _, _, _, _ => fun ρ h' Q σ cs F H R S V w p => by simp only [WpT] at w
  | .attr _ _, _, _, _, _ => fun ρ h' Q σ cs F H R S V w p => by simp only [WpT] at w
  | .mcall _ _ _, _, _, _, _ => fun ρ h' Q σ cs F H R S V w p => by simp only [WpT] at w
  | .make _ _, _, _, _, _ => fun ρ h' Q σ cs F H R S V w p => by simp only [WpT] at w
theorem sEs : ∀ (es : Es) (xs : List Expr) (X : Cx), XOk C T Cl X → agEs T X.env.scope X.N es xs = true → SA C Cl X es xs
  | .nil, xs, X, O, h => by
    simp only [agEs] at h
    split at h
    · exact s_nil
    · cases h
  | .cons e es, xs, X, O, h => by
    simp only [agEs] at h
    split at h
    · simp only [Bool.and_eq_true] at h
      exact s_cons (sE e false _ X O h.1.1) (sEs es _ X O h.2) h.1.2
    · cases h
theorem sBs : ∀ (es : Es) (xs : List Expr) (X : Cx), XOk C T Cl X → agEs T X.env.scope X.N es xs = true → SB C Cl X es xs
  | .nil, xs, X, O, h => by
    simp only [agEs] at h
    split at h
    · exact s_nilB
    · cases h
  | .cons e es, xs, X, O, h => by
    simp only [agEs] at h
    split at h
    · simp only [Bool.and_eq_true] at h
      exact s_consB (sE e true _ X O h.1.1) (sBs es _ X O h.2) h.1.2
    · cases h
theorem sO : ∀ (e : Oe) (x : Option Expr) (X : Cx), XOk C T Cl X → agO T X.env.scope X.N e x = true → SO C Cl X e x
  | .no, x, X, O, h => by
    simp only [agO] at h
    split at h
    · exact s_no
    · cases h
  | .so e, x, X, O, h => by
    simp only [agO] at h
    split at h
    · exact s_so (sE e false _ X O h)
    · cases h
theorem sC : ∀ (e : Oe) (c : Expr) (e' : E), e = .so e' → ∀ (X : Cx), XOk C T Cl X → agC T X.env.scope X.N e c = true → ST C Cl X e' c
  | .no, c, e', q, X, O, h => by cases q
  | .so e, c, e', q, X, O, h => by
    have q2 : e = e' := by injection q
    rw [← q2]
    exact sT e c X O (by simpa only [agC] using h)
theorem sN : ∀ (n : Nw) (x : Expr) (X : Cx), XOk C T Cl X → agN T X.env.scope X.N n x = true → SN C Cl X n x
  | .lst es, x, X, O, h => by
    simp only [agN] at h
    split at h
    · exact n_lst (sEs es _ X O h)
    · cases h
  | .comp elt tg it cond own, x, X, O, h => by
    simp only [agN] at h
    split at h
    · rename_i y t i ifs a scope pos
      simp only [Bool.and_eq_true, decide_eq_true_eq] at h
      obtain ⟨⟨⟨⟨⟨⟨⟨rfl, hb⟩, ho⟩, ht⟩, hi⟩, hs⟩, he⟩, hc⟩ := h
      have K : CompOk C T Cl X elt tg it cond own y t i ifs scope := by
        refine ⟨blkOk_by hb, fun j hj => by simpa using List.all_eq_true.mp ho j hj, ht, sI it true t i X O hi (fun _ => rfl), hs, fun s H0 D cl fp => sE elt false y _ (O.blk s H0 scope cl D fp) he, ?_⟩
        split at hc
        · split at hc
          · exact .inl ⟨rfl, rfl⟩
          · cases hc
        · rename_i c
          obtain ⟨e', q1⟩ := agC_so hc
          exact .inr ⟨c, e', rfl, q1, fun s H0 D cl fp => sC cond c e' q1 _ (O.blk s H0 scope cl D fp) hc⟩
        · cases hc
      exact K.sn O
    · cases h
  | .slice a lo hi, x, X, O, h => by
    simp only [agN] at h
    split at h
    · simp only [Bool.and_eq_true] at h
      exact n_slice (sE a true _ X O h.1.1) (sO lo _ X O h.1.2) (sO hi _ X O h.2)
    · cases h
  | .listOf a, x, X, O, h => by
    simp only [agN] at h
    split at h
    · simp only [Bool.and_eq_true, decide_eq_true_eq] at h
      exact n_list O h.1.1.1 h.1.1.2 h.2 (sE a true _ X O h.1.2)
    · cases h
  | .cat a c, x, X, O, h => by
    simp only [agN] at h
    split at h
    · simp only [Bool.and_eq_true, decide_eq_true_eq] at h
      obtain ⟨⟨rfl, h1⟩, h2⟩ := h
      exact n_cat (sE a true _ X O h1) (sE c true _ X O h2)
    · cases h
  | .rev a, x, X, O, h => by
    simp only [agN] at h
    split at h
    · exact n_rev (sE a true _ X O h)
    · cases h
  | .dct1 k v, x, X, O, h => by simp [agN] at h
theorem sI : ∀ (it : It) (st : Bool) (tg x : Expr) (X : Cx), XOk C T Cl X → agI T X.env.scope X.N it x = true → ((∃ i, it = .own i) → st = true) → SI C Cl X st tg it x
  | .rng1 a, st, tg, x, X, O, h, _ => by
    simp only [agI] at h
    split at h
    · simp only [Bool.and_eq_true, decide_eq_true_eq] at h
      exact i_rng1 O h.1.1.1 h.1.1.2 h.2 (sE a false _ X O h.1.2)
    · cases h
  | .rng2 a c, st, tg, x, X, O, h, _ => by
    simp only [agI] at h
    split at h
    · simp only [Bool.and_eq_true, decide_eq_true_eq] at h
      obtain ⟨⟨⟨⟨⟨h0, h1⟩, h2⟩, h3⟩, h4⟩, h5⟩ := h
      exact i_rng2 O h0 h1 h3 h5 (sE a false _ X O h2) (sE c false _ X O h4)
    · cases h
  | .seq a, st, tg, x, X, O, h, _ => i_seq (sE a false _ X O (by simpa only [agI] using h))
  | .own i, st, tg, x, X, O, h, hst => by
    have e := hst ⟨i, rfl⟩
    subst e
    exact i_own (by simpa only [agI] using h)
  | .chars a, st, tg, x, X, O, h, _ => i_chars (sE a false _ X O (by simpa only [agI] using h))
end
end
end VL

set_option maxRecDepth 100000
set_option maxHeartbeats 4000000
/-! VL: statements, defs. -/
namespace VL
open PySem L2 Evl PyProof.Rows PySem.Spec

/-! ### agreement -/
def notComp : Expr → Bool
  | .ListComp _ _ _ _ => false
  | .SetComp _ _ _ _ => false
  | .DictComp _ _ _ _ _ => false
  | _ => true
def notTup : Expr → Bool
  | .Tuple _ _ _ => false
  | _ => true
def compN : E → Option Nw
  | .fz (.comp a b c d e) => some (.comp a b c d e)
  | .new (.comp a b c d e) => some (.comp a b c d e)
  | _ => none
def isCompN : Nw → Bool
  | .comp _ _ _ _ _ => true
  | _ => false
def agApp (x : Expr) : Option (Expr × Expr) := match x with
  | .Call (.Attribute o nm apos) [y] [] cpos => if (decide (nm = "append") && notSup o && (apos.endLine == cpos.line) && notStar y) = true then some (o, y) else none
  | _ => none
mutual
def agS (T : Tab) (sc : Scope) (N : List Str) : S → Stmt → Bool
  | .asg tg e, st => match st with
    | .Assign [t] x _ => agTg sc sc N tg t && agE T sc N e x && (match tg with
      | .nm _ => notComp x || (compN e).isSome
      | .tup _ => notTup x && notComp x)
    | _ => false
  | .asgO i n, st => match st with
    | .Assign [t] x _ => agTg sc sc N (.nm i) t && agN T sc N n x && (notComp x || isCompN n)
    | _ => false
  | .frz _, _ => false
  | .par _ _ _ _, _ => false
  | .aug i op e, st => match st with
    | .AugAssign (.Name id _) o x _ => decide (N[i]? = some id) && tgN sc sc id && decide (op = o) && (decide (op = .Add) || decide (op = .Sub)) && agE T sc N e x
    | _ => false
  | .app i e, st => match st with
    | .Expr x _ => match agApp x with
      | some (o, y) => agVar sc N i o && agE T sc N e y
      | none => false
    | _ => false
  | .appE o e, st => match st with
    | .Expr x _ => match agApp x with
      | some (o', y) => agE T sc N o o' && agE T sc N e y
      | none => false
    | _ => false
  | .put i k e, st => match st with
    | .Assign [.Subscript o k' _] x _ => agVar sc N i o && agE T sc N k k' && agE T sc N e x && notSlice k'
    | _ => false
  | .putE o k e, st => match st with
    | .Assign [.Subscript o' k' _] x _ => agE T sc N o o' && agE T sc N k k' && agE T sc N e x && notSlice k'
    | _ => false
  | .fld o f e, st => match st with
    | .Assign [.Attribute o' g _] x _ => decide (f = g) && agE T sc N o o' && agE T sc N e x
    | _ => false
  | .expr e, st => match st with
    | .Expr x _ => agE T sc N e x && notComp x
    | _ => false
  | .ret e, st => match st with
    | .Return (some x) _ => agE T sc N e x
    | _ => false
  | .retN, st => match st with
    | .Return none _ => true
    | _ => false
  | .ite c a b, st => match st with
    | .If x p q _ => agE T sc N c x && agSs T sc N a p && agSs T sc N b q
    | _ => false
  | .wh c b, st => match st with
    | .While x p [] _ => agE T sc N c x && agSs T sc N b p
    | _ => false
  | .for tg it b, st => match st with
    | .For t x p [] _ => agTg sc sc N tg t && agI T sc N it x && notSet x && (match it with | .own _ => false | _ => true) && agSs T sc N b p
    | _ => false
  | .pass, st => match st with
    | .Pass _ => true
    | _ => false
  | .brk, st => match st with
    | .Break _ => true
    | _ => false
  | .cont, st => match st with
    | .Continue _ => true
    | _ => false
def agSs (T : Tab) (sc : Scope) (N : List Str) : Ss → List Stmt → Bool
  | .nil, st => match st with
    | [] => true
    | _ => false
  | .cons s r, st => match s with
    | .frz _ => agSs T sc N r st
    | s => match st with
      | x :: xs => agS T sc N s x && agSs T sc N r xs
      | [] => false
end

/-! ### what stands between statements: base of the innermost loop (csb, Fb), the def's entry (cs0, F0, H0) -/
structure Nt (K : PySem.W.Frag) (Cl : Nat → Addr) (csb : List Addr) (Fb : Hp) (cs0 : List Addr) (F0 H0 : Hp) (cs : List Addr) (F H : Hp) (h : AHeap) (σ : L2.St) (ρ : Env) : Prop where
  S : StOk K Cl cs F H h
  V : EnvOk K Cl cs F H σ ρ
  x : Stp cs0 F0 H0 cs F H
  o : ∀ i c a, getS ρ i = .own c → σ[i]? = some (some (.ref a)) → H0 a = none
  y : Ex Fb F ∧ ∃ r, cs = csb ++ r
structure DOk (K : PySem.W.Frag) (Cl : Nat → Addr) (csb : List Addr) (Fb : Hp) (cs0 : List Addr) (F0 H0 : Hp) (D : Kt) (D' : Ends) : Prop where
  nx : ∀ cs F H h σ ρ, Nt K Cl csb Fb cs0 F0 H0 cs F H h σ ρ → D.nx ρ h → D'.nx σ H
  rt : ∀ v d cs F H h, Stp cs0 F0 H0 cs F H → StOk K Cl cs F H h → Rep K cs F v d → D.rt d h → D'.rt v H
  bk : ∀ cs F H h σ ρ, Nt K Cl csb Fb cs0 F0 H0 cs F H h σ ρ → D.bk ρ h → D'.bk σ H
  ct : ∀ cs F H h σ ρ, Nt K Cl csb Fb cs0 F0 H0 cs F H h σ ρ → D.ct ρ h → D'.ct σ H
structure SOk (C : Ctx) (T : Tab) (Cl : Nat → Addr) (X : Cx) : Prop extends XOk C T Cl X where
  pass : PassesOwn (model X.prog X.w) X.A X.env X.xe
  sto : Sto X.env.scope X
def WS (X : Cx) (st : Stmt) : TS := fun D σ H => ∀ pins s, Inv X pins σ H s → wpAny (model X.prog X.w) X.A (exec st X.env) (SP X pins D) X.xe s
def WSs (X : Cx) (st : List Stmt) : TS := fun D σ H => ∀ pins s, Inv X pins σ H s → wpAny (model X.prog X.w) X.A (execs st X.env) (SP X pins D) X.xe s
section
variable {X : Cx}
theorem ps_we {e : Stmt} : PS X e (WS X e) := ⟨fun pins s σ H D I h => h pins s I⟩
theorem pss_we {e : List Stmt} : PSs X e (WSs X e) := ⟨fun pins s σ H D I h => h pins s I⟩
theorem ws_of {e : Stmt} {t : TS} (p : PS X e t) {σ : L2.St} {H : Hp} {D : Ends} (h : t D σ H) : WS X e D σ H := fun pins s I => p.run pins s σ H D I h
theorem wss_of {e : List Stmt} {t : TS} (p : PSs X e t) {σ : L2.St} {H : Hp} {D : Ends} (h : t D σ H) : WSs X e D σ H := fun pins s I => p.run pins s σ H D I h
end
section
variable (C : Ctx) (Cl : Nat → Addr)
def SS (X : Cx) (s : S) (st : Stmt) : Prop := ∀ csb Fb cs0 F0 H0 D D' ρ h σ cs F H, DOk X.K Cl csb Fb cs0 F0 H0 D D' → Nt X.K Cl csb Fb cs0 F0 H0 cs F H h σ ρ → WpS C s D ρ h → WS X st D' σ H
def SSs (X : Cx) (s : Ss) (st : List Stmt) : Prop := ∀ csb Fb cs0 F0 H0 D D' ρ h σ cs F H, DOk X.K Cl csb Fb cs0 F0 H0 D D' → Nt X.K Cl csb Fb cs0 F0 H0 cs F H h σ ρ → WpSs C s D ρ h → WSs X st D' σ H
end
section
variable {C : Ctx} {T : Tab} {Cl : Nat → Addr} {X : Cx} {K : PySem.W.Frag} {csb cs0 cs cs' : List Addr} {Fb F0 H0 F F' H H' : Hp} {h h' : AHeap} {σ σ' : L2.St} {ρ ρ' : Env}
theorem Nt.step (n : Nt K Cl csb Fb cs0 F0 H0 cs F H h σ ρ) (x : Stp cs F H cs' F' H') (S : StOk K Cl cs' F' H' h') : Nt K Cl csb Fb cs0 F0 H0 cs' F' H' h' σ ρ :=
  ⟨S, n.V.step x, n.x.trans x, n.o, n.y.1.trans x.f, by
    obtain ⟨r, e⟩ := n.y.2
    obtain ⟨r2, e2⟩ := x.c
    exact ⟨r ++ r2, by rw [e2, e, List.append_assoc]⟩⟩
theorem Nt.setV (n : Nt K Cl csb Fb cs0 F0 H0 cs F H h σ ρ) {i : Nat} {v : L2.V} {d : AV} (r : Rep K cs F v d) : Nt K Cl csb Fb cs0 F0 H0 cs F H h (σ.set i (some v)) (setS ρ i (.val d)) :=
  ⟨n.S, n.V.setV r, n.x, fun j c a h1 h2 => by
    by_cases hj : i = j
    · subst hj
      by_cases hi : i < ρ.length
      · rw [getS_set_same hi] at h1; cases h1
      · rw [setS_out (by omega)] at h1
        exact absurd (getS_lt (ρ := ρ) (i := i) (by rw [h1]; simp)) hi
    · rw [getS_set_ne hj] at h1
      rw [List.getElem?_set_ne hj] at h2
      exact n.o j c a h1 h2, n.y⟩
theorem upd_self {H : Hp} {a : Addr} {o : HO} (e : H a = some o) : upd H a o = H := by
  funext b
  unfold upd
  split
  · rename_i q; rw [q, e]
  · rfl
theorem set_self {σ : L2.St} {i : Nat} {v : Option V} (e : σ[i]? = some v) : σ.set i v = σ := by
  apply List.ext_getElem?
  intro j
  by_cases hj : i = j
  · subst hj
    rw [List.getElem?_set_self (List.getElem?_eq_some_iff.mp e).1, e]
  · rw [List.getElem?_set_ne hj]
/-- a slot's own cell -/
theorem Nt.setO (n : Nt K Cl csb Fb cs0 F0 H0 cs F H h σ ρ) {i : Nat} {a : Addr} {c : Cell} {o : HO} (n0 : H0 a = none) (n1 : a ∉ cs) (n2 : F a = none) (r : COk K Cl cs F (upd H a o) a c)
    (old : ∀ j c', j ≠ i → getS ρ j = .own c' → σ[j]? ≠ some (some (.ref a))) : Nt K Cl csb Fb cs0 F0 H0 cs F (upd H a o) h (σ.set i (some (.ref a))) (setS ρ i (.own c)) :=
  ⟨n.S.chgN n2 n1, n.V.setO n1 n2 r old, n.x.chgNew n0, fun j c a' h1 h2 => by
    by_cases hj : i = j
    · subst hj
      by_cases hi : i < ρ.length
      · rw [List.getElem?_set_self (by rw [← n.V.len]; exact hi)] at h2
        cases h2
        exact n0
      · rw [setS_out (by omega)] at h1
        exact absurd (getS_lt (ρ := ρ) (i := i) (by rw [h1]; simp)) hi
    · rw [getS_set_ne hj] at h1
      rw [List.getElem?_set_ne hj] at h2
      exact n.o j c a' h1 h2, n.y⟩
/-- a slot's own cell becomes a value -/
theorem Nt.frz (n : Nt K Cl csb Fb cs0 F0 H0 cs F H h σ ρ) {i : Nat} {c : Cell} {d : AV} (e : getS ρ i = .own c) (q : (∃ xs, c = .lst xs ∧ d = .lst xs) ∨ ∃ xs, c = .dct xs ∧ d = .dct xs) : ∃ F', Nt K Cl csb Fb cs0 F0 H0 cs F' H h σ (setS ρ i (.val d)) := by
  obtain ⟨a, e1, n1, n2, r⟩ := n.V.own i c e
  have n0 := n.o i c a e e1
  have core : ∀ o, H a = some o → Rep K cs (upd F a o) (.ref a) d → ∃ F', Nt K Cl csb Fb cs0 F0 H0 cs F' H h σ (setS ρ i (.val d)) := by
    intro o ho rd
    have ex : Ex F (upd F a o) := Ex.new n2
    refine ⟨upd F a o, ?_⟩
    have hi : i < ρ.length := getS_lt (by rw [e]; simp)
    have hs : i < σ.length := by rw [← n.V.len]; exact hi
    refine ⟨n.S.freeze n2 n1 ho, ⟨by rw [setS_length]; exact n.V.len, fun j d' h1 => ?_, fun j c' h1 => ?_, fun j k c1 c2 b ne h1 h2 h3 => ?_⟩, ⟨n.x.f.trans ex, n.x.c, n.x.k, n.x.d, fun b q1 q2 => ?_, n.x.m⟩, fun j c' b h1 h2 => ?_, n.y.1.trans ex, n.y.2⟩
    · by_cases hj : i = j
      · subst hj
        rw [getS_set_same hi] at h1
        cases h1
        exact ⟨_, e1, rd⟩
      · rw [getS_set_ne hj] at h1
        obtain ⟨v, g1, g2⟩ := n.V.val j d' h1
        exact ⟨v, g1, g2.mono ex ⟨[], by simp⟩⟩
    · have hj : i ≠ j := fun z => by subst z; rw [getS_set_same hi] at h1; cases h1
      rw [getS_set_ne hj] at h1
      obtain ⟨b, g1, g2, g3, g4⟩ := n.V.own j c' h1
      refine ⟨b, g1, g2, ?_, g4.mono ex ⟨[], by simp⟩ fun _ z => z⟩
      rw [upd_ne]
      · exact g3
      · intro z
        subst z
        exact n.V.dis i j c c' b hj e h1 e1 g1
    · have h1' : i ≠ j := fun z => by subst z; rw [getS_set_same hi] at h1; cases h1
      have h2' : i ≠ k := fun z => by subst z; rw [getS_set_same hi] at h2; cases h2
      rw [getS_set_ne h1'] at h1
      rw [getS_set_ne h2'] at h2
      exact n.V.dis j k c1 c2 b ne h1 h2 h3
    · by_cases hb : b = a
      · subst hb; exact n0
      · rw [upd_ne hb] at q2
        exact n.x.n b q1 q2
    · have hj : i ≠ j := fun z => by subst z; rw [getS_set_same hi] at h1; cases h1
      rw [getS_set_ne hj] at h1
      exact n.o j c' b h1 h2
  rcases q with ⟨xs, rfl, rfl⟩ | ⟨xs, rfl, rfl⟩
  · obtain ⟨vs, g1, g2⟩ := r
    exact core _ g1 (.lst upd_same (g2.mono (Ex.new n2) ⟨[], by simp⟩))
  · obtain ⟨vs, g1, g2⟩ := r
    exact core _ g1 (.dct upd_same (g2.mono (Ex.new n2) ⟨[], by simp⟩))
theorem DOk.seq {D : Kt} {D' : Ends} {A : Env → AHeap → Prop} {A' : L2.St → Hp → Prop} (d : DOk K Cl csb Fb cs0 F0 H0 D D') (k : ∀ cs F H h σ ρ, Nt K Cl csb Fb cs0 F0 H0 cs F H h σ ρ → A ρ h → A' σ H) :
    DOk K Cl csb Fb cs0 F0 H0 { D with nx := A } { D' with nx := A' } := ⟨k, d.rt, d.bk, d.ct⟩

/-! ### each statement -/
theorem swaps_plain {x : Expr} (hx : notComp x = true) (t : Option Expr) (l : Nat) (env : PySem.Env) : swapsWith x t l env = pure false := by
  cases x <;> first | rfl | cases hx
theorem swaps_other {x t : Expr} (ht : ∀ id p, t ≠ .Name id p) (l : Nat) (env : PySem.Env) : swapsWith x (some t) l env = pure false := by
  cases x <;> first | rfl | (cases t <;> first | rfl | exact absurd rfl (ht _ _))
def swB (sc scope : Scope) (id : Str) (pl xl : Nat) : Bool := decide (sc.names.lookup id = some .local) && (pl == xl) && !(scope.names.any fun (n, k) => n == id && (k == .local || k == .cell))
theorem sw_false {elt : Expr} {gs : List Comprehension} {scope : Scope} {pos py : Pos} {y : Str} {l : Nat} {env : PySem.Env} (hk : env.scope.kind = .function) (h : swB env.scope scope y py.line pos.line = false) :
    swapsWith (.ListComp elt gs scope pos) (some (.Name y py)) l env = pure false := by
  have hb : env.blockKind = .function := by unfold Env.blockKind; rw [hk]; rfl
  unfold swapsWith
  unfold swB at h
  have ky : (env.kindOf y == some .local) = decide (env.scope.names.lookup y = some .local) := by
    show (env.scope.names.lookup y == some .local) = _
    cases q : env.scope.names.lookup y with
    | none => rfl
    | some k => cases k <;> rfl
  simp only [hb, ky, Expr.pos]
  show pure ((ScopeKind.function == ScopeKind.function && decide (env.scope.names.lookup y = some .local) && (py.line == pos.line)) && !(scope.names.any fun (n, k) => n == y && (k == .local || k == .cell))) = pure false
  have : (ScopeKind.function == ScopeKind.function) = true := rfl
  rw [this, Bool.true_and, h]
/-- a comprehension given to a name -/
theorem comp_set {elt : E} {tg : Tg} {it : It} {cond : Oe} {own : List Nat} {y t i : Expr} {ifs : List Expr} {scope : Scope} {pos spos p' : Pos} {id : Str} {j : Nat} (O : SOk C T Cl X) (Kp : CompOk C T Cl X elt tg it cond own y t i ifs scope)
    (hj : X.N[j]? = some id) (hid : tgN X.env.scope X.env.scope id = true) {ρ : Env} {h : AHeap} {Q : Cell → AHeap → Prop} {D : Ends} (S : StOk X.K Cl cs F H h) (V : EnvOk X.K Cl cs F H σ ρ) (hk : X.env.scope.kind = .function) (w : WpN C (.comp elt tg it cond own) ρ h Q)
    (p : NOk X.K Cl cs F H Q (fun v H1 => D.nx (σ.set j (some v)) H1)) : WS X (.Assign [.Name id p'] (.ListComp y [⟨t, i, ifs, 0⟩] scope pos) spos) D σ H := by
  obtain ⟨s1, s2⟩ := O.sto id hid
  cases hs : swB X.env.scope scope id p'.line pos.line with
  | false => exact ws_of (ps_set O.nd hj s1 pe_we (sw_false hk hs) s2) (Kp.sn O.toXOk _ _ _ _ _ _ _ _ S V w p)
  | true =>
    unfold swB at hs
    simp only [Bool.and_eq_true, decide_eq_true_eq, Bool.not_eq_true'] at hs
    exact ws_of (ps_setLc O.calm O.nd hj hs.1.1 (sw_true hk hs.1.1 hs.1.2 hs.2) pi_we Kp.hb (Kp.pg O.toXOk) Kp.pts Kp.pe (folded_of Kp.hs _)) (Kp.reads O.toXOk _ _ _ _ _ _ _ _ S V w p)
theorem comp_of {elt : E} {tg : Tg} {it : It} {cond : Oe} {own : List Nat} {x : Expr} (O : XOk C T Cl X) (h : agN T X.env.scope X.N (.comp elt tg it cond own) x = true) :
    ∃ y t i ifs scope pos, x = .ListComp y [⟨t, i, ifs, 0⟩] scope pos ∧ CompOk C T Cl X elt tg it cond own y t i ifs scope := by
  simp only [agN] at h
  split at h
  · rename_i y t i ifs a scope pos
    simp only [Bool.and_eq_true, decide_eq_true_eq] at h
    obtain ⟨⟨⟨⟨⟨⟨⟨rfl, hb⟩, ho⟩, ht⟩, hi⟩, hs⟩, he⟩, hc⟩ := h
    refine ⟨y, t, i, ifs, scope, pos, rfl, blkOk_by hb, fun j hj => by simpa using List.all_eq_true.mp ho j hj, ht, sI it true t i X O hi (fun _ => rfl), hs, fun s H0 D cl fp => sE elt false y _ (O.blk s H0 scope cl D fp) he, ?_⟩
    split at hc
    · split at hc
      · exact .inl ⟨rfl, rfl⟩
      · cases hc
    · rename_i c
      obtain ⟨e', q1⟩ := agC_so hc
      exact .inr ⟨c, e', rfl, q1, fun s H0 D cl fp => sC cond c e' q1 _ (O.blk s H0 scope cl D fp) hc⟩
    · cases hc
  · cases h
theorem st_asg {tg : Tg} {e : E} {st : Stmt} (O : SOk C T Cl X) (hk : X.env.scope.kind = .function) (hag : agS T X.env.scope X.N (.asg tg e) st = true) : SS C Cl X (.asg tg e) st := fun csb Fb cs0 F0 H0 D D' ρ h σ cs F H d n w => by
  simp only [agS] at hag
  split at hag
  · rename_i t x pos
    simp only [Bool.and_eq_true] at hag
    obtain ⟨⟨ht, he⟩, hx⟩ := hag
    simp only [WpS] at w
    cases tg with
    | nm i =>
      simp only [agTg] at ht
      split at ht
      · rename_i id p'
        simp only [Bool.and_eq_true, decide_eq_true_eq] at ht
        obtain ⟨s1, s2⟩ := O.sto id ht.2
        have fin : EOk X.K Cl false cs F H (fun x h1 => tgK (.nm i) x ρ fun ρ' => D.nx ρ' h1) (fun v H1 => D'.nx (σ.set i (some v)) H1) := fun v d2 cs2 F2 H2 h2 y S r q =>
          d.nx _ _ _ _ _ _ ((n.step y S).setV r.plain) q
        simp only [Bool.or_eq_true] at hx
        rcases hx with hx | hx
        · exact ws_of (ps_set O.nd ht.1 s1 pe_we (swaps_plain hx _ _ _) s2) (sE e false x X O.toXOk he _ _ _ _ _ _ _ _ n.S n.V w fin)
        · cases hc : compN e with
          | none => rw [hc] at hx; cases hx
          | some n0 =>
            unfold compN at hc
            split at hc
            · cases hc
              simp only [agE] at he
              obtain ⟨y, t', i', ifs, scope, pos', rfl, Kp⟩ := comp_of O.toXOk he
              simp only [WpE] at w
              exact comp_set O Kp ht.1 ht.2 n.S n.V hk w (NOk.fz fin)
            · cases hc
              simp only [agE] at he
              obtain ⟨y, t', i', ifs, scope, pos', rfl, Kp⟩ := comp_of O.toXOk he
              simp only [WpE] at w
              exact comp_set O Kp ht.1 ht.2 n.S n.V hk w (NOk.new fin)
            · cases hc
      · cases ht
    | tup is =>
      simp only [Bool.and_eq_true] at hx
      have hw : swappedStores [t] x X.env = pure none := by
        cases t <;> first | (simp [agTg] at ht; done) | (cases x <;> first | rfl | cases hx.1)
      have hs : swapsWithSole [t] x pos.line X.env = pure false := swaps_plain hx.2 _ _ _
      refine ws_of (ps_asg pe_we (pg_ok O.nd O.calm O.sto ht) hs hw (by cases t <;> first | (simp [agTg] at ht; done) | rfl)) (sE e false x X O.toXOk he _ _ _ _ _ _ _ _ n.S n.V w fun v d2 cs2 F2 H2 h2 y S r q => ?_)
      have n2 := n.step y S
      -- the names are set one after another
      unfold tgK at q
      simp only at q
      split at q
      · rename_i xs
        split at q
        · rename_i ρ' hs2
          have r := r.plain
          cases r with
          | tup g1 g2 =>
            rename_i a vs
            have hl : ∀ {is : List Nat} {xs : List AV} {ρ : Env}, setsS ρ is xs = some ρ' → xs.length = is.length := by
              intro is
              induction is with
              | nil => intro xs ρ h; cases xs <;> simp [setsS] at h ⊢
              | cons i is ih => intro xs ρ h; cases xs <;> simp [setsS] at h ⊢; exact ih h
            refine ⟨a, vs, rfl, ex_t S.sub g1, by rw [g2.length, hl hs2], ?_⟩
            have go : ∀ {is : List Nat} {xs : List AV} {vs : List V} {σ : L2.St} {ρ : Env}, Nt X.K Cl csb Fb cs0 F0 H0 cs2 F2 H2 h2 σ ρ → Reps X.K cs2 F2 vs xs → setsS ρ is xs = some ρ' → gNames is vs σ H2 D'.nx := by
              intro is
              induction is with
              | nil =>
                intro xs vs σ ρ n r e
                cases r with
                | nil => simp [setsS] at e; subst e; exact ⟨rfl, d.nx _ _ _ _ _ _ n q⟩
                | cons _ _ => simp [setsS] at e
              | cons i is ih =>
                intro xs vs σ ρ n r e
                cases r with
                | nil => simp [setsS] at e
                | cons r rs =>
                  simp only [setsS] at e
                  exact ⟨_, _, rfl, ih (n.setV r) rs e⟩
            exact go n2 g2 hs2
        · exact q.elim
      · exact q.elim
  · cases hag
theorem own_old (V : EnvOk K Cl cs F H σ ρ) {i : Nat} {c : Cell} {a : Addr} (e : getS ρ i = .own c) (q : σ[i]? = some (some (.ref a))) : ∀ j c', j ≠ i → getS ρ j = .own c' → σ[j]? ≠ some (some (.ref a)) := fun j c' hj h1 =>
  V.dis i j c c' a (Ne.symm hj) e h1 q
theorem st_asgO {i : Nat} {m : Nw} {st : Stmt} (O : SOk C T Cl X) (hk : X.env.scope.kind = .function) (hag : agS T X.env.scope X.N (.asgO i m) st = true) : SS C Cl X (.asgO i m) st := fun csb Fb cs0 F0 H0 D D' ρ h σ cs F H d n w => by
  simp only [agS] at hag
  split at hag
  · rename_i t x pos
    simp only [Bool.and_eq_true] at hag
    obtain ⟨⟨ht, he⟩, hx⟩ := hag
    simp only [WpS] at w
    simp only [agTg] at ht
    split at ht
    · rename_i id p'
      simp only [Bool.and_eq_true, decide_eq_true_eq] at ht
      obtain ⟨s1, s2⟩ := O.sto id ht.2
      have fin : NOk X.K Cl cs F H (fun c h1 => D.nx (setS ρ i (.own c)) h1) (fun v H1 => D'.nx (σ.set i (some v)) H1) := fun a c cs2 F2 H2 h2 y S n1 n2 n3 r q => by
        have hs : H2 a ≠ none := r.some
        have n' := n.step y S
        cases ho : H2 a with
        | none => exact absurd ho hs
        | some o =>
          have e : upd H2 a o = H2 := upd_self ho
          have z := n'.setO (i := i) (o := o) (n.x.fresh n1) n3 n2 (by rw [e]; exact r) fun j c' hj h1 h2 => by
            obtain ⟨b, g1, _, _, g4⟩ := n.V.own j c' h1
            rw [g1] at h2
            cases h2
            exact g4.some n1
          rw [e] at z
          exact d.nx _ _ _ _ _ _ z q
      simp only [Bool.or_eq_true] at hx
      rcases hx with hx | hx
      · exact ws_of (ps_set O.nd ht.1 s1 pe_we (swaps_plain hx _ _ _) s2) (sN m x X O.toXOk he _ _ _ _ _ _ _ _ n.S n.V w fin)
      · cases m with
        | comp a b c e f =>
          obtain ⟨y, t', i', ifs, scope, pos', rfl, Kp⟩ := comp_of O.toXOk he
          exact comp_set O Kp ht.1 ht.2 n.S n.V hk w fin
        | _ => cases hx
    · cases ht
  · cases hag
theorem st_aug {i : Nat} {op : Operator} {e : E} {st : Stmt} (O : SOk C T Cl X) (hag : agS T X.env.scope X.N (.aug i op e) st = true) : SS C Cl X (.aug i op e) st := fun csb Fb cs0 F0 H0 D D' ρ h σ cs F H d n w => by
  simp only [agS] at hag
  split at hag
  · rename_i id p' o x pos
    simp only [Bool.and_eq_true, Bool.or_eq_true, decide_eq_true_eq] at hag
    obtain ⟨⟨⟨⟨h1, h2⟩, rfl⟩, h4⟩, h5⟩ := hag
    obtain ⟨s1, s2⟩ := O.sto id h2
    simp only [WpS] at w
    split at w
    · rename_i x0 hx0
      obtain ⟨v0, e0, r0⟩ := n.V.val i x0 hx0
      have fin : ∀ {f : Int → Int → Int}, (∀ x y Q, augK op x y Q → ∃ a b, x = .int a ∧ y = .int b ∧ Q (.int (f a b))) → tAug i (WE X x) (ipI f) D' σ H := by
        intro f hf
        refine ⟨v0, e0, sE e false x X O.toXOk h5 _ _ _ _ _ _ _ _ n.S n.V w fun v1 d1 cs1 F1 H1 h1 x1 S1 r1 q1 => ?_⟩
        obtain ⟨a, b, rfl, rfl, q⟩ := hf _ _ _ q1
        have := r1.int
        subst this
        cases r0
        exact ⟨a, b, rfl, rfl, d.nx _ _ _ _ _ _ ((n.step x1 S1).setV (.int _)) q⟩
      rcases h4 with rfl | rfl
      · refine ws_of (ps_aug O.nd h1 s1 pe_we ip_add s2) (fin fun x y Q q => ?_)
        cases x <;> cases y <;> first | exact ⟨_, _, rfl, rfl, q⟩ | exact q.elim
      · refine ws_of (ps_aug O.nd h1 s1 pe_we ip_sub s2) (fin fun x y Q q => ?_)
        cases x <;> cases y <;> first | exact ⟨_, _, rfl, rfl, q⟩ | exact q.elim
    · exact w.elim
  · cases hag
theorem app_ps {o y : Expr} {x : Expr} {pos : Pos} {to : TE} (hx : agApp x = some (o, y)) (ho : PE X o to) : PS X (.Expr x pos) (tDrop (tBM X.K "list" rAppend to (tCons (WE X y) tNil))) := by
  unfold agApp at hx
  split at hx
  · rename_i o' nm apos y' cpos
    split at hx
    · rename_i hc
      cases hx
      simp only [Bool.and_eq_true, decide_eq_true_eq] at hc
      obtain ⟨⟨⟨rfl, h2⟩, h3⟩, h4⟩ := hc
      refine ps_expr (pe_bm PySem.F.plainAttrs_list PySem.F.slot_list_append PySem.F.type_list_append mt_append ho (pa_cons pe_we pa_nil (star_cons h4 _ _)) (base_of h2 _ _) ?_ h3 (star_cons h4 _ _) rfl) rfl
      rw [star_cons h4]
      rfl
    · cases hx
  · cases hx
theorem st_app {i : Nat} {e : E} {st : Stmt} (O : SOk C T Cl X) (hag : agS T X.env.scope X.N (.app i e) st = true) : SS C Cl X (.app i e) st := fun csb Fb cs0 F0 H0 D D' ρ h σ cs F H d n w => by
  simp only [agS] at hag
  split at hag
  · rename_i x pos
    split at hag
    · rename_i o y hx
      simp only [Bool.and_eq_true] at hag
      obtain ⟨ha, he⟩ := hag
      unfold agVar at ha
      split at ha
      · rename_i id p'
        simp only [Bool.and_eq_true, decide_eq_true_eq] at ha
        obtain ⟨⟨h1, h2⟩, h3⟩ := ha
        obtain ⟨n1, n2, _⟩ := plainName_ok h3
        simp only [WpS] at w
        have po : PE X (.Name id p') (fun σ H Q => ∃ v, σ[i]? = some (some v) ∧ Q v H) := pe_var h1 (visB_ok h2) n1 n2
        split at w
        · rename_i xs hc
          obtain ⟨a, e1, m1, m2, vs, e2, r⟩ := n.V.own i _ hc
          have n0 := n.o i _ a hc e1
          refine ws_of (app_ps hx po) ⟨_, e1, .inl ⟨rfl, vs, sq_of e2⟩, ?_⟩
          refine sE e false y X O.toXOk he _ _ _ _ _ _ _ _ n.S n.V w fun v1 d1 cs1 F1 H1 h1 x1 S1 r1 q1 => ?_
          have nn := n.step x1 S1
          have e2' : H1 a = some (.lst vs) := x1.k _ _ e2 m1
          have m1' : a ∉ cs1 := fun z => by have := x1.m a z m1; rw [e2] at this; cases this
          have m2' : F1 a = none := by
            cases w : F1 a with
            | none => rfl
            | some o =>
              have z := x1.n a m2 (by rw [w]; simp)
              rw [e2] at z; cases z
          refine ⟨a, vs, v1, rfl, rfl, e2', by rw [r.length]; exact q1.1, ?_⟩
          have z := nn.setO (i := i) (o := .lst (vs ++ [v1])) (c := .lst (xs ++ [d1])) n0 m1' m2' ⟨_, upd_same, (r.mono x1.f x1.c).append (.cons r1.plain .nil)⟩ (own_old nn.V hc e1)
          rw [set_self e1] at z
          exact d.nx _ _ _ _ _ _ z q1.2
        · exact w.elim
      · cases ha
    · cases hag
  · cases hag
theorem Nt.cellSet (n : Nt K Cl csb Fb cs0 F0 H0 cs F H h σ ρ) {m : Nat} {a : Addr} {c : Cell} {o : HO} (e : cs[m]? = some a) (r : COk K Cl cs F (upd H a o) a c) : Nt K Cl csb Fb cs0 F0 H0 cs F (upd H a o) (h.set m c) σ ρ := by
  have x2 : Stp cs F H cs F (upd H a o) := Stp.chg (List.mem_of_getElem? e)
  exact ⟨n.S.cellSet e r, n.V.step x2, n.x.trans x2, n.o, n.y⟩
theorem st_appE {o e : E} {st : Stmt} (O : SOk C T Cl X) (hag : agS T X.env.scope X.N (.appE o e) st = true) : SS C Cl X (.appE o e) st := fun csb Fb cs0 F0 H0 D D' ρ h σ cs F H d n w => by
  simp only [agS] at hag
  split at hag
  · rename_i x pos
    split at hag
    · rename_i o' y hx
      simp only [Bool.and_eq_true] at hag
      simp only [WpS] at w
      refine ws_of (app_ps hx pe_we) (sE o false o' X O.toXOk hag.1 _ _ _ _ _ _ _ _ n.S n.V w fun v1 d1 cs1 F1 H1 h1 x1 S1 r1 q1 => ?_)
      have n1 := n.step x1 S1
      split at q1
      · rename_i m
        split at q1
        · rename_i xs0 hc0
          have r1 := r1.plain
          cases r1 with
          | adr g1 =>
            rename_i a
            obtain ⟨vs0, g2, g3⟩ := cell_at S1 g1 hc0
            refine ⟨.inl ⟨rfl, vs0, sq_of g2⟩, ?_⟩
            refine sE e false y X O.toXOk hag.2 _ _ _ _ _ _ _ _ S1 n1.V q1 fun v2 d2 cs2 F2 H2 h2 x2 S2 r2 q2 => ?_
            have n2 := n1.step x2 S2
            unfold appC at q2
            split at q2
            · rename_i xs hc
              have g1' : cs2[m]? = some a := let ⟨_, q⟩ := x2.c; get_pre q g1
              obtain ⟨vs, k1, k2⟩ := cell_at S2 g1' hc
              refine ⟨a, vs, v2, rfl, rfl, k1, by rw [k2.length]; exact q2.1, ?_⟩
              exact d.nx _ _ _ _ _ _ (n2.cellSet g1' (show COk X.K Cl cs2 F2 _ a (.lst (xs ++ [d2])) from ⟨_, upd_same, k2.append (.cons r2.plain .nil)⟩)) q2.2
            · exact q2.elim
        · exact q1.elim
      · exact q1.elim
    · cases hag
  · cases hag
/-- o[k] = v by its weakest reading -/
def PSW (X : Cx) : TSet := fun o i v H Q => ∀ (pins : List (Addr × Obj)) (s : Shared) (σ : L2.St) (ov iv u : Value), Inv X pins σ H s → RelV o ov → RelV i iv → RelV v u → wpAny (model X.prog X.w) X.A (setItem ov iv u) (fun _ s' => ∃ H', Inv X pins σ H' s' ∧ Q H') X.xe s
theorem psw_ok : PSet X (PSW X) := fun pins s σ H o i v ov iv u Q I r1 r2 r3 h => h pins s σ ov iv u I r1 r2 r3
theorem psw_of {t : TSet} (p : PSet X t) {o i v : V} {H : Hp} {Q : Hp → Prop} (h : t o i v H Q) : PSW X o i v H Q := fun pins s σ ov iv u I r1 r2 r3 => p pins s σ H o i v ov iv u Q I r1 r2 r3 h
theorem set_dict (hu : X.A.units + 1 < cLine) : PSet X (fun o i v H Q => ∃ a H', o = .ref a ∧ DPut H a i v H' ∧ Q H') := by
  intro pins s σ H o i v ov iv u Q I r1 r2 r3 h
  obtain ⟨a, H', rfl, g, q⟩ := h
  cases r1
  exact d_setItem hu I g r2 r3 fun s' I' => ⟨H', I', q⟩
theorem putC_ok (hu : X.A.units + 1 < cLine) {a : Addr} {c : Cell} {k d : AV} {i v : V} {Q : Cell → Prop} {R : Hp → Prop} {b : Bool} (r : COk X.K Cl cs F H a c) (rk : RepB X.K cs F H b i k) (rv : Rep X.K cs F v d) (q : putC c k d Q)
    (p : ∀ o c', COk X.K Cl cs F (upd H a o) a c' → Q c' → R (upd H a o)) : PSW X (.ref a) i v H R := by
  unfold putC at q
  split at q
  · rename_i xs
    obtain ⟨vs, e1, e2⟩ := r
    split at q
    · cases rk.int
      split at q
      · rename_i j hj
        rw [← e2.length] at hj
        exact psw_of set_list ⟨a, vs, _, j, rfl, rfl, e1, hj, p _ (.lst (xs.set j d)) ⟨_, upd_same, e2.set rv j⟩ q⟩
      · exact q.elim
    · exact q.elim
  · rename_i kvs
    obtain ⟨us, e1, e2⟩ := r
    split at q
    · rename_i kk hk
      cases rk.key hk
      refine psw_of (set_dict hu) ⟨a, _, rfl, .k e1 ?_, p _ (.dct (putD kvs kk d)) ⟨_, upd_same, e2.put rv⟩ q.2⟩
      rw [e2.length, sizeLine_eq]
      have := q.1
      omega
    · exact q.elim
  · exact q.elim
theorem put_ps {o k x : Expr} {to : TE} {pk pos : Pos} (ho : PE X o to) (hk : notSlice k = true) : PS X (.Assign [.Subscript o k pk] x pos) (tAsg (WE X x) (gSub to (WE X k) (PSW X))) := by
  refine ps_asg pe_we (pg_sub ho pe_we psw_ok ?_) ?_ ?_
  · intro _
    cases k <;> first | rfl | cases hk
  · show swapsWith x (some (.Subscript o k pk)) pos.line X.env = pure false
    exact swaps_other (t := .Subscript o k pk) (fun _ _ z => by cases z) _ _
  · cases x <;> rfl
theorem st_put {i : Nat} {k e : E} {st : Stmt} (O : SOk C T Cl X) (hag : agS T X.env.scope X.N (.put i k e) st = true) : SS C Cl X (.put i k e) st := fun csb Fb cs0 F0 H0 D D' ρ h σ cs F H d n w => by
  simp only [agS] at hag
  split at hag
  · rename_i o k' pk x pos
    simp only [Bool.and_eq_true] at hag
    obtain ⟨⟨⟨ha, hk⟩, he⟩, hns⟩ := hag
    unfold agVar at ha
    split at ha
    · rename_i id p'
      simp only [Bool.and_eq_true, decide_eq_true_eq] at ha
      obtain ⟨⟨h1, h2⟩, h3⟩ := ha
      obtain ⟨n1, n2, _⟩ := plainName_ok h3
      simp only [WpS] at w
      split at w
      · rename_i c hc
        obtain ⟨a, e1, m1, m2, r⟩ := n.V.own i _ hc
        have n0 := n.o i _ a hc e1
        refine ws_of (put_ps (pe_var h1 (visB_ok h2) n1 n2) hns) (sE e false x X O.toXOk he _ _ _ _ _ _ _ _ n.S n.V w fun v1 d1 cs1 F1 H1 h1 x1 S1 r1 q1 => ?_)
        refine ⟨_, e1, ?_⟩
        refine sE k false k' X O.toXOk hk _ _ _ _ _ _ _ _ S1 (n.V.step x1) q1 fun v2 d2 cs2 F2 H2 h2 x2 S2 r2 q2 => ?_
        have x12 := x1.trans x2
        have nn := n.step x12 S2
        have hs := r.some
        have m1' : a ∉ cs2 := fun z => hs (x12.m a z m1)
        have m2' : F2 a = none := by
          cases w : F2 a with
          | none => rfl
          | some o => exact absurd (x12.n a m2 (by rw [w]; simp)) hs
        have r' : COk X.K Cl cs2 F2 H2 a c := r.mono x12.f x12.c fun o ho => x12.k a o ho m1
        refine putC_ok (by have := O.units; omega) r' r2 (r1.plain.mono x2.f x2.c) q2 fun o c' g1 g2 => ?_
        have z := nn.setO (i := i) (o := o) (c := c') n0 m1' m2' g1 (own_old nn.V hc e1)
        rw [set_self e1] at z
        exact d.nx _ _ _ _ _ _ z g2
      · exact w.elim
    · cases ha
  · cases hag
theorem st_putE {o k e : E} {st : Stmt} (O : SOk C T Cl X) (hag : agS T X.env.scope X.N (.putE o k e) st = true) : SS C Cl X (.putE o k e) st := fun csb Fb cs0 F0 H0 D D' ρ h σ cs F H d n w => by
  simp only [agS] at hag
  split at hag
  · rename_i o' k' pk x pos
    simp only [Bool.and_eq_true] at hag
    obtain ⟨⟨⟨ho, hk⟩, he⟩, hns⟩ := hag
    simp only [WpS] at w
    refine ws_of (put_ps pe_we hns) (sE e false x X O.toXOk he _ _ _ _ _ _ _ _ n.S n.V w fun v1 d1 cs1 F1 H1 h1 x1 S1 r1 q1 => ?_)
    refine sE o false o' X O.toXOk ho _ _ _ _ _ _ _ _ S1 (n.V.step x1) q1 fun v2 d2 cs2 F2 H2 h2 x2 S2 r2 q2 => ?_
    refine sE k false k' X O.toXOk hk _ _ _ _ _ _ _ _ S2 ((n.V.step x1).step x2) q2 fun v3 d3 cs3 F3 H3 h3 x3 S3 r3 q3 => ?_
    split at q3
    · rename_i m
      have r2 := r2.plain
      cases r2 with
      | adr g1 =>
        rename_i a
        have g1' : cs3[m]? = some a := let ⟨_, q⟩ := x3.c; get_pre q g1
        have x23 := x2.trans x3
        exact putC_ok (by have := O.units; omega) (S3.cell m a g1') r3 (r1.plain.mono x23.f x23.c) q3 fun o c' k1 k2 =>
          d.nx _ _ _ _ _ _ ((n.step ((x1.trans x2).trans x3) S3).cellSet g1' k1) k2
    · exact q3.elim
  · cases hag

theorem st_fld {o e : E} {f : Str} {st : Stmt} (O : SOk C T Cl X) (hag : agS T X.env.scope X.N (.fld o f e) st = true) : SS C Cl X (.fld o f e) st := fun csb Fb cs0 F0 H0 D D' ρ h σ cs F H d n w => by
  simp only [agS] at hag
  split at hag
  · rename_i o' g pk x pos
    simp only [Bool.and_eq_true, decide_eq_true_eq] at hag
    obtain ⟨⟨rfl, ho⟩, he⟩ := hag
    simp only [WpS] at w
    refine ws_of (ps_fld pe_we pe_we (swaps_other (t := .Attribute o' f pk) (fun _ _ z => by cases z) _ _)) (sE e false x X O.toXOk he _ _ _ _ _ _ _ _ n.S n.V w fun v1 d1 cs1 F1 H1 h1 x1 S1 r1 q1 => ?_)
    refine sE o false o' X O.toXOk ho _ _ _ _ _ _ _ _ S1 (n.V.step x1) q1 fun v2 d2 cs2 F2 H2 h2 x2 S2 r2 q2 => ?_
    split at q2
    · rename_i m
      split at q2
      · rename_i c fs hc
        obtain ⟨hf, hl, q2⟩ := q2
        obtain ⟨a, rfl, e2⟩ := Rep.adr_inv r2.plain
        obtain ⟨dx, fvs, e3, r⟩ := obj_at S2 e2 hc
        refine ⟨a, Cl c, dx, fvs, rfl, e3, (O.fld c f hf).1, (O.fld c f hf).2, by rw [r.length]; exact hl, ?_⟩
        exact d.nx _ _ _ _ _ _ ((n.step (x1.trans x2) S2).cellSet e2 (show COk X.K Cl cs2 F2 _ a (.obj c (putFA f d1 fs)) from ⟨dx, _, upd_same, r.put (r1.plain.mono x2.f x2.c)⟩)) q2
      · exact q2.elim
    · exact q2.elim
  · cases hag
theorem st_ite {c : E} {a b : Ss} {x : Expr} {p q : List Stmt} {pos : Pos} (O : SOk C T Cl X) (hc : agE T X.env.scope X.N c x = true) (ha : SSs C Cl X a p) (hb : SSs C Cl X b q) : SS C Cl X (.ite c a b) (.If x p q pos) := fun csb Fb cs0 F0 H0 D D' ρ h σ cs F H d n w => by
  simp only [WpS] at w
  refine ws_of (ps_if pt_we pss_we pss_we) (sT c x X O.toXOk hc _ _ _ _ _ _ _ _ n.S n.V w fun k cs1 F1 H1 h1 x1 S1 q1 => ?_)
  cases k with
  | true =>
    rw [if_pos rfl] at q1 ⊢
    exact ha _ _ _ _ _ _ _ _ _ _ _ _ _ d (n.step x1 S1) q1
  | false =>
    rw [if_neg Bool.false_ne_true] at q1 ⊢
    exact hb _ _ _ _ _ _ _ _ _ _ _ _ _ d (n.step x1 S1) q1
theorem st_wh {c : E} {b : Ss} {x : Expr} {p : List Stmt} {pos : Pos} (O : SOk C T Cl X) (hc : agE T X.env.scope X.N c x = true) (hb : SSs C Cl X b p) : SS C Cl X (.wh c b) (.While x p [] pos) := fun csb Fb cs0 F0 H0 D D' ρ h σ cs F H d n w => by
  simp only [WpS] at w
  obtain ⟨Wv, ⟨m0, w0⟩, turn⟩ := w
  refine ws_of (ps_while O.pass pt_we pss_we) ⟨fun m σ H => ∃ cs F h ρ, Nt X.K Cl csb Fb cs0 F0 H0 cs F H h σ ρ ∧ Wv m ρ h, ⟨m0, cs, F, h, ρ, n, w0⟩, ?_⟩
  rintro m σ' H' ⟨cs', F', h', ρ', n', w'⟩
  refine sT c x X O.toXOk hc _ _ _ _ _ _ _ _ n'.S n'.V (turn m ρ' h' w') fun k cs1 F1 H1 h1 x1 S1 q1 => ?_
  cases k with
  | true =>
    rw [if_pos rfl] at q1 ⊢
    refine ⟨fun σ H => ∃ m', m' < m ∧ ∃ cs F h ρ, Nt X.K Cl csb Fb cs0 F0 H0 cs F H h σ ρ ∧ Wv m' ρ h, fun σ2 H2 hq => hq, ?_⟩
    refine hb _ _ _ _ _ { D with nx := fun ρ' h' => ∃ m', m' < m ∧ Wv m' ρ' h', ct := fun ρ' h' => ∃ m', m' < m ∧ Wv m' ρ' h', bk := D.nx } _ _ _ _ _ _ _ ⟨?_, d.rt, d.nx, ?_⟩ (n'.step x1 S1) q1
    · rintro cs2 F2 H2 h2 σ2 ρ2 n2 ⟨m', hm, w2⟩
      exact ⟨m', hm, cs2, F2, h2, ρ2, n2, w2⟩
    · rintro cs2 F2 H2 h2 σ2 ρ2 n2 ⟨m', hm, w2⟩
      exact ⟨m', hm, cs2, F2, h2, ρ2, n2, w2⟩
  | false =>
    rw [if_neg Bool.false_ne_true] at q1 ⊢
    exact d.nx _ _ _ _ _ _ (n'.step x1 S1) q1
theorem Nt.base (n : Nt K Cl csb Fb cs0 F0 H0 cs F H h σ ρ) : Nt K Cl cs F cs0 F0 H0 cs F H h σ ρ := ⟨n.S, n.V, n.x, n.o, fun _ _ z => z, [], by simp⟩
theorem Nt.unbase {cs1 : List Addr} {F1 : Hp} (n : Nt K Cl cs1 F1 cs0 F0 H0 cs F H h σ ρ) (y : Ex Fb F1 ∧ ∃ r, cs1 = csb ++ r) : Nt K Cl csb Fb cs0 F0 H0 cs F H h σ ρ := ⟨n.S, n.V, n.x, n.o, y.1.trans n.y.1, by
  obtain ⟨r, e⟩ := n.y.2
  obtain ⟨r2, e2⟩ := y.2
  exact ⟨r2 ++ r, by rw [e, e2, List.append_assoc]⟩⟩
theorem nt_tg {σ : L2.St} {ρ : Env} {tg : Tg} {d : AV} {v : L2.V} {Q : Env → Prop} {R : L2.St → Hp → Prop} (n : Nt K Cl csb Fb cs0 F0 H0 cs F H h σ ρ) (r : Rep K cs F v d) (w : tgK tg d ρ Q)
    (k : ∀ σ' ρ', Nt K Cl csb Fb cs0 F0 H0 cs F H h σ' ρ' → Q ρ' → R σ' H) : gOf K tg v σ H R := by
  cases tg with
  | nm i => exact k _ _ (n.setV r) w
  | tup is =>
    unfold tgK at w
    simp only at w
    split at w
    · rename_i xs
      split at w
      · rename_i ρ' hs2
        cases r with
        | tup g1 g2 =>
          rename_i a vs
          have hl : ∀ {is : List Nat} {xs : List AV} {ρ : Env}, setsS ρ is xs = some ρ' → xs.length = is.length := by
            intro is
            induction is with
            | nil => intro xs ρ h; cases xs <;> simp [setsS] at h ⊢
            | cons i is ih => intro xs ρ h; cases xs <;> simp [setsS] at h ⊢; exact ih h
          refine ⟨a, vs, rfl, ex_t n.S.sub g1, by rw [g2.length, hl hs2], ?_⟩
          have go : ∀ {is : List Nat} {xs : List AV} {vs : List L2.V} {σ : L2.St} {ρ : Env}, Nt K Cl csb Fb cs0 F0 H0 cs F H h σ ρ → Reps K cs F vs xs → setsS ρ is xs = some ρ' → gNames is vs σ H R := by
            intro is
            induction is with
            | nil =>
              intro xs vs σ ρ n r e
              cases r with
              | nil => simp [setsS] at e; subst e; exact ⟨rfl, k _ _ n w⟩
              | cons _ _ => simp [setsS] at e
            | cons i is ih =>
              intro xs vs σ ρ n r e
              cases r with
              | nil => simp [setsS] at e
              | cons r rs =>
                simp only [setsS] at e
                exact ⟨_, _, rfl, ih (n.setV r) rs e⟩
          exact go n g2 hs2
      · exact w.elim
    · exact w.elim
theorem st_for {tg : Tg} {it : It} {b : Ss} {t x : Expr} {p : List Stmt} {pos : Pos} (O : SOk C T Cl X) (ht : agTg X.env.scope X.env.scope X.N tg t = true) (hi : agI T X.env.scope X.N it x = true) (hs : notSet x = true) (ho : ∀ i, it ≠ .own i)
    (hb : SSs C Cl X b p) : SS C Cl X (.for tg it b) (.For t x p [] pos) := fun csb Fb cs0 F0 H0 D D' ρ h σ cs F H d n w => by
  simp only [WpS] at w
  refine ws_of (ps_for O.pass O.calm pi_we (pg_ok O.nd O.calm O.sto ht) pss_we (folded_of hs _)) ?_
  refine sI it false t x X O.toXOk hi (fun ⟨i, e⟩ => absurd e (ho i)) _ _ _ _ _ _ _ _ n.S n.V w fun J items chk G Y cs1 F1 H1 h1 x1 S1 wk hG hY q1 => ?_
  have n1 := n.step x1 S1
  refine for_it wk (fun i σ' H' => ∃ cs2 F2 h2 ρ2, Nt X.K Cl cs1 F1 cs0 F0 H0 cs2 F2 H' h2 σ' ρ2 ∧ forL (fun x D ρ h => tgK tg x ρ fun ρ' => WpSs C b D ρ' h) chk D (items.drop i) ρ2 h2) ?_ ?_ ?_ ?_
  · exact ⟨cs1, F1, h1, ρ, n1.base, q1⟩
  · rintro i σ' H' hi ⟨cs2, F2, h2, ρ2, n2, q2⟩
    refine hG cs2 F2 H' h2 n2.y n2.S ?_
    cases hd : items.drop i with
    | nil => rw [hd] at q2; exact q2.1
    | cons z r => rw [hd] at q2; exact q2.1
  · rintro i v σ' H' H3 hi ⟨cs2, F2, h2, ρ2, n2, q2⟩ hy
    rw [List.drop_eq_getElem_cons hi] at q2
    obtain ⟨ck, q2⟩ := q2
    obtain ⟨F3, x3, S3, rv⟩ := hY i H' v H3 cs2 F2 h2 _ n2.S n2.y.1 n2.y.2 (List.getElem?_eq_getElem hi) ck hy
    have n3 := n2.step x3 S3
    refine nt_tg n3 rv q2 fun σ4 ρ4 n4 q4 => ?_
    refine hb _ _ _ _ _ { D with nx := forL (fun x D ρ h => tgK tg x ρ fun ρ' => WpSs C b D ρ' h) chk D (items.drop (i + 1)), ct := forL (fun x D ρ h => tgK tg x ρ fun ρ' => WpSs C b D ρ' h) chk D (items.drop (i + 1)), bk := D.nx } _ _ _ _ _ _ _ ⟨?_, d.rt, ?_, ?_⟩ n4 q4
    · intro cs5 F5 H5 h5 σ5 ρ5 n5 q5
      exact ⟨cs5, F5, h5, ρ5, n5, q5⟩
    · intro cs5 F5 H5 h5 σ5 ρ5 n5 q5
      exact d.nx _ _ _ _ _ _ (n5.unbase n1.y) q5
    · intro cs5 F5 H5 h5 σ5 ρ5 n5 q5
      exact ⟨cs5, F5, h5, ρ5, n5, q5⟩
  · rintro σ' H' ⟨cs2, F2, h2, ρ2, n2, q2⟩
    rw [List.drop_of_length_le (Nat.le_refl _)] at q2
    exact d.nx _ _ _ _ _ _ (n2.unbase n1.y) q2.2
end

/-! ### every statement that agrees -/
section
variable {C : Ctx} {T : Tab} {Cl : Nat → Addr} {X : Cx}
theorem agSs_cons {sc : Scope} {N : List Str} {s : S} {r : Ss} {st : List Stmt} (h : agSs T sc N (.cons s r) st = true) : (∃ i, s = .frz i ∧ agSs T sc N r st = true) ∨ ∃ x xs, st = x :: xs ∧ agS T sc N s x = true ∧ agSs T sc N r xs = true := by
  cases s with
  | frz i => exact .inl ⟨i, rfl, by simpa only [agSs] using h⟩
  | _ =>
    right
    cases st with
    | nil => simp [agSs] at h
    | cons x xs =>
      simp only [agSs, Bool.and_eq_true] at h
      exact ⟨_, _, rfl, h.1, h.2⟩
mutual
theorem sS (O : SOk C T Cl X) (hk : X.env.scope.kind = .function) : ∀ (s : S) (st : Stmt), agS T X.env.scope X.N s st = true → SS C Cl X s st
  | .asg tg e, st, h => st_asg O hk h
  | .asgO i n, st, h => st_asgO O hk h
  | .frz i, st, h => by simp [agS] at h
  | .par _ _ _ _, st, h => by simp [agS] at h
  | .aug i op e, st, h => st_aug O h
  | .app i e, st, h => st_app O h
  | .appE o e, st, h => st_appE O h
  | .put i k e, st, h => st_put O h
  | .putE o k e, st, h => st_putE O h
  | .fld o f e, st, h => st_fld O h
  | .expr e, st, h => fun csb Fb cs0 F0 H0 D D' ρ h' σ cs F H d n w => by
    simp only [agS] at h
    split at h
    · simp only [Bool.and_eq_true] at h
      simp only [WpS] at w
      exact ws_of (ps_expr pe_we (swaps_plain h.2 _ _ _)) (sE e false _ X O.toXOk h.1 _ _ _ _ _ _ _ _ n.S n.V w fun v1 d1 cs1 F1 H1 h1 x1 S1 r1 q1 => d.nx _ _ _ _ _ _ (n.step x1 S1) q1)
    · cases h
  | .ret e, st, h => fun csb Fb cs0 F0 H0 D D' ρ h' σ cs F H d n w => by
    simp only [agS] at h
    split at h
    · simp only [WpS] at w
      exact ws_of (ps_ret pe_we) (sE e false _ X O.toXOk h _ _ _ _ _ _ _ _ n.S n.V w fun v1 d1 cs1 F1 H1 h1 x1 S1 r1 q1 => d.rt _ _ _ _ _ _ (n.x.trans x1) S1 r1.plain q1)
    · cases h
  | .retN, st, h => fun csb Fb cs0 F0 H0 D D' ρ h' σ cs F H d n w => by
    simp only [agS] at h
    split at h
    · simp only [WpS] at w
      exact ws_of ps_retN (d.rt _ _ _ _ _ _ n.x n.S .non w)
    · cases h
  | .ite c a b, st, h => by
    simp only [agS] at h
    split at h
    · simp only [Bool.and_eq_true] at h
      exact st_ite O h.1.1 (sSs O hk a _ h.1.2) (sSs O hk b _ h.2)
    · cases h
  | .wh c b, st, h => by
    simp only [agS] at h
    split at h
    · simp only [Bool.and_eq_true] at h
      exact st_wh O h.1 (sSs O hk b _ h.2)
    · cases h
  | .for tg it b, st, h => by
    simp only [agS] at h
    split at h
    · simp only [Bool.and_eq_true] at h
      obtain ⟨⟨⟨⟨h1, h2⟩, h3⟩, h4⟩, h5⟩ := h
      refine st_for O h1 h2 h3 ?_ (sSs O hk b _ h5)
      intro i e
      subst e
      cases h4
    · cases h
  | .pass, st, h => fun csb Fb cs0 F0 H0 D D' ρ h' σ cs F H d n w => by
    simp only [agS] at h
    split at h
    · simp only [WpS] at w
      exact ws_of ps_pass (d.nx _ _ _ _ _ _ n w)
    · cases h
  | .brk, st, h => fun csb Fb cs0 F0 H0 D D' ρ h' σ cs F H d n w => by
    simp only [agS] at h
    split at h
    · simp only [WpS] at w
      exact ws_of ps_break (d.bk _ _ _ _ _ _ n w)
    · cases h
  | .cont, st, h => fun csb Fb cs0 F0 H0 D D' ρ h' σ cs F H d n w => by
    simp only [agS] at h
    split at h
    · simp only [WpS] at w
      exact ws_of ps_continue (d.ct _ _ _ _ _ _ n w)
    · cases h
theorem sSs (O : SOk C T Cl X) (hk : X.env.scope.kind = .function) : ∀ (s : Ss) (st : List Stmt), agSs T X.env.scope X.N s st = true → SSs C Cl X s st
  | .nil, st, h => fun csb Fb cs0 F0 H0 D D' ρ h' σ cs F H d n w => by
    simp only [agSs] at h
    split at h
    · simp only [WpSs] at w
      exact wss_of pss_nil (d.nx _ _ _ _ _ _ n w)
    · cases h
  | .cons s r, st, h => fun csb Fb cs0 F0 H0 D D' ρ h' σ cs F H d n w => by
    simp only [WpSs] at w
    rcases agSs_cons h with ⟨i, rfl, h⟩ | ⟨x, xs, rfl, h1, h2⟩
    · simp only [WpS] at w
      split at w
      · rename_i xs hx
        obtain ⟨F', n'⟩ := n.frz hx (.inl ⟨xs, rfl, rfl⟩)
        exact sSs O hk r st h _ _ _ _ _ _ _ _ _ _ _ _ _ d n' w
      · rename_i xs hx
        obtain ⟨F', n'⟩ := n.frz hx (.inr ⟨xs, rfl, rfl⟩)
        exact sSs O hk r st h _ _ _ _ _ _ _ _ _ _ _ _ _ d n' w
      · exact w.elim
    · refine wss_of (pss_cons ps_we pss_we) (sS O hk s _ h1 _ _ _ _ _ _ { D' with nx := WSs X _ D' } _ _ _ _ _ _ (d.seq fun cs2 F2 H2 h2' σ2 ρ2 n2 q2 => ?_) n w)
      exact sSs O hk r _ h2 _ _ _ _ _ _ _ _ _ _ _ _ _ d n2 q2
end
end
end VL

set_option maxRecDepth 100000
set_option maxHeartbeats 4000000
/-! VL: a program's defs keep what the transformers say; the end of a law. -/
namespace VL
open PySem L2 Evl PyProof.Rows PySem.Spec

/-! ### the scope of a def, by one check -/
def scB (N ps : List Str) (sc : Scope) : Bool :=
  (match sc.kind with | .function => true | _ => false) && !sc.isCoroutine && !sc.isGenerator && decide N.Nodup && decide (N.take ps.length = ps) && ps.all (fun x => locB sc x) && sc.names.all (fun y => decide (y.2 ≠ .free))
theorem scB_ok {N ps : List Str} {sc : Scope} (h : scB N ps sc = true) : FnScope N ps sc := by
  unfold scB at h
  simp only [Bool.and_eq_true, Bool.not_eq_true', decide_eq_true_eq, List.all_eq_true] at h
  obtain ⟨⟨⟨⟨⟨⟨h1, h2⟩, h3⟩, h4⟩, h5⟩, h6⟩, h7⟩ := h
  refine ⟨?_, h2, h3, h4, h5, fun x hx => ?_, fun y hy => h7 y hy⟩
  · split at h1
    · assumption
    · cases h1
  · rcases locB_ok (h6 x hx) with q | q
    · exact .inl q
    · exact .inr q
/-- a def of the text and what it is in our syntax -/
structure FnT where
  name : Str
  st : Stmt
  N : List Str
  ps : List Str
def agF (T : Tab) (t : FnT) (F : Fn) : Bool := scB t.N t.ps (defScope t.st) && agSs T (defScope t.st) t.N F.body (defBody t.st) && decide (t.N.length = F.ns) && decide (t.ps.length = F.np)

structure PFacts (P : Prg) (T : Tab) (Cl : Nat → Addr) (ts : Nat → Option FnT) (K : PySem.W.Frag) (mg : Str → Option Value) : Prop where
  blt : ∀ x, x ∈ bltNames → mg x = none
  glob : ∀ g d, P.glob[g]? = some d → ∃ u v, mg (T.gname g) = some u ∧ RelV v u ∧ ∀ cs F, Rep K cs F v d
  fn : ∀ f F, P.fns[f]? = some F → ∃ t a fd qual, ts f = some t ∧ Fun K t.name qual t.st a fd ∧ agF T t F = true ∧ Binds K fd t.ps [] ∧ ∀ x, T.fname f = some x → mg x = some (.ref a) ∧ PySem.W.keepIn K (.ref a) = true
  fnm : ∀ f x, T.fname f = some x → ∃ F, P.fns[f]? = some F
  cls : ∀ c x, T.cname c = some x → ∃ f F t a fd qual, P.init.lookup c = some f ∧ P.fns[f]? = some F ∧ ts f = some t ∧ Fun K t.name qual t.st a fd ∧ agF T t F = true ∧ Binds K fd t.ps [] ∧ mg x = some (.ref (Cl c)) ∧ Mk K (Cl c) a
  mth : ∀ c m f, P.meth.lookup (c, m) = some f → ∃ F t a fd qual, P.fns[f]? = some F ∧ ts f = some t ∧ Fun K t.name qual t.st a fd ∧ agF T t F = true ∧ Binds K fd t.ps [] ∧ Cls K (Cl c) ∧ Meth K (Cl c) m a
  fld : ∀ c f, P.flds.contains (c, f) = true → Cls K (Cl c) ∧ NoAttr K (Cl c) f

section
variable {prog : Program} {w : World} {K : PySem.W.Frag} {mg : Str → Option Value} {base : Heap} {P : Prg} {T : Tab} {Cl : Nat → Addr} {ts : Nat → Option FnT}
theorem getS_start {ds : List AV} : ∀ {vs : List V} {cs : List Addr} {F : Hp} {k i : Nat} {d : AV}, Reps K cs F vs ds → getS (ds.map Slot.val ++ List.replicate k Slot.no) i = .val d → ∃ v, vs[i]? = some v ∧ Rep K cs F v d := by
  induction ds with
  | nil =>
    intro vs cs F k i d r h
    have : ∀ (k i : Nat), getS (List.replicate k Slot.no) i = .no := by
      intro k
      induction k with
      | zero => intro i; rfl
      | succ k ih => intro i; cases i with
        | zero => rfl
        | succ i => exact ih i
    rw [List.map_nil, List.nil_append, this] at h
    cases h
  | cons x ds ih =>
    intro vs cs F k i d r h
    cases r with
    | cons r rs =>
      cases i with
      | zero => cases h; exact ⟨_, rfl, r⟩
      | succ i =>
        obtain ⟨v, h1, h2⟩ := ih (i := i) rs h
        exact ⟨v, by simpa using h1, h2⟩
theorem getS_startO {ds : List AV} : ∀ {k i : Nat} {c : Cell}, getS (ds.map Slot.val ++ List.replicate k Slot.no) i ≠ .own c := by
  induction ds with
  | nil =>
    intro k
    induction k with
    | zero => intro i c h; cases h
    | succ k ih => intro i c h; cases i with
      | zero => cases h
      | succ i => exact ih h
  | cons x ds ih =>
    intro k i c h
    cases i with
    | zero => cases h
    | succ i => exact ih h
theorem env_start {cs : List Addr} {F H : Hp} {N : List Str} {vs : List V} {ds : List AV} {ns : Nat} (hn : N.length = ns) (hl : vs.length ≤ N.length) (r : Reps K cs F vs ds) : EnvOk K Cl cs F H (L2.start N vs) (ds.map Slot.val ++ List.replicate (ns - ds.length) Slot.no) where
  len := by
    unfold L2.start
    simp only [List.length_append, List.length_map, List.length_replicate]
    rw [r.length, hn]
  val := fun i d h => by
    obtain ⟨v, h1, h2⟩ := getS_start r h
    refine ⟨v, ?_, h2⟩
    unfold L2.start
    rw [List.getElem?_append_left (by simpa using (List.getElem?_eq_some_iff.mp h1).1), List.getElem?_map, h1]
    rfl
  own := fun i c h => absurd h getS_startO
  dis := fun i j c c' a _ h => absurd h getS_startO
/-- every def, to any depth -/
theorem fn_all (hF : PFacts P T Cl ts K mg) : ∀ (n f : Nat) (F : Fn), P.fns[f]? = some F → ∀ (t : FnT) (a : Addr) (fd : FuncData) (qual : Str), ts f = some t → Fun K t.name qual t.st a fd → agF T t F = true →
    FnG prog w K mg base (2 * n) a fd t.ps (spOf K Cl (ctxOf P (callN P n)) f)
  | 0, f, F, hf, t, a, fd, qual, ht, hfun, hag =>
    ⟨fun vs H Q E ⟨_, _, _, _, _, _, _, z, _⟩ => (show False from z).elim, fun A outer s H args us vs Q E _ _ _ _ _ ⟨_, _, _, _, _, _, _, z, _⟩ => (show False from z).elim⟩
  | n + 1, f, F, hf, t, a, fd, qual, ht, hfun, hag => by
    unfold agF at hag
    simp only [Bool.and_eq_true, decide_eq_true_eq] at hag
    obtain ⟨⟨⟨h1, h2⟩, h3⟩, h4⟩ := hag
    have sc := scB_ok h1
    have call : ∀ ds h Qa, callN P (n + 1) f ds h Qa → ds.length = F.np ∧ WpSs (ctxOf P (callN P n)) F.body { nx := fun _ h => Qa .non h, rt := Qa } (startS F ds) h := fun ds h Qa z => by
      have z' : (match P.fns[f]? with | none => False | some F => ds.length = F.np ∧ WpSs (ctxOf P (callN P n)) F.body { nx := fun _ h => Qa .non h, rt := Qa } (startS F ds) h) := z
      rw [hf] at z'
      exact z'
    refine FnG.of_body (k := 2 * n + 1) hfun sc (fun vs H Q E ⟨cs, F', h, ds, Qa, _, r, z, _⟩ => ?_) (fun cdv A outer s H vs Q E hgd hr ⟨cs, F', h, ds, Qa, S, r, z, k⟩ => ?_)
    · rw [r.length, (call _ _ _ z).1, h4]
    · obtain ⟨z1, z2⟩ := call _ _ _ z
      have hN : vs.length ≤ t.N.length := by
        have := congrArg List.length sc.pre
        rw [List.length_take] at this
        rw [r.length, z1, ← h4]
        omega
      refine ⟨WSs _ (defBody t.st), pss_we, ?_⟩
      have O : SOk (ctxOf P (callN P n)) T Cl (cxOf CX0 prog w K mg base t.N qual (defScope t.st) a cdv A outer s H E).nox := by
        refine ⟨⟨sc.nd, rfl, ?_, hgd, hF.blt, hF.glob, fun g x hg => ?_, fun c x hx => ?_, fun c m g hx => ?_, hF.fld⟩, PassesOwn.never, fun id hid => ?_⟩
        · have := hr.un
          show (A.deeper (envOfC qual (defScope t.st) s.heap.objs.size a cdv)).units + 65 < cLine
          omega
        · obtain ⟨G, hG⟩ := hF.fnm g x hg
          obtain ⟨t', a', fd', qual', e1, e2, e3, e4, e5⟩ := hF.fn g G hG
          exact ⟨2 * n, a', fd', t'.ps, fn_all hF n g G hG t' a' fd' qual' e1 e2 e3, hr.mono (by omega), (e5 x hg).1, (e5 x hg).2, e4⟩
        · obtain ⟨g, G, t', a', fd', qual', e0, hG, e1, e2, e3, e4, e5, e6⟩ := hF.cls c x hx
          exact ⟨g, 2 * n, a', fd', t'.ps, e0, fn_all hF n g G hG t' a' fd' qual' e1 e2 e3, hr.mono (by omega), e5, e6, e4⟩
        · obtain ⟨G, t', a', fd', qual', hG, e1, e2, e3, e4, e5, e6⟩ := hF.mth c m g hx
          exact ⟨2 * n, a', fd', t'.ps, fn_all hF n g G hG t' a' fd' qual' e1 e2 e3, hr.mono (by omega), e5, e6, e4⟩
        · unfold tgN at hid
          simp only [Bool.or_eq_true, Bool.and_eq_true, decide_eq_true_eq] at hid
          rcases hid with hid | hid
          · exact ⟨.inl hid.1, .inl rfl⟩
          · exact ⟨.inr hid.1, .inl rfl⟩
      refine sSs O sc.kind F.body (defBody t.st) h2 cs F' cs F' H { nx := fun _ h => Qa .non h, rt := Qa } _ (startS F ds) h (L2.start t.N vs) cs F' H ⟨?_, ?_, ?_, ?_⟩ ⟨S, ?_, .refl, ?_, fun _ _ z => z, [], by simp⟩ z2
      · intro cs2 F2 H2 h2 σ2 ρ2 n2 q2
        exact k _ _ _ _ _ _ n2.x n2.S .non q2
      · intro v d cs2 F2 H2 h2 x2 S2 r2 q2
        exact k _ _ _ _ _ _ x2 S2 r2 q2
      · intro cs2 F2 H2 h2 σ2 ρ2 n2 q2
        exact q2.elim
      · intro cs2 F2 H2 h2 σ2 ρ2 n2 q2
        exact q2.elim
      · exact env_start h3 hN r
      · intro i c a' hh
        exact absurd hh getS_startO
end

/-! ### constants of the module -/
theorem relV_of {u : Value} {v : V} (h : absV u = some v) : RelV v u := by
  cases u <;> simp [absV] at h <;> subst h <;> first | rfl | exact ⟨_, rfl⟩
def valsOf : List Value → Option (List V)
  | [] => some []
  | u :: us => match absV u, valsOf us with
    | some v, some vs => some (v :: vs)
    | _, _ => none
theorem vals_of : ∀ {us : List Value} {vs : List V}, valsOf us = some vs → Vals vs us
  | [], vs, h => by simp [valsOf] at h; subst h; exact .nil
  | u :: us, vs, h => by
    simp only [valsOf] at h
    split at h
    · rename_i v vs' h1 h2
      cases h
      exact .cons (relV_of h1) (vals_of h2)
    · cases h
/-- plain items -/
def flatOf : List V → Option (List AV)
  | [] => some []
  | .non :: r => (flatOf r).map (.non :: ·)
  | .bl b :: r => (flatOf r).map (.bl b :: ·)
  | .int b :: r => (flatOf r).map (.int b :: ·)
  | .str b :: r => (flatOf r).map (.str b :: ·)
  | _ => none
theorem flat_reps {K : PySem.W.Frag} {cs : List Addr} {F : Hp} : ∀ {vs : List V} {ds : List AV}, flatOf vs = some ds → Reps K cs F vs ds
  | [], ds, h => by simp [flatOf] at h; subst h; exact .nil
  | v :: vs, ds, h => by
    cases v <;> simp [flatOf] at h <;> obtain ⟨l, h1, h2⟩ := h <;> subst h2 <;> refine .cons ?_ (flat_reps h1)
    · exact .non
    · exact .bl _
    · exact .int _
    · exact .str _
/-- a tuple of plain items that stands in the written part -/
theorem tup_glob {K : PySem.W.Frag} {a : Addr} {od : Option Addr} {its : Array Value} {n : Nat} {sl : Array (Option Value)} {vs : List V} {ds : List AV} (l : K.lookup a = some ⟨.type "tuple", od, .seq its n, sl⟩) (hz : its.size ≤ sizeLine)
    (hv : valsOf its.toList = some vs) (hd : flatOf vs = some ds) : ∀ cs F, Rep K cs F (.ref a) (.tup ds) := fun cs F =>
  .tup (.inr ⟨_, its, n, l, rfl, rfl, hz, vals_of hv⟩) (flat_reps hd)

/-! ### the end of a law -/
theorem law_sp {K : PySem.W.Frag} {Cl : Nat → Addr} {P : Prg} {n fl : Nat} (h : ∀ ns : List Int, ns.length ≤ 63 → callN P n fl [.ro (ns.map AV.int)] [] fun d _ => d = .bl true) :
    ∀ (H : Hp) (a : Addr) (ns : List Int), ns.length ≤ 63 → Only H → SqL K H a (ns.map V.int) → spOf K Cl (ctxOf P (callN P n)) fl [.ref a] H (fun v _ => v = .bl true) fun _ _ _ => False := by
  intro H a ns hl _ hS
  have S : StOk K Cl [] H H [] := ⟨fun _ _ z => z, rfl, by simp, fun n a q => by simp at q, fun a q => by simp at q⟩
  have rs : Reps K [] H (ns.map V.int) (ns.map AV.int) := by
    clear hS hl
    induction ns with
    | nil => exact .nil
    | cons n ns ih => exact .cons (.int n) ih
  refine ⟨[], H, [], [.ro (ns.map AV.int)], fun d _ => d = .bl true, S, .cons (.ro hS rs) .nil, h ns hl, fun v d cs' F' H' h' _ _ r q => ?_⟩
  subst q
  cases r
  rfl
/-- the head of a law whose def keeps what FnG says -/
theorem head_G {P : Program} {W : World} {K : PySem.W.Frag} {gl mb : Str → Option Value} {k : Nat} {fa a : Addr} {fd : FuncData} {x : Str} {sp : Sp} {s1 : Shared} {vs : List Value} {ns : List Int}
    (KX : K.In s1.heap) (hns : s1.heap.Ns mainGlobals gl) (hb : s1.heap.Ns builtinsNs mb) (hbb : ∀ x : Str, x ≠ "__name__" → mb x = bootBuiltins x) (hlim : s1.heap.NoLimit) (hg : s1.gens = #[])
    (ha : s1.heap.get? a = some ⟨.type "list", none, .seq vs.toArray 0, #[]⟩) (hi : IntsAre vs ns) (hl : ns.length ≤ sizeLine) (room : Room k callerA)
    (F : ∀ B : Heap, K.In B → B.Ns mainGlobals gl → FnG P W K gl B k fa fd [x] sp) (bnd : ∀ (s : Shared) (u : Value), BindsTo s fd ⟨[u], []⟩ [(x, u)])
    (want : ∀ H : Hp, Only H → SqL K H a (ns.map V.int) → sp [.ref a] H (fun v _ => v = .bl true) fun _ _ _ => False) :
    codeAny (model P W) callerA (.call (.ref fa) ⟨[.ref a], []⟩) (fun r s2 => r = .ok (.ret (.bool true)) ∧ OldK s1.heap s2.heap ∧ s2.os = s1.os ∧ AllBare s2.gens) s1 := by
  have rel : Vals (ns.map V.int) vs := vals_ints hi
  have core : ∀ H : Hp, Only H → SqL K H a (ns.map V.int) → HOk P W H s1.heap → (∀ b, H b ≠ none → b = a ∧ K.lookup a = none) →
      codeAny (model P W) callerA (.call (.ref fa) ⟨[.ref a], []⟩) (fun r s2 => r = .ok (.ret (.bool true)) ∧ OldK s1.heap s2.heap ∧ s2.os = s1.os ∧ AllBare s2.gens) s1 := by
    intro H only sq ok at_
    have off : ∀ b o es ep, s1.heap.get? b = some o → o.data = .dict es ep → H b = none := by
      intro b o es ep e d
      apply Classical.byContradiction
      intro z
      obtain ⟨rfl, _⟩ := at_ b z
      rw [ha] at e
      cases e
      cases d
    have nsH : ∀ b m, s1.heap.Ns b m → (hidT s1.heap H).Ns b m := by
      rintro b m ⟨o, es, ep, e, d, r⟩
      exact ⟨o, es, ep, hidT_get e (off b o es ep e d), d, r⟩
    have inK : K.In (hidT s1.heap H) := by
      intro b o e
      refine hidT_get (KX b o e) (Classical.byContradiction fun z => ?_)
      obtain ⟨rfl, n⟩ := at_ b z
      rw [n] at e
      cases e
    obtain ⟨mc, c1, c2⟩ := hlim
    have md : Mod K gl (hidT s1.heap H) := ⟨inK, nsH _ _ hns, ⟨mb, nsH _ _ hb, hbb⟩, ⟨mc, nsH _ _ c1, c2⟩⟩
    have nofr : ∀ b, b ∈ frs [] → False := fun b z => by cases z
    have env : Env0 P W K gl (hidT s1.heap H) callerA [] s1 H := by
      refine ⟨rfl, md, fun b o e => of_hidT e, ?_, trivial, fun b z => (nofr b z).elim, ok, .of_eq hg⟩
      rw [hidT_size]
      exact Nat.le_refl _
    refine codeAny_mono ((F _ inK (nsH _ _ hns)).go callerA [] s1 H ⟨[.ref a], []⟩ [.ref a] [.ref a] _ _ rfl room env (bnd s1 (.ref a)) (.cons rfl .nil) (want H only sq)) ?_
    intro r s2 z
    match r, z with
    | .ok (.ret u), ⟨v, H2, os, bare, un, ok2, rv, q⟩ =>
      have q : v = .bl true := q
      subst q
      have rv : u = Value.bool true := rv
      subst rv
      refine ⟨rfl, OldK.of_keep ?_, os, bare⟩
      intro b o e
      cases hb : H b with
      | none => exact un.keep b o e hb (fun z => nofr b z) (by simp)
      | some y =>
        rcases only b with z | ⟨ob, xs, z⟩
        · rw [hb] at z; cases z
        · have f1 := (ok b _ z).1
          have f2 := (ok2 b _ (un.frzs b ob _ z)).1
          rw [e] at f1
          cases f1
          exact f2
    | .ok .next, z => exact z.elim
    | .ok .brk, z => exact z.elim
    | .ok .cont, z => exact z.elim
    | .error _, z => exact z.elim
  cases at_ : K.lookup a with
  | some o =>
    have e := KX a o at_
    rw [ha] at e
    cases e
    refine core (fun _ => none) (fun _ => .inl rfl) (.inr ⟨_, vs.toArray, 0, at_, rfl, rfl, rfl, ?_, by simpa using rel⟩) (fun b u z => nomatch z) fun b z => absurd rfl z
    rw [List.size_toArray, hi.length]
    exact hl
  | none =>
    have me : (fun b => if b = a then some (HO.frz ⟨.type "list", none, .seq vs.toArray 0, #[]⟩ (.lst (ns.map V.int))) else none) a = some (HO.frz ⟨.type "list", none, .seq vs.toArray 0, #[]⟩ (.lst (ns.map V.int))) := if_pos rfl
    have no : ∀ b, b ≠ a → (fun b => if b = a then some (HO.frz ⟨.type "list", none, .seq vs.toArray 0, #[]⟩ (.lst (ns.map V.int))) else none) b = none := fun b z => if_neg z
    refine core _ (fun b => ?_) (.inl (.inr ⟨_, me⟩)) (fun b u z => ?_) fun b z => ⟨Classical.byContradiction fun n => z (no b n), at_⟩
    · by_cases n : b = a
      · subst n; exact .inr ⟨_, _, me⟩
      · exact .inl (no b n)
    · by_cases n : b = a
      · subst n
        cases me.symm.trans z
        exact ⟨ha, by rw [List.length_map]; exact hl, vs, _, rel, ha⟩
      · cases (no b n).symm.trans z
theorem walk_G {l : PySem.W.OpenLaw} {n k : Nat} {q : Program} {loose : List Str} {XP : (Str → Option Value) → Heap → Prop} {YP : World → Heap → Prop} {d : DefRec} {K : Params → PySem.W.Frag} {x : Str}
    (hn : l.most = some n) (hn2 : n ≤ sizeLine) (hdf : d.params.defaults = []) (room : Room k callerA) (hY : ∀ (w : World) (h : Heap), YP w h → (K w.params).In h)
    (F : ∀ (w : World) (gl : Str → Option Value) (fa : Addr) (h : Heap), (K w.params).In h → h.Ns mainGlobals gl → gl d.name = some (.ref fa) →
      ∃ (fd : FuncData) (sp : Sp), (∀ (s : Shared) (u : Value), BindsTo s fd ⟨[u], []⟩ [(x, u)]) ∧ (∀ B : Heap, (K w.params).In B → B.Ns mainGlobals gl → FnG l.prog w (K w.params) gl B k fa fd [x] sp) ∧
        ∀ (H : Hp) (a : Addr) (ns : List Int), ns.length ≤ n → Only H → SqL (K w.params) H a (ns.map V.int) → sp [.ref a] H (fun v _ => v = .bl true) fun _ _ _ => False) :
    PySem.W.WalkO q loose XP YP l.row.toRowW d [] (fun f vs => PySem.call f vs) := by
  refine Att.attach_call hn hdf fun w s0 s1 gl mb fa o pm cd dc a vs ns G Y ho hd hcd hm hobj hints hlen hg => ?_
  have KX := hY w s1.heap Y
  obtain ⟨fd, sp, bnd, hF, want⟩ := F w gl fa s1.heap KX G.T.g hm
  exact head_G KX G.T.g G.T.b G.T.builtins G.T.nolimit hg hobj hints (Nat.le_trans hlen hn2) room hF bnd fun H hO hS => want H a ns hlen hO hS
end VL

set_option maxRecDepth 100000
set_option maxHeartbeats 4000000
/-! VL: reasoning over the transformers. -/
namespace VL
open PySem L2

section
variable {h : AHeap} {Q : KA} {i j : Int} {x y : AV} {s t : Str} {b c : Bool} {xs ys : List AV}
theorem k_add : binK h .Add (.int i) (.int j) Q = Q (.int (i + j)) := rfl
theorem k_addS : binK h .Add (.str s) (.str t) Q = (s.length + t.length ≤ sizeLine ∧ Q (.str (s ++ t))) := rfl
theorem k_addT : binK h .Add (.tup xs) (.tup ys) Q = (xs.length + ys.length ≤ sizeLine ∧ Q (.tup (xs ++ ys))) := rfl
theorem k_sub : binK h .Sub (.int i) (.int j) Q = Q (.int (i - j)) := rfl
theorem k_mul : binK h .Mult (.int i) (.int j) Q = (CMulA i j ∧ Q (.int (i * j))) := rfl
theorem k_mulS : binK h .Mult (.str s) (.int j) Q = ((-(2 ^ 60) < j ∧ j < 2 ^ 60 ∧ s.length * j.toNat ≤ 1000000) ∧ Q (.str (strRep s j))) := rfl
theorem k_fdiv : binK h .FloorDiv (.int i) (.int j) Q = (CDivA j ∧ Q (.int (i / j))) := rfl
theorem k_mod : binK h .Mod (.int i) (.int j) Q = (0 < j ∧ Q (.int (i % j))) := rfl
theorem k_pow : binK h .Pow (.int i) (.int j) Q = (CPow i j ∧ Q (.int (i ^ j.toNat))) := rfl
theorem k_neg : negK (.int i) Q = Q (.int (-i)) := rfl
theorem k_lt : cmpK h .Lt (.int i) (.int j) Q = Q (.bl (decide (i < j))) := rfl
theorem k_le : cmpK h .LtE (.int i) (.int j) Q = Q (.bl (decide (i ≤ j))) := rfl
theorem k_gt : cmpK h .Gt (.int i) (.int j) Q = Q (.bl (decide (j < i))) := rfl
theorem k_ge : cmpK h .GtE (.int i) (.int j) Q = Q (.bl (decide (j ≤ i))) := rfl
theorem k_eqI : cmpK h .Eq (.int i) (.int j) Q = Q (.bl (decide (i = j))) := rfl
theorem k_neI : cmpK h .NotEq (.int i) (.int j) Q = Q (.bl (!decide (i = j))) := rfl
theorem k_eqS : cmpK h .Eq (.str s) (.str t) Q = Q (.bl (decide (s = t))) := rfl
theorem k_neS : cmpK h .NotEq (.str s) (.str t) Q = Q (.bl (!decide (s = t))) := rfl
theorem k_eqB : cmpK h .Eq (.bl b) (.bl c) Q = Q (.bl (decide (b = c))) := rfl
theorem k_neB : cmpK h .NotEq (.bl b) (.bl c) Q = Q (.bl (!decide (b = c))) := rfl
theorem k_is : cmpK h .Is x .non Q = Q (.bl (isNon x)) := rfl
theorem k_isn : cmpK h .IsNot x .non Q = Q (.bl (!isNon x)) := rfl
theorem k_in : cmpK h .In x y Q = inK h false x y Q := rfl
theorem k_nin : cmpK h .NotIn x y Q = inK h true x y Q := rfl
theorem k_inS {c : Nat} {b : Bool} : inK h b (.str ⟨#[c]⟩) (.str t) Q = Q (.bl (if b then !decide (c ∈ t.cps.toList) else decide (c ∈ t.cps.toList))) := rfl
theorem k_inF {b : Bool} (hx : flatA x = true) (hy : viewT h y = some xs) (hf : xs.all flatA = true) (hn : ∀ z, y ≠ .str z) (q : Q (.bl (if b then !(xs.any fun y => eqF y x) else xs.any fun y => eqF y x))) : inK h b x y Q := by
  unfold inK
  split
  · exact absurd rfl (hn _)
  · rw [hy]
    exact ⟨hx, hf, q⟩
theorem isNon_non : isNon .non = true := rfl
theorem isNon_int : isNon (.int i) = false := rfl
theorem isNon_str : isNon (.str s) = false := rfl
theorem isNon_lst : isNon (.lst xs) = false := rfl
theorem isNon_tup : isNon (.tup xs) = false := rfl
theorem isNon_adr {n : Nat} : isNon (.adr n) = false := rfl
theorem k_subL (hv : viewT h x = some xs) (hn : ∀ z, x ≠ .str z) {d : AV} (e : atI xs i = some d) (q : Q d) : subK h x (.int i) Q := by
  unfold subK
  split
  · exact absurd rfl (hn _)
  · rw [hv]
    simp only [e]
    exact q
theorem k_subS {k : Nat} (hz : s.length ≤ sizeLine) {c : Nat} (e : s.cps.toList[k]? = some c) (q : Q (.str ⟨#[c]⟩)) : subK h (.str s) (.int (k : Int)) Q := by
  have hk : k < s.cps.toList.length := (List.getElem?_eq_some_iff.mp e).1
  have : atI s.cps.toList (k : Int) = some c := by
    unfold atI
    rw [Evl.ixN_nat hk]
    exact e
  refine ⟨hz, ?_⟩
  rw [this]
  exact q
theorem atI_nat {α : Type} {l : List α} {k : Nat} (hk : k < l.length) : atI l (k : Int) = l[k]? := by
  unfold atI
  rw [Evl.ixN_nat hk]
  rfl
theorem k_lenS : bltK h .len [.str s] Q = (s.length ≤ sizeLine ∧ Q (.int s.length)) := rfl
theorem k_lenL : bltK h .len [.lst xs] Q = Q (.int xs.length) := rfl
theorem k_lenR : bltK h .len [.ro xs] Q = Q (.int xs.length) := rfl
theorem k_lenT : bltK h .len [.tup xs] Q = Q (.int xs.length) := rfl
theorem k_abs : bltK h .abs [.int i] Q = Q (.int (if i < 0 then -i else i)) := rfl
theorem k_int : bltK h .int [.int i] Q = Q (.int i) := rfl
theorem k_str : bltK h .str [.int i] Q = (i.natAbs.log2 < 1920 ∧ Q (.str (toString i))) := rfl
theorem k_max2 : bltK h .max2 [.int i, .int j] Q = Q (.int (if j > i then j else i)) := rfl
theorem k_min2 : bltK h .min2 [.int i, .int j] Q = Q (.int (if j < i then j else i)) := rfl
theorem k_sliceS {lo hi : Option Int} : sliceK h (.str s) lo hi Q = (s.length ≤ sizeLine ∧ Q (.str (cutS s lo hi))) := rfl
theorem k_sliceT {lo hi : Option Int} : sliceK h (.tup xs) lo hi Q = Q (.tup (cut xs lo hi)) := rfl
theorem viewT_lst : viewT h (.lst xs) = some xs := rfl
theorem viewT_ro : viewT h (.ro xs) = some xs := rfl
theorem viewT_tup : viewT h (.tup xs) = some xs := rfl
theorem view_lst : view h (.lst xs) = some xs := rfl
theorem view_ro : view h (.ro xs) = some xs := rfl
theorem viewW_lst : viewW h (.lst xs) = some xs := rfl
theorem tru_bl : truK h (.bl b) = fun Q => Q b := rfl
theorem asStrs_map (l : List Str) : asStrs (l.map AV.str) = some l := by
  induction l with
  | nil => rfl
  | cons x l ih => simp [asStrs, ih]
theorem asInts_map (l : List Int) : asInts (l.map AV.int) = some l := by
  induction l with
  | nil => rfl
  | cons x l ih => simp [asInts, ih]
theorem asBools_map (l : List Bool) : asBools (l.map AV.bl) = some l := by
  induction l with
  | nil => rfl
  | cons x l ih => simp [asBools, ih]
end
theorem mulA_r {i j : Int} (h1 : -18446744073709551616 < j) (h2 : j < 18446744073709551616) : CMulA i j := by
  have e : (2 ^ 64 : Int) = 18446744073709551616 := by decide
  refine .inl (.inr ⟨?_, ?_⟩) <;> omega
theorem mulA_l {i j : Int} (h1 : -18446744073709551616 < i) (h2 : i < 18446744073709551616) : CMulA i j := by
  have e : (2 ^ 64 : Int) = 18446744073709551616 := by decide
  refine .inl (.inl ⟨?_, ?_⟩) <;> omega
theorem divA {j : Int} (h1 : 0 < j) (h2 : j < 18446744073709551616) : CDivA j := ⟨h1, by
  have : j.natAbs < 2 ^ 64 := by
    have e : (2 ^ 64 : Nat) = 18446744073709551616 := by decide
    omega
  have := PySem.Flt.log2_lt_of (by decide : 0 < 64) this
  omega⟩

/-! ### loops -/
/-- a for by an invariant; the body is shown for any ends that follow from it -/
theorem for_inv {B : AV → Kt → Env → AHeap → Prop} {chk : AHeap → Prop} {D : Kt} {xs : List AV} {ρ : Env} {h : AHeap} (Inv : Nat → Env → AHeap → Prop) (h0 : Inv 0 ρ h) (hc : ∀ i ρ h, i ≤ xs.length → Inv i ρ h → chk h)
    (hs : ∀ i x ρ h (D' : Kt), xs[i]? = some x → Inv i ρ h → (∀ ρ h, Inv (i + 1) ρ h → D'.nx ρ h) → (∀ ρ h, Inv (i + 1) ρ h → D'.ct ρ h) → (∀ v h, D.rt v h → D'.rt v h) → (∀ ρ h, D.nx ρ h → D'.bk ρ h) → B x D' ρ h)
    (hd : ∀ ρ h, Inv xs.length ρ h → D.nx ρ h) : forL B chk D xs ρ h := by
  have key : ∀ (ys : List AV) (i : Nat), xs.drop i = ys → i ≤ xs.length → ∀ ρ h, Inv i ρ h → forL B chk D ys ρ h := by
    intro ys
    induction ys with
    | nil =>
      intro i e hi ρ h hI
      have : i = xs.length := by
        have := List.drop_eq_nil_iff.mp e
        omega
      subst this
      exact ⟨hc _ _ _ hi hI, hd _ _ hI⟩
    | cons y ys ih =>
      intro i e hi ρ h hI
      have hlt : i < xs.length := by
        cases Nat.lt_or_ge i xs.length with
        | inl q => exact q
        | inr q => rw [List.drop_of_length_le q] at e; cases e
      have hx : xs[i]? = some y := by
        rw [List.drop_eq_getElem_cons hlt] at e
        cases e
        exact List.getElem?_eq_getElem hlt
      have ht : xs.drop (i + 1) = ys := by
        rw [List.drop_eq_getElem_cons hlt] at e
        exact (List.cons.inj e).2
      exact ⟨hc _ _ _ hi hI, hs i y ρ h _ hx hI (fun ρ h q => ih (i + 1) ht hlt ρ h q) (fun ρ h q => ih (i + 1) ht hlt ρ h q) (fun _ _ q => q) (fun _ _ q => q)⟩
  exact key xs 0 rfl (Nat.zero_le _) ρ h h0
/-- a comprehension by an invariant over what it has made -/
theorem comp_inv {B : AV → AHeap → (Option AV → AHeap → Prop) → Prop} {chk : AHeap → Prop} {xs acc : List AV} {h : AHeap} {Q : List AV → AHeap → Prop} (Inv : Nat → List AV → AHeap → Prop) (h0 : Inv 0 acc h) (hc : ∀ i a h, i ≤ xs.length → Inv i a h → chk h)
    (hs : ∀ i x a h R, xs[i]? = some x → Inv i a h → (∀ (y : AV) h', Inv (i + 1) (a ++ [y]) h' → R (some y) h') → (∀ h', Inv (i + 1) a h' → R none h') → B x h R) (hd : ∀ a h, Inv xs.length a h → Q a h) : compL B chk xs acc h Q := by
  have key : ∀ (ys : List AV) (i : Nat), xs.drop i = ys → i ≤ xs.length → ∀ a h, Inv i a h → compL B chk ys a h Q := by
    intro ys
    induction ys with
    | nil =>
      intro i e hi a h hI
      have : i = xs.length := by
        have := List.drop_eq_nil_iff.mp e
        omega
      subst this
      exact ⟨hc _ _ _ hi hI, hd _ _ hI⟩
    | cons y ys ih =>
      intro i e hi a h hI
      have hlt : i < xs.length := by
        cases Nat.lt_or_ge i xs.length with
        | inl q => exact q
        | inr q => rw [List.drop_of_length_le q] at e; cases e
      have hx : xs[i]? = some y := by
        rw [List.drop_eq_getElem_cons hlt] at e
        cases e
        exact List.getElem?_eq_getElem hlt
      have ht : xs.drop (i + 1) = ys := by
        rw [List.drop_eq_getElem_cons hlt] at e
        exact (List.cons.inj e).2
      exact ⟨hc _ _ _ hi hI, hs i y a h _ hx hI (fun y h q => ih (i + 1) ht hlt _ h q) (fun h q => ih (i + 1) ht hlt _ h q)⟩
  exact key xs 0 rfl (Nat.zero_le _) acc h h0
/-- a comprehension without a test whose items make what f says, the heap as it was -/
theorem comp_map {B : AV → AHeap → (Option AV → AHeap → Prop) → Prop} {xs : List AV} {h : AHeap} {Q : List AV → AHeap → Prop} (f : Nat → AV) (hs : ∀ i x R, xs[i]? = some x → R (some (f i)) h → B x h R) (hd : Q ((List.range xs.length).map f) h) :
    compL B (fun _ => True) xs [] h Q := by
  refine comp_inv (fun i a h' => a = (List.range i).map f ∧ h' = h) ⟨rfl, rfl⟩ (fun _ _ _ _ _ => trivial) ?_ ?_
  · rintro i x a h' R hx ⟨rfl, rfl⟩ k1 k2
    exact hs i x R hx (k1 _ _ ⟨by rw [List.range_succ, List.map_append]; rfl, rfl⟩)
  · rintro a h' ⟨rfl, rfl⟩
    exact hd
/-- a while by an invariant and a measure -/
theorem wh_inv {T : Env → AHeap → (Bool → AHeap → Prop) → Prop} {B : Kt → Env → AHeap → Prop} {D : Kt} {ρ : Env} {h : AHeap} (W : Nat → Env → AHeap → Prop) (m0 : Nat) (h0 : W m0 ρ h)
    (hs : ∀ m ρ h (D' : Kt), W m ρ h → (∀ m' ρ h, m' < m → W m' ρ h → D'.nx ρ h) → (∀ m' ρ h, m' < m → W m' ρ h → D'.ct ρ h) → (∀ v h, D.rt v h → D'.rt v h) → (∀ ρ h, D.nx ρ h → D'.bk ρ h) → T ρ h fun b h1 => if b = true then B D' ρ h1 else D.nx ρ h1) : whL T B D ρ h :=
  ⟨W, ⟨m0, h0⟩, fun m ρ h w => hs m ρ h _ w (fun m' _ _ a b => ⟨m', a, b⟩) (fun m' _ _ a b => ⟨m', a, b⟩) (fun _ _ q => q) (fun _ _ q => q)⟩
theorem ite_b {c : Prop} [Decidable c] {A B : Prop} (h1 : c → A) (h2 : ¬ c → B) : if decide c = true then A else B := by
  by_cases h : c
  · rw [if_pos (decide_eq_true h)]; exact h1 h
  · rw [if_neg (by rw [decide_eq_false h]; decide)]; exact h2 h
theorem ite_p {c : Prop} [Decidable c] {A B : Prop} (h1 : c → A) (h2 : ¬ c → B) : if c then A else B := by
  by_cases h : c
  · rw [if_pos h]; exact h1 h
  · rw [if_neg h]; exact h2 h
theorem ctx_call {P : Prg} {c} : (ctxOf P c).call = c := rfl
theorem ctx_glob {P : Prg} {c} {g : Nat} : (ctxOf P c).glob g = P.glob[g]? := rfl
theorem items_range {n : Nat} {f : Nat → AV} {i : Nat} {x : AV} (h : ((List.range n).map f)[i]? = some x) : i < n ∧ x = f i := by
  rw [List.getElem?_map] at h
  obtain ⟨j, h1, rfl⟩ := Option.map_eq_some_iff.mp h
  have h2 := List.getElem?_eq_some_iff.mp h1
  obtain ⟨h3, h4⟩ := h2
  simp at h3 h4
  exact ⟨h3, by rw [h4]⟩
theorem items_map {α : Type} {l : List α} {f : α → AV} {i : Nat} {x : AV} (h : (l.map f)[i]? = some x) : ∃ a, l[i]? = some a ∧ x = f a := by
  rw [List.getElem?_map] at h
  obtain ⟨j, h1, rfl⟩ := Option.map_eq_some_iff.mp h
  exact ⟨j, h1, rfl⟩
theorem cut_take {α : Type} (l : List α) (i j n : Nat) (e : n = l.length) : (l.drop (min i n)).take (min j n - min i n) = (l.drop i).take (j - i) := by
  subst e
  by_cases hi : l.length ≤ i
  · rw [Nat.min_eq_right hi, List.drop_of_length_le (Nat.le_refl _), List.drop_of_length_le hi]; simp
  · rw [Nat.min_eq_left (by omega : i ≤ l.length)]
    by_cases hj : j ≤ l.length
    · rw [Nat.min_eq_left hj]
    · rw [Nat.min_eq_right (by omega : l.length ≤ j), List.take_of_length_le (by simp), List.take_of_length_le (by simp; omega)]
theorem cut_ss {α : Type} (l : List α) (i j : Nat) : cut l (some (i : Int)) (some (j : Int)) = (l.drop i).take (j - i) := by
  unfold cut
  rw [HT.sIx_nat, HT.sIx_nat, cut_take _ _ _ _ rfl]
theorem cut_ns {α : Type} (l : List α) (j : Nat) : cut l none (some (j : Int)) = l.take j := by
  have := cut_ss l 0 j
  rw [List.drop_zero, Nat.sub_zero] at this
  rw [← this]
  unfold cut
  rw [HT.sIx_nat, HT.sIx_nat, HT.sIx_none, Nat.zero_min]
theorem cut_sn {α : Type} (l : List α) (i : Nat) : cut l (some (i : Int)) none = l.drop i := by
  have := cut_ss l i l.length
  rw [List.take_of_length_le (by simp)] at this
  rw [← this]
  unfold cut
  rw [HT.sIx_nat, HT.sIx_nat, HT.sIx_none, Nat.min_self]
theorem look_mem {α β : Type} [BEq α] [LawfulBEq α] {l : List (α × β)} {k : α} {v : β} (h : l.lookup k = some v) : (k, v) ∈ l := by
  induction l with
  | nil => cases h
  | cons x l ih =>
    obtain ⟨a, b⟩ := x
    rw [List.lookup_cons] at h
    cases e : k == a with
    | true =>
      rw [e] at h
      have h : some b = some v := h
      cases h
      rw [eq_of_beq e]
      exact List.mem_cons_self ..
    | false =>
      rw [e] at h
      exact List.mem_cons_of_mem _ (ih h)
end VL

set_option maxRecDepth 100000
set_option maxHeartbeats 4000000
namespace K15
open PySem L2 VL
def b_form_value_1 : Ss := (.cons (.ret (.bin .Add (.sub (.var 1) (.bin .Sub (.sub (.var 0) (.cint 0)) (.cint 1))) (.sub (.var 0) (.cint 1)))) .nil)
def b_form_value : Ss := (.cons (.ite (.cmp .Eq (.sub (.var 0) (.cint 0)) (.cint 0)) (.cons (.ret (.sub (.var 0) (.cint 1))) .nil) .nil) b_form_value_1)
def b_value_at_1 : Ss := (.cons (.asg (.nm 2) (.var 5)) .nil)
def b_value_at_2 : Ss := (.cons (.asg (.tup [4, 5, 6, 7]) (.sub (.attr (.var 0) "lists") (.var 2))) (.cons (.ite (.cmp .Eq (.call 0 (.cons (.var 6) (.cons (.var 1) .nil))) (.var 3)) (.cons (.ret (.call 0 (.cons (.var 7) (.cons (.var 1) .nil)))) .nil) .nil) b_value_at_1))
def b_value_at_3 : Ss := (.cons (.ite (.cmp .Eq (.var 10) (.var 2)) (.cons (.asg (.nm 11) (.call 0 (.cons (.var 6) (.cons (.var 1) .nil)))) (.cons (.ite (.and (.cmp .LtE (.var 11) (.var 3)) (.or (.cmp .Is (.var 8) .cnon) (.cmp .Gt (.var 11) (.var 8)))) (.cons (.asg (.nm 8) (.var 11)) (.cons (.asg (.nm 9) (.call 0 (.cons (.var 7) (.cons (.var 1) .nil)))) .nil)) .nil) .nil)) .nil) .nil)
def b_value_at_4 : Ss := (.cons (.ret (.var 9)) .nil)
def b_value_at_5 : Ss := (.cons (.asg (.nm 8) .cnon) (.cons (.asg (.nm 9) (.cint 0)) (.cons (.for (.tup [10, 6, 7]) (.seq (.attr (.var 0) "cells")) b_value_at_3) b_value_at_4)))
def b_value_at : Ss := (.cons (.wh (.cmp .Eq (.sub (.sub (.attr (.var 0) "lists") (.var 2)) (.cint 0)) (.cstr "written")) b_value_at_2) b_value_at_5)
def b_content : Ss := (.cons (.asg (.nm 3) (.call 0 (.cons (.mcall (.var 0) "length" (.cons (.var 2) .nil)) (.cons (.var 1) .nil)))) (.cons (.ret (.new (.comp (.call 1 (.cons (.var 0) (.cons (.var 1) (.cons (.var 2) (.cons (.var 4) .nil))))) (.nm 4) (.rng1 (.var 3)) .no [4]))) .nil))
def b_law_cell_1 : Ss := (.cons (.ret (.cint 0)) .nil)
def b_law_cell : Ss := (.cons (.ite (.cmp .Gt (.blt .len (.cons (.var 0) .nil)) (.cint 0)) (.cons (.ret (.sub (.var 0) (.bin .Mod (.blt .int (.cons (.var 1) .nil)) (.blt .len (.cons (.var 0) .nil))))) .nil) .nil) b_law_cell_1)
def b_law_draws_1 : Ss := (.cons (.ite (.cmp .Gt (.var 5) (.cint 0)) (.cons (.app 6 (.bin .Mod (.blt .int (.cons (.var 5) .nil)) (.sub (.var 2) (.var 7)))) (.cons (.asg (.nm 5) (.bin .FloorDiv (.var 5) (.sub (.var 2) (.var 7)))) .nil)) (.cons (.asg (.nm 8) (.bin .Mod (.blt .int (.cons (.bin .Add (.bin .Mult (.bin .Add (.bin .Add (.bin .Add (.var 4) (.cint 1)) (.bin .Mult (.cint 31) (.var 1))) (.var 7)) (.cint 48271)) (.bin .Mult (.cint 69621) (.var 7))) .nil)) (.sub (.var 3) (.bin .Mod (.var 7) (.cint 8))))) (.cons (.asg (.nm 9) (.bin .Mod (.blt .int (.cons (.bin .Add (.bin .Add (.bin .Mult (.var 8) (.var 8)) (.bin .Mult (.cint 16807) (.var 7))) (.var 1)) .nil)) (.sub (.var 3) (.bin .Mod (.bin .Add (.var 7) (.cint 3)) (.cint 8))))) (.cons (.asg (.nm 9) (.bin .Mod (.blt .int (.cons (.bin .Add (.bin .Add (.bin .Mult (.var 9) (.cint 69621)) (.bin .Mult (.var 8) (.cint 16807))) (.var 7)) .nil)) (.sub (.var 3) (.bin .Mod (.bin .Add (.var 7) (.cint 5)) (.cint 8))))) (.cons (.app 6 (.bin .Mod (.blt .int (.cons (.bin .FloorDiv (.var 9) (.cint 16)) .nil)) (.sub (.var 2) (.var 7)))) .nil))))) .nil)
def b_law_draws_2 : Ss := (.cons (.frz 6) (.cons (.ret (.var 6)) .nil))
def b_law_draws_3 : Ss := (.cons (.asgO 6 (.lst .nil)) (.cons (.for (.nm 7) (.rng1 (.blt .len (.cons (.var 2) .nil))) b_law_draws_1) b_law_draws_2))
def b_law_draws : Ss := (.cons (.asg (.nm 3) (.fz (.lst (.cons (.cint 2147483647) (.cons (.cint 998244353) (.cons (.cint 1000000007) (.cons (.cint 1000000009) (.cons (.cint 4294967291) (.cons (.cint 1073741789) (.cons (.cint 536870909) (.cons (.cint 2305843009213693951) .nil))))))))))) (.cons (.asg (.nm 4) (.blt .abs (.cons (.call 3 (.cons (.var 0) (.cons (.var 1) .nil))) .nil))) (.cons (.asg (.nm 5) (.cint 0)) (.cons (.ite (.cmp .GtE (.var 4) (.bin .Pow (.cint 10) (.cint 18))) (.cons (.asg (.nm 5) (.var 4)) .nil) .nil) b_law_draws_3))))
def b_Known___init__ : Ss := (.cons (.fld (.var 0) "many" (.var 1)) (.cons (.fld (.var 0) "differences" (.fz (.listOf (.var 2)))) (.cons (.fld (.var 0) "lists" (.fz (.listOf (.var 3)))) (.cons (.fld (.var 0) "cells" (.fz (.listOf (.var 4)))) (.cons (.fld (.var 0) "taken" (.fz (.listOf (.var 5)))) (.cons (.fld (.var 0) "fresh" (.fz (.listOf (.var 6)))) .nil))))))
def b_Known_length_1 : Ss := (.cons (.asg (.nm 1) (.sub (.sub (.attr (.var 0) "lists") (.var 1)) (.cint 1))) .nil)
def b_Known_length_2 : Ss := (.cons (.ret (.sub (.sub (.attr (.var 0) "lists") (.var 1)) (.cint 1))) .nil)
def b_Known_length : Ss := (.cons (.wh (.cmp .Eq (.sub (.sub (.attr (.var 0) "lists") (.var 1)) (.cint 0)) (.cstr "written")) b_Known_length_1) b_Known_length_2)
def b_law_at_most : Ss := (.cons (.ret (.tup (.cons (.sub (.var 0) (.cint 0)) (.cons (.sub (.var 1) (.cint 0)) (.cons (.bin .Sub (.sub (.var 1) (.cint 1)) (.sub (.var 0) (.cint 1))) .nil))))) .nil)
def b_law_of_1 : Ss := (.cons (.ret (.bin .Add (.sub (.var 1) (.bin .Sub (.sub (.var 0) (.cint 0)) (.cint 1))) (.sub (.var 0) (.cint 1)))) .nil)
def b_law_of : Ss := (.cons (.ite (.cmp .Eq (.sub (.var 0) (.cint 0)) (.cint 0)) (.cons (.ret (.sub (.var 0) (.cint 1))) .nil) .nil) b_law_of_1)
def b_law_length_1 : Ss := (.cons (.asg (.nm 1) (.sub (.sub (.var 0) (.var 1)) (.cint 1))) .nil)
def b_law_length_2 : Ss := (.cons (.ite (.cmp .Eq (.sub (.sub (.var 0) (.var 1)) (.cint 0)) (.cstr "new")) (.cons (.ret (.sub (.sub (.var 0) (.var 1)) (.cint 1))) .nil) .nil) b_law_length_1)
def b_law_length_3 : Ss := (.cons (.ret .cnon) .nil)
def b_law_length : Ss := (.cons (.for (.nm 2) (.rng1 (.blt .len (.cons (.var 0) .nil))) b_law_length_2) b_law_length_3)
def b_law_small_1 : Ss := (.cons (.ret (.bin .Sub (.bin .Mod (.blt .int (.cons (.bin .FloorDiv (.var 0) (.cint 12)) .nil)) (.cint 12)) (.cint 3))) .nil)
def b_law_small : Ss := (.cons (.ite (.cmp .Eq (.bin .Mod (.blt .int (.cons (.var 0) .nil)) (.cint 12)) (.cint 0)) (.cons (.ret (.bin .Mult (.bin .Sub (.cint 1) (.bin .Mult (.cint 2) (.bin .Mod (.blt .int (.cons (.bin .FloorDiv (.var 0) (.cint 12)) .nil)) (.cint 2)))) (.bin .Add (.bin .Pow (.cint 10) (.cint 9)) (.bin .Mod (.blt .int (.cons (.bin .FloorDiv (.var 0) (.cint 24)) .nil)) (.cint 1000))))) .nil) .nil) b_law_small_1)
def b_law_form_for_1 : Ss := (.cons (.ret (.tup (.cons (.var 3) (.cons (.bin .Sub (.var 2) (.sub (.var 1) (.bin .Sub (.var 3) (.cint 1)))) .nil)))) .nil)
def b_law_form_for : Ss := (.cons (.asg (.nm 3) (.bin .Mod (.blt .int (.cons (.var 0) .nil)) (.bin .Add (.blt .len (.cons (.var 1) .nil)) (.cint 1)))) (.cons (.ite (.cmp .Eq (.var 3) (.cint 0)) (.cons (.ret (.tup (.cons (.cint 0) (.cons (.var 2) .nil)))) .nil) .nil) b_law_form_for_1))
def b_law_told_1 : Ss := (.cons (.asg (.nm 2) (.sub (.var 5) (.cint 1))) .nil)
def b_law_told_2 : Ss := (.cons (.ite (.cmp .Eq (.var 3) (.call 8 (.cons (.sub (.var 5) (.cint 2)) (.cons (.var 1) .nil)))) (.cons (.ret (.call 8 (.cons (.sub (.var 5) (.cint 3)) (.cons (.var 1) .nil)))) .nil) .nil) b_law_told_1)
def b_law_told_3 : Ss := (.cons (.asg (.nm 5) (.sub (.sub (.var 0) (.cint 2)) (.var 2))) (.cons (.ite (.cmp .Eq (.sub (.var 5) (.cint 0)) (.cstr "new")) (.cons .brk .nil) .nil) b_law_told_2))
def b_law_told_4 : Ss := (.cons (.asg (.nm 10) (.call 8 (.cons (.var 8) (.cons (.var 1) .nil)))) (.cons (.ite (.and (.cmp .Eq (.var 5) (.var 2)) (.and (.cmp .LtE (.var 10) (.var 3)) (.or (.cmp .Is (.var 6) .cnon) (.cmp .Gt (.var 10) (.var 6))))) (.cons (.asg (.nm 6) (.var 10)) (.cons (.asg (.nm 7) (.call 8 (.cons (.var 9) (.cons (.var 1) .nil)))) .nil)) .nil) .nil))
def b_law_told_5 : Ss := (.cons (.ret (.var 7)) .nil)
def b_law_told_6 : Ss := (.cons (.asg (.nm 6) .cnon) (.cons (.asg (.nm 7) (.cint 0)) (.cons (.for (.tup [5, 8, 9]) (.seq (.sub (.var 0) (.cint 3))) b_law_told_4) b_law_told_5)))
def b_law_told : Ss := (.cons (.for (.nm 4) (.rng1 (.blt .len (.cons (.sub (.var 0) (.cint 2)) .nil))) b_law_told_3) b_law_told_6)
def b_law_lists_1 : Ss := (.cons (.asg (.nm 6) (.call 4 (.cons (.var 0) (.cons (.bin .Add (.cint 10) (.var 5)) (.cons (.fz (.lst (.cons (.cint 2) (.cons (.cint 7) (.cons (.cint 40) (.cons (.cint 40) (.cons (.cint 10) (.cons (.cint 1000) .nil)))))))) .nil))))) (.cons (.ite (.and (.cmp .Gt (.var 5) (.cint 0)) (.cmp .Gt (.sub (.var 6) (.cint 0)) (.cint 0))) (.cons (.asg (.nm 7) (.call 11 (.cons (.sub (.var 6) (.cint 2)) (.cons (.var 2) (.cons (.bin .Sub (.sub (.var 6) (.cint 4)) (.cint 2)) .nil))))) (.cons (.app 3 (.tup (.cons (.cstr "written") (.cons (.bin .Mod (.blt .int (.cons (.sub (.var 6) (.cint 1)) .nil)) (.var 5)) (.cons (.var 7) (.cons (.call 11 (.cons (.sub (.var 6) (.cint 3)) (.cons (.var 2) (.cons (.bin .Sub (.sub (.var 6) (.cint 5)) (.cint 500)) .nil)))) .nil)))))) .nil)) (.cons (.asg (.nm 8) (.call 11 (.cons (.sub (.var 6) (.cint 2)) (.cons (.var 2) (.cons (.sub (.var 6) (.cint 1)) .nil))))) (.cons (.app 3 (.tup (.cons (.cstr "new") (.cons (.var 8) .nil)))) (.cons (.app 4 (.call 7 (.cons (.tup (.cons (.cint 0) (.cons (.cint 0) .nil))) (.cons (.var 8) .nil)))) .nil)))) .nil))
def b_law_lists_2 : Ss := (.cons (.frz 4) (.cons (.frz 3) (.cons (.ret (.tup (.cons (.var 3) (.cons (.var 4) .nil)))) .nil)))
def b_law_lists : Ss := (.cons (.asgO 3 (.lst .nil)) (.cons (.asgO 4 (.lst .nil)) (.cons (.for (.nm 5) (.rng1 (.var 1)) b_law_lists_1) b_law_lists_2)))
def b_law_cells_1 : Ss := (.cons (.ite (.cmp .Eq (.blt .len (.cons (.fz (.comp (.var 10) (.nm 10) (.seq (.var 8)) (.so (.cmp .Eq (.sub (.var 10) (.cint 1)) (.var 7))) [10])) .nil)) (.cint 0)) (.cons (.appE (.sub (.var 1) (.cint 3)) (.tup (.cons (.var 5) (.cons (.var 7) (.cons (.call 11 (.cons (.sub (.var 3) (.bin .Add (.bin .Mult (.cint 4) (.var 4)) (.cint 5))) (.cons (.var 2) (.cons (.var 9) .nil)))) .nil))))) .nil) .nil) .nil)
def b_law_cells_2 : Ss := (.cons (.ite (.cmp .Gt (.var 4) (.cint 7)) (.cons (.asg (.nm 9) (.call 12 (.cons (.var 1) (.cons (.var 2) (.cons (.var 5) (.cons (.var 6) .nil)))))) .nil) .nil) b_law_cells_1)
def b_law_cells_3 : Ss := (.cons (.ite (.cmp .NotEq (.blt .int (.cons (.cmp .Eq (.sub (.sub (.sub (.var 1) (.cint 2)) (.var 5)) (.cint 0)) (.cstr "written")) .nil)) (.blt .int (.cons (.cmp .Gt (.var 4) (.cint 7)) .nil))) (.cons .cont .nil) .nil) b_law_cells_2)
def b_law_cells_4 : Ss := (.cons (.asg (.nm 5) (.bin .Mod (.blt .int (.cons (.sub (.var 3) (.bin .Add (.bin .Mult (.cint 4) (.var 4)) (.cint 2))) .nil)) (.blt .len (.cons (.sub (.var 1) (.cint 2)) .nil)))) (.cons (.asg (.nm 6) (.bin .Sub (.bin .Mod (.blt .int (.cons (.sub (.var 3) (.bin .Add (.bin .Mult (.cint 4) (.var 4)) (.cint 3))) .nil)) (.cint 10)) (.cint 2))) (.cons (.asg (.nm 7) (.call 11 (.cons (.sub (.var 3) (.bin .Add (.bin .Mult (.cint 4) (.var 4)) (.cint 4))) (.cons (.var 2) (.cons (.var 6) .nil))))) (.cons (.asg (.nm 8) (.fz (.comp (.var 10) (.nm 10) (.seq (.sub (.var 1) (.cint 3))) (.so (.and (.cmp .Eq (.sub (.var 10) (.cint 0)) (.var 5)) (.cmp .Eq (.call 8 (.cons (.sub (.var 10) (.cint 1)) (.cons (.var 2) .nil))) (.var 6)))) [10]))) (.cons (.asg (.nm 9) (.bin .Sub (.bin .FloorDiv (.blt .int (.cons (.sub (.var 3) (.bin .Add (.bin .Mult (.cint 4) (.var 4)) (.cint 5))) .nil)) (.cint 5)) (.cint 100))) (.cons (.ite (.cmp .Gt (.blt .len (.cons (.var 8) .nil)) (.cint 0)) (.cons (.asg (.nm 9) (.call 8 (.cons (.sub (.sub (.var 8) (.cint 0)) (.cint 2)) (.cons (.var 2) .nil)))) .nil) .nil) b_law_cells_3))))))
def b_law_cells_5 : Ss := (.cons (.ite (.or (.and (.cmp .Lt (.var 4) (.cint 8)) (.cmp .GtE (.var 4) (.sub (.var 3) (.cint 0)))) (.and (.cmp .Gt (.var 4) (.cint 7)) (.cmp .GtE (.bin .Sub (.var 4) (.cint 8)) (.sub (.var 3) (.cint 1))))) (.cons .cont .nil) .nil) b_law_cells_4)
def b_law_cells : Ss := (.cons (.asg (.nm 3) (.call 4 (.cons (.var 0) (.cons (.cint 3) (.cons (.fz (.cat (.fz (.lst (.cons (.cint 9) (.cons (.cint 3) .nil)))) (.fz (.comp (.cint 1000) (.nm 4) (.rng1 (.cint 40)) .no [4])))) .nil))))) (.cons (.for (.nm 4) (.rng1 (.cint 10)) b_law_cells_5) .nil))
def b_law_asked_1 : Ss := (.cons (.asg (.nm 4) (.fz (.cat (.var 4) (.fz (.lst (.cons (.bin .Sub (.call 8 (.cons (.var 5) (.cons (.var 1) .nil))) (.cint 1)) (.cons (.call 8 (.cons (.var 5) (.cons (.var 1) .nil))) (.cons (.bin .Add (.call 8 (.cons (.var 5) (.cons (.var 1) .nil))) (.cint 1)) .nil)))))))) .nil)
def b_law_asked_2 : Ss := (.cons (.ret (.fz (.cat (.var 4) (.fz (.lst (.cons (.neg (.bin .Pow (.cint 10) (.cint 12))) (.cons (.bin .Pow (.cint 10) (.cint 12)) .nil))))))) .nil)
def b_law_asked : Ss := (.cons (.asg (.nm 3) (.call 8 (.cons (.call 9 (.cons (.sub (.var 0) (.cint 2)) (.cons (.var 2) .nil))) (.cons (.var 1) .nil)))) (.cons (.asg (.nm 4) (.fz (.comp (.var 6) (.nm 6) (.rng2 (.neg (.cint 3)) (.bin .Add (.var 3) (.cint 3))) .no [6]))) (.cons (.for (.nm 5) (.seq (.fz (.cat (.fz (.comp (.sub (.var 7) (.cint 1)) (.nm 7) (.seq (.sub (.var 0) (.cint 3))) .no [7])) (.fz (.comp (.sub (.var 8) (.cint 2)) (.nm 8) (.seq (.sub (.var 0) (.cint 2))) (.so (.cmp .Eq (.sub (.var 8) (.cint 0)) (.cstr "written"))) [8]))))) b_law_asked_1) b_law_asked_2)))
def b_law_1 : Ss := (.cons (.asg (.nm 10) (.call 1 (.cons (.var 6) (.cons (.var 7) (.cons (.var 8) (.cons (.var 9) .nil)))))) (.cons (.ite (.cmp .NotEq (.blt .repr (.cons (.var 10) .nil)) (.blt .repr (.cons (.call 12 (.cons (.var 5) (.cons (.var 2) (.cons (.var 8) (.cons (.var 9) .nil))))) .nil))) (.cons (.ret (.cbl false)) .nil) .nil) .nil))
def b_law_2 : Ss := (.cons (.appE (.var 10) (.cint 0)) (.cons (.putE (.var 10) (.cint 0) (.bin .Add (.sub (.var 10) (.cint 0)) (.cint 1))) .nil))
def b_law_3 : Ss := (.cons (.asg (.nm 10) (.call 2 (.cons (.var 6) (.cons (.var 7) (.cons (.var 8) .nil))))) (.cons (.ite (.or (.not (.tru (.isi (.var 10) "list"))) (.cmp .NotEq (.blt .repr (.cons (.var 10) .nil)) (.blt .repr (.cons (.var 12) .nil)))) (.cons (.ret (.cbl false)) .nil) .nil) b_law_2))
def b_law_4 : Ss := (.cons (.asg (.nm 11) (.call 8 (.cons (.call 9 (.cons (.var 3) (.cons (.var 8) .nil))) (.cons (.var 2) .nil)))) (.cons (.asg (.nm 12) (.fz (.comp (.call 12 (.cons (.var 5) (.cons (.var 2) (.cons (.var 8) (.cons (.var 9) .nil))))) (.nm 9) (.rng1 (.var 11)) .no [9]))) (.cons (.for (.nm 13) (.rng1 (.cint 2)) b_law_3) .nil)))
def b_law_5 : Ss := (.cons (.for (.nm 9) (.seq (.call 15 (.cons (.var 5) (.cons (.var 2) (.cons (.var 8) .nil))))) b_law_1) b_law_4)
def b_law_6 : Ss := (.cons (.asg (.nm 14) (.fz (.lst (.cons (.attr (.var 6) "many") (.cons (.attr (.var 6) "differences") (.cons (.attr (.var 6) "lists") (.cons (.attr (.var 6) "cells") (.cons (.attr (.var 6) "taken") (.cons (.attr (.var 6) "fresh") (.cons (.fz (.listOf (.var 7))) .nil)))))))))) (.cons (.ret (.cmp .Eq (.blt .repr (.cons (.var 14) .nil)) (.blt .repr (.cons (.fz (.lst (.cons (.sub (.var 5) (.cint 0)) (.cons (.sub (.var 5) (.cint 1)) (.cons (.sub (.var 5) (.cint 2)) (.cons (.sub (.var 5) (.cint 3)) (.cons (.fz (.lst .nil)) (.cons (.fz (.lst .nil)) (.cons (.var 2) .nil))))))))) .nil)))) .nil))
def b_law_7 : Ss := (.cons (.for (.nm 8) (.rng1 (.blt .len (.cons (.var 3) .nil))) b_law_5) b_law_6)
def b_law : Ss := (.cons (.asg (.nm 1) (.call 4 (.cons (.var 0) (.cons (.cint 1) (.cons (.fz (.lst (.cons (.cint 4) (.cons (.cint 4) (.cons (.cint 2) .nil))))) .nil))))) (.cons (.asg (.nm 2) (.fz (.comp (.call 10 (.cons (.var 15) .nil)) (.nm 15) (.seq (.call 4 (.cons (.var 0) (.cons (.cint 2) (.cons (.fz (.comp (.bin .Pow (.cint 10) (.cint 9)) (.nm 9) (.rng1 (.bin .Add (.cint 1) (.sub (.var 1) (.cint 0)))) .no [9])) .nil))))) .no [15]))) (.cons (.asg (.tup [3, 4]) (.call 13 (.cons (.var 0) (.cons (.bin .Add (.cint 1) (.sub (.var 1) (.cint 1))) (.cons (.var 2) .nil))))) (.cons (.asg (.nm 5) (.fz (.lst (.cons (.blt .len (.cons (.var 2) .nil)) (.cons (.var 4) (.cons (.var 3) (.cons (.new (.lst .nil)) .nil))))))) (.cons (.expr (.call 14 (.cons (.var 0) (.cons (.var 5) (.cons (.var 2) .nil))))) (.cons (.asg (.nm 6) (.make 0 (.cons (.sub (.var 5) (.cint 0)) (.cons (.fz (.listOf (.sub (.var 5) (.cint 1)))) (.cons (.fz (.listOf (.sub (.var 5) (.cint 2)))) (.cons (.fz (.listOf (.sub (.var 5) (.cint 3)))) (.cons (.fz (.lst .nil)) (.cons (.fz (.lst .nil)) .nil)))))))) (.cons (.asg (.nm 7) (.fz (.listOf (.var 2)))) (.cons (.ite (.cmp .Eq (.sub (.var 1) (.cint 2)) (.cint 1)) (.cons (.asg (.nm 7) (.blt .tuple (.cons (.var 2) .nil))) .nil) .nil) b_law_7))))))))
def P : Prg where
  fns := [⟨2, 2, b_form_value⟩, ⟨4, 12, b_value_at⟩, ⟨3, 5, b_content⟩, ⟨2, 2, b_law_cell⟩, ⟨3, 10, b_law_draws⟩, ⟨7, 7, b_Known___init__⟩, ⟨2, 2, b_Known_length⟩, ⟨2, 2, b_law_at_most⟩, ⟨2, 2, b_law_of⟩, ⟨2, 3, b_law_length⟩, ⟨1, 1, b_law_small⟩, ⟨3, 4, b_law_form_for⟩, ⟨4, 11, b_law_told⟩, ⟨3, 9, b_law_lists⟩, ⟨3, 11, b_law_cells⟩, ⟨3, 9, b_law_asked⟩, ⟨1, 16, b_law⟩]
  glob := []
  meth := [((0, "length"), 6)]
  init := [(0, 5)]
  flds := [(0, "many"), (0, "differences"), (0, "lists"), (0, "cells"), (0, "taken"), (0, "fresh")]
def T : Tab where
  fname := fun f => ([some "form_value", some "value_at", some "content", some "_law_cell", some "_law_draws", none, none, some "_law_at_most", some "_law_of", some "_law_length", some "_law_small", some "_law_form_for", some "_law_told", some "_law_lists", some "_law_cells", some "_law_asked", some "law"] : List (Option Str)).getD f none
  gname := fun g => ([] : List Str).getD g ""
  cname := fun c => ([some "Known"] : List (Option Str)).getD c none
end K15

set_option maxRecDepth 100000
set_option maxHeartbeats 4000000
namespace K15
open PySem L2 VL
def top (i : Nat) : Stmt := PySem.Challenge.pw_swornrun_k15_values_and_contents.main.body.getD i (.Pass ⟨0, 0, 0, 0⟩)
def t0 : FnT := ⟨"form_value", top 2, ["form", "values"], ["form", "values"]⟩
def t1 : FnT := ⟨"value_at", top 4, ["known", "values", "number", "k", "_", "before", "index", "value", "best", "found", "at", "place"], ["known", "values", "number", "k"]⟩
def t2 : FnT := ⟨"content", top 5, ["known", "values", "number", "many", "k"], ["known", "values", "number"]⟩
def t3 : FnT := ⟨"_law_cell", top 7, ["_law_script", "_law_k"], ["_law_script", "_law_k"]⟩
def t4 : FnT := ⟨"_law_draws", top 8, ["_law_script", "_law_place", "_law_sizes", "_law_primes", "_law_cell_here", "_law_rest", "_law_draws_here", "_law_k", "_law_first", "_law_mixed"], ["_law_script", "_law_place", "_law_sizes"]⟩
def t5 : FnT := ⟨"__init__", inClass (top 3) 0, ["self", "many", "differences", "lists", "cells", "taken", "fresh"], ["self", "many", "differences", "lists", "cells", "taken", "fresh"]⟩
def t6 : FnT := ⟨"length", inClass (top 3) 3, ["self", "number"], ["self", "number"]⟩
def t7 : FnT := ⟨"_law_at_most", top 9, ["_law_f", "_law_g"], ["_law_f", "_law_g"]⟩
def t8 : FnT := ⟨"_law_of", top 10, ["_law_form", "_law_values"], ["_law_form", "_law_values"]⟩
def t9 : FnT := ⟨"_law_length", top 11, ["_law_lists_here", "_law_number", "_law_step"], ["_law_lists_here", "_law_number"]⟩
def t10 : FnT := ⟨"_law_small", top 12, ["_law_draw"], ["_law_draw"]⟩
def t11 : FnT := ⟨"_law_form_for", top 13, ["_law_draw", "_law_values", "_law_target", "_law_j"], ["_law_draw", "_law_values", "_law_target"]⟩
def t12 : FnT := ⟨"_law_told", top 14, ["_law_known", "_law_values", "_law_number", "_law_k", "_law_step", "_law_one", "_law_best", "_law_found", "_law_index", "_law_value", "_law_at"], ["_law_known", "_law_values", "_law_number", "_law_k"]⟩
def t13 : FnT := ⟨"_law_lists", top 15, ["_law_script", "_law_count", "_law_values", "_law_lists_here", "_law_begin", "_law_number", "_law_draws_here", "_law_index", "_law_length_here"], ["_law_script", "_law_count", "_law_values"]⟩
def t14 : FnT := ⟨"_law_cells", top 16, ["_law_script", "_law_known", "_law_values", "_law_draws_here", "_law_k", "_law_number", "_law_target", "_law_index", "_law_alike", "_law_value", "_law_cell_here"], ["_law_script", "_law_known", "_law_values"]⟩
def t15 : FnT := ⟨"_law_asked", top 17, ["_law_known", "_law_values", "_law_number", "_law_length_here", "_law_asked_here", "_law_form", "_law_k", "_law_cell_here", "_law_one"], ["_law_known", "_law_values", "_law_number"]⟩
def t16 : FnT := ⟨"law", top 18, ["_law_script", "_law_shape", "_law_values", "_law_lists_here", "_law_differences", "_law_known", "_law_made", "_law_passed", "_law_number", "_law_k", "_law_found", "_law_length_here", "_law_due", "_law_again", "_law_told_here", "_law_draw"], ["_law_script"]⟩
def ts (f : Nat) : Option FnT := ([t0, t1, t2, t3, t4, t5, t6, t7, t8, t9, t10, t11, t12, t13, t14, t15, t16] : List FnT)[f]?
theorem ag0 : agF T t0 ⟨2, 2, b_form_value⟩ = true := by decide +kernel
theorem ag1 : agF T t1 ⟨4, 12, b_value_at⟩ = true := by decide +kernel
theorem ag2 : agF T t2 ⟨3, 5, b_content⟩ = true := by decide +kernel
theorem ag3 : agF T t3 ⟨2, 2, b_law_cell⟩ = true := by decide +kernel
theorem ag4 : agF T t4 ⟨3, 10, b_law_draws⟩ = true := by decide +kernel
theorem ag5 : agF T t5 ⟨7, 7, b_Known___init__⟩ = true := by decide +kernel
theorem ag6 : agF T t6 ⟨2, 2, b_Known_length⟩ = true := by decide +kernel
theorem ag7 : agF T t7 ⟨2, 2, b_law_at_most⟩ = true := by decide +kernel
theorem ag8 : agF T t8 ⟨2, 2, b_law_of⟩ = true := by decide +kernel
theorem ag9 : agF T t9 ⟨2, 3, b_law_length⟩ = true := by decide +kernel
theorem ag10 : agF T t10 ⟨1, 1, b_law_small⟩ = true := by decide +kernel
theorem ag11 : agF T t11 ⟨3, 4, b_law_form_for⟩ = true := by decide +kernel
theorem ag12 : agF T t12 ⟨4, 11, b_law_told⟩ = true := by decide +kernel
theorem ag13 : agF T t13 ⟨3, 9, b_law_lists⟩ = true := by decide +kernel
theorem ag14 : agF T t14 ⟨3, 11, b_law_cells⟩ = true := by decide +kernel
theorem ag15 : agF T t15 ⟨3, 9, b_law_asked⟩ = true := by decide +kernel
theorem ag16 : agF T t16 ⟨1, 16, b_law⟩ = true := by decide +kernel
end K15

set_option maxRecDepth 100000
set_option maxHeartbeats 4000000
namespace K15
open PySem L2 VL
abbrev il (ns : List Int) : List AV := ns.map AV.int
theorem il_get {ns : List Int} {j : Nat} (hj : j < ns.length) : atI (il ns) (j : Int) = some (.int ns[j]) := by
  rw [atI_nat (by simpa using hj)]
  simp [hj]
theorem k_subI {h : AHeap} {x : AV} {ns : List Int} {j : Nat} {Q : KA} (hv : viewT h x = some (il ns)) (hn : ∀ z, x ≠ .str z) (hj : j < ns.length) (q : Q (.int ns[j])) : subK h x (.int (j : Int)) Q := k_subL hv hn (il_get hj) q
theorem k_subIl {h : AHeap} {ns : List Int} {j : Nat} {Q : KA} (hj : j < ns.length) (q : Q (.int ns[j])) : subK h (.lst (il ns)) (.int (j : Int)) Q := k_subI viewT_lst (fun _ h => by cases h) hj q
theorem comp_ints {B : AV → AHeap → (Option AV → AHeap → Prop) → Prop} {xs : List AV} {h : AHeap} {Q : List AV → AHeap → Prop} (f : Nat → Int) (hs : ∀ i x R, xs[i]? = some x → R (some (.int (f i))) h → B x h R) (hd : Q (il ((List.range xs.length).map f)) h) :
    compL B (fun _ => True) xs [] h Q := comp_map (fun i => .int (f i)) hs (by rw [il, List.map_map] at hd; exact hd)
theorem int_one (ds : List Int) (x : Int) : il ds ++ [.int x] = il (ds ++ [x]) := by rw [il, il, List.map_append]; rfl
theorem set_int (ds : List Int) (j : Nat) (x : Int) : (il ds).set j (.int x) = il (ds.set j x) := by rw [il, il, List.map_set]
theorem int_app (ds es : List Int) : il ds ++ il es = il (ds ++ es) := (List.map_append ..).symm
theorem k_sum {h : AHeap} {ns : List Int} {Q : KA} (q : Q (.int ns.sum)) : bltK h .sum [.lst (il ns)] Q := by
  unfold bltK
  simp only [view_lst, Option.bind_some, asInts_map]
  exact q
theorem k_all {h : AHeap} {bs : List Bool} {Q : KA} (q : Q (.bl (bs.all id))) : bltK h .all [.lst (bs.map AV.bl)] Q := by
  unfold bltK
  simp only [view_lst, Option.bind_some, asBools_map]
  exact q
theorem nat_of {i : Int} (h : 0 ≤ i) : ∃ j : Nat, i = j := Int.eq_ofNat_of_zero_le h
/-- sizes that are drawn below -/
def Sizes (ss : List Int) : Prop := ∀ s ∈ ss, 0 < s ∧ s.natAbs.log2 < 9000
theorem law_cell_ok {n : Nat} {ns : List Int} {k : Int} {h Q} (q : ∀ c : Int, Q (.int c) h) : callN P (n+1) 3 [.ro (il ns), .int k] h Q := by
  refine ⟨rfl, ?_⟩
  show WpSs (ctxOf P (callN P n)) b_law_cell _ [.val (.ro (il ns)), .val (.int k)] h
  simp only [b_law_cell, List.length_map, WpSs, WpS, WpE, WpEs, WpBs, WpO, WpN, WpI, WpC, WpT, getS, setS, tgK, setsS, wipeS, k_add, k_addT, k_sub, k_mul, k_fdiv, k_mod, k_neg, k_lt, k_le, k_gt, k_ge, k_eqI, k_neI, k_eqS, k_neS, k_eqB, k_neB, k_is, k_isn, isNon_non, isNon_int, isNon_str, isNon_lst, isNon_tup, isNon_adr, k_lenS, k_lenL, k_lenR, k_lenT, k_int, k_str, k_abs, tru_bl, augK, ctx_call, ctx_glob, k_in, k_nin, k_inS]
  refine ite_b (fun c => ?_) (fun c => by simp only [b_law_cell_1, WpSs, WpS, WpE, WpEs, WpBs, WpO, WpN, WpI, WpC, WpT, getS, setS, tgK, setsS, wipeS, k_add, k_addT, k_sub, k_mul, k_fdiv, k_mod, k_neg, k_lt, k_le, k_gt, k_ge, k_eqI, k_neI, k_eqS, k_neS, k_eqB, k_neB, k_is, k_isn, isNon_non, isNon_int, isNon_str, isNon_lst, isNon_tup, isNon_adr, k_lenS, k_lenL, k_lenR, k_lenT, k_int, k_str, k_abs, tru_bl, augK, ctx_call, ctx_glob, k_in, k_nin, k_inS]; exact q _)
  have h1 := Int.emod_nonneg k (b := (ns.length : Int)) (by omega)
  have h2 := Int.emod_lt_of_pos k (b := (ns.length : Int)) (by omega)
  refine ⟨by omega, ?_⟩
  obtain ⟨j, hj⟩ := nat_of h1
  rw [hj] at h2 ⊢
  exact k_subI viewT_ro (fun _ h => by cases h) (by omega) (q _)
def primes : List Int := [2147483647, 998244353, 1000000007, 1000000009, 4294967291, 1073741789, 536870909, 2305843009213693951]
theorem primes_ok (j : Nat) (hj : j < primes.length) : 0 < primes[j] ∧ primes[j] ≤ 2305843009213693951 := by
  have : ∀ p ∈ primes, 0 < p ∧ p ≤ 2305843009213693951 := by decide
  exact this _ (List.getElem_mem hj)
theorem k_prime {h : AHeap} {i : Int} {Q : KA} (h0 : 0 ≤ i) (q : ∀ p : Int, 0 < p → p ≤ 2305843009213693951 → Q (.int p)) : subK h (.lst [.int 2147483647, .int 998244353, .int 1000000007, .int 1000000009, .int 4294967291, .int 1073741789, .int 536870909, .int 2305843009213693951]) (.int (i % 8)) Q := by
  have h1 := Int.emod_nonneg i (b := 8) (by omega)
  have h2 := Int.emod_lt_of_pos i (b := 8) (by omega)
  obtain ⟨j, hj⟩ := nat_of h1
  rw [hj] at h2 ⊢
  have hj : j < primes.length := by show j < 8; omega
  exact k_subIl (ns := primes) hj (q _ (primes_ok j hj).1 (primes_ok j hj).2)
theorem draws_ok {n : Nat} {ns ss : List Int} {p : Int} {h Q} (hs : Sizes ss) (hl : ss.length ≤ 1000) (q : ∀ ds : List Int, ds.length = ss.length → (∀ (i : Nat) (h1 : i < ds.length) (h2 : i < ss.length), 0 ≤ ds[i] ∧ ds[i] < ss[i]) → Q (.lst (il ds)) h) : callN P (n+2) 4 [.ro (il ns), .int p, .lst (il ss)] h Q := by
  refine ⟨rfl, ?_⟩
  show WpSs (ctxOf P (callN P (n+1))) b_law_draws _ [.val (.ro (il ns)), .val (.int p), .val (.lst (il ss)), .no, .no, .no, .no, .no, .no, .no] h
  have hz1 : sizeLine = 16777216 := rfl
  simp only [b_law_draws, WpSs, WpS, WpE, WpEs, WpBs, WpO, WpN, WpI, WpC, WpT, getS, setS, tgK, setsS, wipeS, k_add, k_addT, k_sub, k_mul, k_fdiv, k_mod, k_neg, k_lt, k_le, k_gt, k_ge, k_eqI, k_neI, k_eqS, k_neS, k_eqB, k_neB, k_is, k_isn, isNon_non, isNon_int, isNon_str, isNon_lst, isNon_tup, isNon_adr, k_lenS, k_lenL, k_lenR, k_lenT, k_int, k_str, k_abs, tru_bl, augK, ctx_call, ctx_glob, k_in, k_nin, k_inS]
  refine ⟨by decide, ?_⟩
  refine law_cell_ok fun c => ?_
  simp only [WpSs, WpS, WpE, WpEs, WpBs, WpO, WpN, WpI, WpC, WpT, getS, setS, tgK, setsS, wipeS, k_add, k_addT, k_sub, k_mul, k_fdiv, k_mod, k_neg, k_lt, k_le, k_gt, k_ge, k_eqI, k_neI, k_eqS, k_neS, k_eqB, k_neB, k_is, k_isn, isNon_non, isNon_int, isNon_str, isNon_lst, isNon_tup, isNon_adr, k_lenS, k_lenL, k_lenR, k_lenT, k_int, k_str, k_abs, tru_bl, augK, ctx_call, ctx_glob, k_in, k_nin, k_inS]
  refine ⟨⟨by decide, by decide, by decide⟩, ?_⟩
  generalize (if c < 0 then -c else c) = c
  have main : ∀ r : Int, WpSs (ctxOf P (callN P (n+1))) b_law_draws_3 { nx := fun _ h => Q .non h, rt := Q } [.val (.ro (il ns)), .val (.int p), .val (.lst (il ss)), .val (.lst (il primes)), .val (.int c), .val (.int r), .no, .no, .no, .no] h := by
    intro r
    simp only [b_law_draws_3, List.length_map, WpSs, WpS, WpE, WpEs, WpBs, WpO, WpN, WpI, WpC, WpT, getS, setS, tgK, setsS, wipeS, k_add, k_addT, k_sub, k_mul, k_fdiv, k_mod, k_neg, k_lt, k_le, k_gt, k_ge, k_eqI, k_neI, k_eqS, k_neS, k_eqB, k_neB, k_is, k_isn, isNon_non, isNon_int, isNon_str, isNon_lst, isNon_tup, isNon_adr, k_lenS, k_lenL, k_lenR, k_lenT, k_int, k_str, k_abs, tru_bl, augK, ctx_call, ctx_glob, k_in, k_nin, k_inS]
    refine ⟨Nat.zero_le _, ⟨by omega, by omega⟩, ?_⟩
    rw [Int.toNat_natCast]
    refine for_inv (fun k ρ h' => h' = h ∧ ∃ (ds : List Int) (r : Int) (s7 s8 s9 : Slot), ds.length = k ∧ (∀ (i : Nat) (h1 : i < ds.length) (h2 : i < ss.length), 0 ≤ ds[i] ∧ ds[i] < ss[i]) ∧ ρ = [.val (.ro (il ns)), .val (.int p), .val (.lst (il ss)), .val (.lst (il primes)), .val (.int c), .val (.int r), .own (.lst (il ds)), s7, s8, s9]) ⟨rfl, [], r, .no, .no, .no, rfl, by simp, rfl⟩ (fun _ _ _ _ _ => by trivial) ?_ ?_
    · rintro k x _ h D' hx ⟨rfl, ds, r, s7, s8, s9, rfl, hd, rfl⟩ kn kc kr kb
      obtain ⟨hk, rfl⟩ := items_range hx
      have hk : ds.length < ss.length := hk
      have hsz := hs _ (List.getElem_mem hk)
      have app : ∀ v : Int, ∀ (i : Nat) (h1 : i < (ds ++ [v % ss[ds.length]]).length) (h2 : i < ss.length), 0 ≤ (ds ++ [v % ss[ds.length]])[i] ∧ (ds ++ [v % ss[ds.length]])[i] < ss[i] := by
        intro v i h1 h2
        rw [List.length_append] at h1
        have h1 : i < ds.length + 1 := h1
        by_cases e : i < ds.length
        · rw [List.getElem_append_left e]
          exact hd i e h2
        · have e : i = ds.length := by omega
          subst e
          rw [List.getElem_append_right (Nat.le_refl _)]
          simp only [Nat.sub_self, List.getElem_cons_zero]
          exact ⟨Int.emod_nonneg _ (by omega), Int.emod_lt_of_pos _ hsz.1⟩
      simp only [b_law_draws_1, WpSs, WpS, WpE, WpEs, WpBs, WpO, WpN, WpI, WpC, WpT, getS, setS, tgK, setsS, wipeS, k_add, k_addT, k_sub, k_mul, k_fdiv, k_mod, k_neg, k_lt, k_le, k_gt, k_ge, k_eqI, k_neI, k_eqS, k_neS, k_eqB, k_neB, k_is, k_isn, isNon_non, isNon_int, isNon_str, isNon_lst, isNon_tup, isNon_adr, k_lenS, k_lenL, k_lenR, k_lenT, k_int, k_str, k_abs, tru_bl, augK, ctx_call, ctx_glob, k_in, k_nin, k_inS]
      refine ite_b (fun c1 => ?_) (fun c1 => ?_)
      · refine k_subIl hk ?_
        simp only [WpSs, WpS, WpE, WpEs, WpBs, WpO, WpN, WpI, WpC, WpT, getS, setS, tgK, setsS, wipeS, k_add, k_addT, k_sub, k_mul, k_fdiv, k_mod, k_neg, k_lt, k_le, k_gt, k_ge, k_eqI, k_neI, k_eqS, k_neS, k_eqB, k_neB, k_is, k_isn, isNon_non, isNon_int, isNon_str, isNon_lst, isNon_tup, isNon_adr, k_lenS, k_lenL, k_lenR, k_lenT, k_int, k_str, k_abs, tru_bl, augK, ctx_call, ctx_glob, k_in, k_nin, k_inS]
        refine ⟨hsz.1, by rw [List.length_map]; omega, ?_⟩
        refine k_subIl hk ?_
        simp only [int_one, WpSs, WpS, WpE, WpEs, WpBs, WpO, WpN, WpI, WpC, WpT, getS, setS, tgK, setsS, wipeS, k_add, k_addT, k_sub, k_mul, k_fdiv, k_mod, k_neg, k_lt, k_le, k_gt, k_ge, k_eqI, k_neI, k_eqS, k_neS, k_eqB, k_neB, k_is, k_isn, isNon_non, isNon_int, isNon_str, isNon_lst, isNon_tup, isNon_adr, k_lenS, k_lenL, k_lenR, k_lenT, k_int, k_str, k_abs, tru_bl, augK, ctx_call, ctx_glob, k_in, k_nin, k_inS]
        refine ⟨hsz, ?_⟩
        exact kn _ _ ⟨rfl, _, _, _, _, _, by simp, app _, rfl⟩
      · refine ⟨mulA_l (by decide) (by decide), mulA_r (by decide) (by decide), mulA_l (by decide) (by decide), by decide, ?_⟩
        refine k_prime (by omega) fun p1 h1 h2 => ?_
        simp only [WpSs, WpS, WpE, WpEs, WpBs, WpO, WpN, WpI, WpC, WpT, getS, setS, tgK, setsS, wipeS, k_add, k_addT, k_sub, k_mul, k_fdiv, k_mod, k_neg, k_lt, k_le, k_gt, k_ge, k_eqI, k_neI, k_eqS, k_neS, k_eqB, k_neB, k_is, k_isn, isNon_non, isNon_int, isNon_str, isNon_lst, isNon_tup, isNon_adr, k_lenS, k_lenL, k_lenR, k_lenT, k_int, k_str, k_abs, tru_bl, augK, ctx_call, ctx_glob, k_in, k_nin, k_inS]
        generalize ((c + 1 + 31 * p + (ds.length : Int)) * 48271 + 69621 * (ds.length : Int)) = a1
        have h3 := Int.emod_nonneg a1 (b := p1) (by omega)
        have h4 := Int.emod_lt_of_pos a1 h1
        refine ⟨h1, ?_⟩
        generalize a1 % p1 = a2 at h3 h4
        refine ⟨mulA_l (by omega) (by omega), mulA_l (by decide) (by decide), by decide, ?_⟩
        refine k_prime (by omega) fun p2 h1 h2 => ?_
        simp only [WpSs, WpS, WpE, WpEs, WpBs, WpO, WpN, WpI, WpC, WpT, getS, setS, tgK, setsS, wipeS, k_add, k_addT, k_sub, k_mul, k_fdiv, k_mod, k_neg, k_lt, k_le, k_gt, k_ge, k_eqI, k_neI, k_eqS, k_neS, k_eqB, k_neB, k_is, k_isn, isNon_non, isNon_int, isNon_str, isNon_lst, isNon_tup, isNon_adr, k_lenS, k_lenL, k_lenR, k_lenT, k_int, k_str, k_abs, tru_bl, augK, ctx_call, ctx_glob, k_in, k_nin, k_inS]
        refine ⟨h1, ?_⟩
        refine ⟨mulA_r (by decide) (by decide), mulA_r (by decide) (by decide), by decide, ?_⟩
        refine k_prime (by omega) fun p3 h1 h2 => ?_
        simp only [WpSs, WpS, WpE, WpEs, WpBs, WpO, WpN, WpI, WpC, WpT, getS, setS, tgK, setsS, wipeS, k_add, k_addT, k_sub, k_mul, k_fdiv, k_mod, k_neg, k_lt, k_le, k_gt, k_ge, k_eqI, k_neI, k_eqS, k_neS, k_eqB, k_neB, k_is, k_isn, isNon_non, isNon_int, isNon_str, isNon_lst, isNon_tup, isNon_adr, k_lenS, k_lenL, k_lenR, k_lenT, k_int, k_str, k_abs, tru_bl, augK, ctx_call, ctx_glob, k_in, k_nin, k_inS]
        refine ⟨h1, divA (by decide) (by decide), ?_⟩
        refine k_subIl hk ?_
        simp only [int_one, WpSs, WpS, WpE, WpEs, WpBs, WpO, WpN, WpI, WpC, WpT, getS, setS, tgK, setsS, wipeS, k_add, k_addT, k_sub, k_mul, k_fdiv, k_mod, k_neg, k_lt, k_le, k_gt, k_ge, k_eqI, k_neI, k_eqS, k_neS, k_eqB, k_neB, k_is, k_isn, isNon_non, isNon_int, isNon_str, isNon_lst, isNon_tup, isNon_adr, k_lenS, k_lenL, k_lenR, k_lenT, k_int, k_str, k_abs, tru_bl, augK, ctx_call, ctx_glob, k_in, k_nin, k_inS]
        refine ⟨hsz.1, by rw [List.length_map]; omega, ?_⟩
        exact kn _ _ ⟨rfl, _, _, _, _, _, by simp, app _, rfl⟩
    · rintro _ h ⟨rfl, ds, r, s7, s8, s9, hd1, hd, rfl⟩
      simp only [b_law_draws_2, WpSs, WpS, WpE, WpEs, WpBs, WpO, WpN, WpI, WpC, WpT, getS, setS, tgK, setsS, wipeS, k_add, k_addT, k_sub, k_mul, k_fdiv, k_mod, k_neg, k_lt, k_le, k_gt, k_ge, k_eqI, k_neI, k_eqS, k_neS, k_eqB, k_neB, k_is, k_isn, isNon_non, isNon_int, isNon_str, isNon_lst, isNon_tup, isNon_adr, k_lenS, k_lenL, k_lenR, k_lenT, k_int, k_str, k_abs, tru_bl, augK, ctx_call, ctx_glob, k_in, k_nin, k_inS]
      refine q ds ?_ hd
      simpa using hd1
  refine ite_b (fun _ => main _) (fun _ => main _)
end K15

set_option maxRecDepth 100000
set_option maxHeartbeats 4000000
namespace K15
open PySem L2 VL
abbrev Fm := Nat × Int
def fv (vs : List Int) (f : Fm) : Int := if f.1 = 0 then f.2 else (vs[f.1 - 1]?).getD 0 + f.2
def fmv (f : Fm) : AV := .tup [.int (f.1 : Int), .int f.2]
inductive Ls where
  | wr (b : Nat) (i v : Fm) | nw (f : Fm)
def lsv : Ls → AV
  | .wr b i v => .tup [.str "written", .int (b : Int), fmv i, fmv v]
  | .nw f => .tup [.str "new", fmv f]
abbrev Ce := Nat × Fm × Fm
def cev (c : Ce) : AV := .tup [.int (c.1 : Int), fmv c.2.1, fmv c.2.2]
/-- a form that fits -/
def FOk (vs : List Int) (f : Fm) : Prop := f.1 ≤ vs.length ∧ (-10000000000 ≤ f.2 ∧ f.2 ≤ 10000000000) ∧ (-1000 ≤ fv vs f ∧ fv vs f ≤ 1000)
def LOk (vs : List Int) (ls : List Ls) : Prop := ∀ (n : Nat) l, ls[n]? = some l → match l with
  | .wr b i v => b < n ∧ FOk vs i ∧ FOk vs v
  | .nw f => FOk vs f ∧ 0 ≤ fv vs f ∧ fv vs f < 7
def COk (vs : List Int) (n : Nat) (cs : List Ce) : Prop := ∀ c ∈ cs, c.1 < n ∧ FOk vs c.2.1 ∧ FOk vs c.2.2
section
variable (vs : List Int) (ls : List Ls) (cs : List Ce)
def stp (num : Nat) (k : Int) (s : Option Int × Int) (c : Ce) : Option Int × Int :=
  if c.1 = num ∧ fv vs c.2.1 ≤ k ∧ (∀ b, s.1 = some b → b < fv vs c.2.1) then (some (fv vs c.2.1), fv vs c.2.2) else s
def scan (num : Nat) (k : Int) : Int := (cs.foldl (stp vs num k) (none, 0)).2
def valF : Nat → Nat → Int → Int
  | 0, _, _ => 0
  | n + 1, cur, k => match ls[cur]? with
    | some (.wr b i v) => if fv vs i = k then fv vs v else valF n b k
    | _ => scan vs cs cur k
def V (num : Nat) (k : Int) : Int := valF vs ls cs (num + 1) num k
def lenF : Nat → Nat → Fm
  | 0, _ => (0, 0)
  | n + 1, cur => match ls[cur]? with
    | some (.wr b _ _) => lenF n b
    | some (.nw f) => f
    | none => (0, 0)
def LF (num : Nat) : Fm := lenF ls (num + 1) num
end
section
variable {vs : List Int} {ls : List Ls} {cs : List Ce}
theorem valF_eq (ho : LOk vs ls) (k : Int) : ∀ (m cur n : Nat), cur < m → cur < n → valF vs ls cs n cur k = valF vs ls cs (cur + 1) cur k := by
  intro m
  induction m with
  | zero => intro cur n h; omega
  | succ m ih =>
    intro cur n h1 h2
    obtain ⟨n, rfl⟩ : ∃ n', n = n' + 1 := ⟨n - 1, by omega⟩
    simp only [valF]
    cases e : ls[cur]? with
    | none => rfl
    | some l =>
      cases l with
      | nw f => rfl
      | wr b i v =>
        have hb := (ho cur _ e).1
        simp only
        rw [ih b n (by omega) (by omega), ih b cur (by omega) (by omega)]
theorem V_hit {num b : Nat} {i v : Fm} {k : Int} (e : ls[num]? = some (.wr b i v)) (h : fv vs i = k) : V vs ls cs num k = fv vs v := by
  unfold V
  simp only [valF, e, h, if_true]
theorem V_miss (ho : LOk vs ls) {num b : Nat} {i v : Fm} {k : Int} (e : ls[num]? = some (.wr b i v)) (h : fv vs i ≠ k) : V vs ls cs num k = V vs ls cs b k := by
  unfold V
  simp only [valF, e, h, if_false]
  exact valF_eq ho k (b + 1) b num (by omega) (ho num _ e).1
theorem V_new {num : Nat} {f : Fm} {k : Int} (e : ls[num]? = some (.nw f)) : V vs ls cs num k = scan vs cs num k := by
  unfold V
  simp only [valF, e]
theorem lenF_eq (ho : LOk vs ls) : ∀ (m cur n : Nat), cur < m → cur < n → lenF ls n cur = lenF ls (cur + 1) cur := by
  intro m
  induction m with
  | zero => intro cur n h; omega
  | succ m ih =>
    intro cur n h1 h2
    obtain ⟨n, rfl⟩ : ∃ n', n = n' + 1 := ⟨n - 1, by omega⟩
    simp only [lenF]
    cases e : ls[cur]? with
    | none => rfl
    | some l =>
      cases l with
      | nw f => rfl
      | wr b i v =>
        have hb := (ho cur _ e).1
        simp only
        rw [ih b n (by omega) (by omega), ih b cur (by omega) (by omega)]
theorem L_wr (ho : LOk vs ls) {num b : Nat} {i v : Fm} (e : ls[num]? = some (.wr b i v)) : LF ls num = LF ls b := by
  unfold LF
  simp only [lenF, e]
  exact lenF_eq ho (b + 1) b num (by omega) (ho num _ e).1
theorem L_nw {num : Nat} {f : Fm} (e : ls[num]? = some (.nw f)) : LF ls num = f := by
  unfold LF
  simp only [lenF, e]
theorem L_ok (ho : LOk vs ls) : ∀ (m num : Nat), num < m → num < ls.length → FOk vs (LF ls num) ∧ 0 ≤ fv vs (LF ls num) ∧ fv vs (LF ls num) < 7 := by
  intro m
  induction m with
  | zero => intro num h; omega
  | succ m ih =>
    intro num h1 h2
    have e := List.getElem?_eq_getElem h2
    cases w : ls[num] with
    | nw f =>
      rw [w] at e
      rw [L_nw e]
      exact ho num _ e
    | wr b i v =>
      rw [w] at e
      rw [L_wr ho e]
      have hb := (ho num _ e).1
      exact ih b (by omega) (by omega)
theorem fold_bd {num : Nat} {k : Int} {n : Nat} : ∀ (cs : List Ce) (s : Option Int × Int), COk vs n cs → (-1000 ≤ s.2 ∧ s.2 ≤ 1000) → (-1000 ≤ (cs.foldl (stp vs num k) s).2 ∧ (cs.foldl (stp vs num k) s).2 ≤ 1000)
  | [], s, _, h => h
  | c :: cs, s, hc, h => by
    refine fold_bd cs _ (fun x hx => hc x (List.mem_cons_of_mem _ hx)) ?_
    unfold stp
    split
    · exact (hc c (List.mem_cons_self ..)).2.2.2.2
    · exact h
theorem V_bd (ho : LOk vs ls) {n : Nat} (hc : COk vs n cs) (k : Int) : ∀ (m num : Nat), num < m → num < ls.length → -1000 ≤ V vs ls cs num k ∧ V vs ls cs num k ≤ 1000 := by
  intro m
  induction m with
  | zero => intro num h; omega
  | succ m ih =>
    intro num h1 h2
    have e := List.getElem?_eq_getElem h2
    cases w : ls[num] with
    | nw f =>
      rw [w] at e
      rw [V_new e]
      exact fold_bd cs _ hc ⟨by decide, by decide⟩
    | wr b i v =>
      rw [w] at e
      have hb := ho num _ e
      by_cases h : fv vs i = k
      · rw [V_hit e h]; exact hb.2.2.2.2
      · rw [V_miss ho e h]
        exact ih b (by have := hb.1; omega) (by have := hb.1; omega)
end
end K15

set_option maxRecDepth 100000
set_option maxHeartbeats 4000000
namespace K15
open PySem L2 VL
theorem view_adr {h : AHeap} {n : Nat} {xs : List AV} (e : cells h n = .lst xs) : viewT h (.adr n) = some xs := by
  show view h (.adr n) = _
  simp only [view, e]
theorem k_lenV {h : AHeap} {x : AV} {xs : List AV} {Q : KA} (e : viewT h x = some xs) (hn : ∀ z, x ≠ .str z) (q : Q (.int xs.length)) : bltK h .len [x] Q := by
  unfold bltK
  split
  · rename_i b vs z heq
    cases heq
    exact absurd rfl (hn _)
  · rename_i heq
    cases heq
    rw [e]
    exact q
  all_goals (rename_i heq; first | (cases heq; done) | skip)
  all_goals simp_all
theorem k_fm0 {h : AHeap} {f : Fm} {Q : KA} (q : Q (.int (f.1 : Int))) : subK h (fmv f) (.int 0) Q := k_subL (xs := [.int (f.1 : Int), .int f.2]) rfl (fun _ h => by cases h) rfl q
theorem k_fm1 {h : AHeap} {f : Fm} {Q : KA} (q : Q (.int f.2)) : subK h (fmv f) (.int 1) Q := k_subL (xs := [.int (f.1 : Int), .int f.2]) rfl (fun _ h => by cases h) rfl q
theorem form_body {n : Nat} {b1 : Ss} {vs : List Int} {f : Fm} {y : AV} {h : AHeap} {Q : AV → AHeap → Prop} (hv : viewT h y = some (il vs)) (hn : ∀ z, y ≠ .str z) (hf : f.1 ≤ vs.length) (q : Q (.int (fv vs f)) h)
    (e : b1 = (.cons (.ret (.bin .Add (.sub (.var 1) (.bin .Sub (.sub (.var 0) (.cint 0)) (.cint 1))) (.sub (.var 0) (.cint 1)))) .nil)) :
    WpSs (ctxOf P (callN P n)) (.cons (.ite (.cmp .Eq (.sub (.var 0) (.cint 0)) (.cint 0)) (.cons (.ret (.sub (.var 0) (.cint 1))) .nil) .nil) b1) { nx := fun _ h => Q .non h, rt := Q } [.val (fmv f), .val y] h := by
  subst e
  simp only [WpSs, WpS, WpE, WpEs, WpBs, WpO, WpN, WpI, WpC, WpT, getS, setS, tgK, setsS, wipeS, k_add, k_addT, k_sub, k_mul, k_fdiv, k_mod, k_neg, k_lt, k_le, k_gt, k_ge, k_eqI, k_neI, k_eqS, k_neS, k_eqB, k_neB, k_is, k_isn, isNon_non, isNon_int, isNon_str, isNon_lst, isNon_tup, isNon_adr, k_lenS, k_lenL, k_lenR, k_lenT, k_int, k_str, k_abs, tru_bl, augK, ctx_call, ctx_glob, k_in, k_nin, k_inS]
  refine k_fm0 ?_
  simp only [WpSs, WpS, WpE, WpEs, WpBs, WpO, WpN, WpI, WpC, WpT, getS, setS, tgK, setsS, wipeS, k_add, k_addT, k_sub, k_mul, k_fdiv, k_mod, k_neg, k_lt, k_le, k_gt, k_ge, k_eqI, k_neI, k_eqS, k_neS, k_eqB, k_neB, k_is, k_isn, isNon_non, isNon_int, isNon_str, isNon_lst, isNon_tup, isNon_adr, k_lenS, k_lenL, k_lenR, k_lenT, k_int, k_str, k_abs, tru_bl, augK, ctx_call, ctx_glob, k_in, k_nin, k_inS]
  refine ite_b (fun c => ?_) (fun c => ?_)
  · refine k_fm1 ?_
    have : fv vs f = f.2 := if_pos (by omega)
    rw [this] at q
    exact q
  · refine k_fm0 ?_
    have e1 : (f.1 : Int) - 1 = ((f.1 - 1 : Nat) : Int) := by omega
    have hl : f.1 - 1 < vs.length := by omega
    simp only [e1, WpSs, WpS, WpE, WpEs, WpBs, WpO, WpN, WpI, WpC, WpT, getS, setS, tgK, setsS, wipeS, k_add, k_addT, k_sub, k_mul, k_fdiv, k_mod, k_neg, k_lt, k_le, k_gt, k_ge, k_eqI, k_neI, k_eqS, k_neS, k_eqB, k_neB, k_is, k_isn, isNon_non, isNon_int, isNon_str, isNon_lst, isNon_tup, isNon_adr, k_lenS, k_lenL, k_lenR, k_lenT, k_int, k_str, k_abs, tru_bl, augK, ctx_call, ctx_glob, k_in, k_nin, k_inS]
    refine k_subI hv hn hl ?_
    refine k_fm1 ?_
    have : fv vs f = vs[f.1 - 1] + f.2 := by
      unfold fv
      rw [if_neg (by omega), List.getElem?_eq_getElem hl]; rfl
    rw [this] at q
    exact q
theorem form_value_ok {n : Nat} {vs : List Int} {f : Fm} {y : AV} {h : AHeap} {Q} (hv : viewT h y = some (il vs)) (hn : ∀ z, y ≠ .str z) (hf : f.1 ≤ vs.length) (q : Q (.int (fv vs f)) h) : callN P (n+1) 0 [fmv f, y] h Q := ⟨rfl, form_body hv hn hf q rfl⟩
theorem of_ok {n : Nat} {vs : List Int} {f : Fm} {h : AHeap} {Q} (hf : f.1 ≤ vs.length) (q : Q (.int (fv vs f)) h) : callN P (n+1) 8 [fmv f, .lst (il vs)] h Q := ⟨rfl, form_body rfl (fun _ h => by cases h) hf q rfl⟩
theorem ls_get {ls : List Ls} {j : Nat} (hj : j < ls.length) : atI (ls.map lsv) (j : Int) = some (lsv ls[j]) := by
  rw [atI_nat (by simpa using hj)]
  simp [hj]
theorem k_subLs {h : AHeap} {ls : List Ls} {j : Nat} {Q : KA} (hj : j < ls.length) (q : Q (lsv ls[j])) : subK h (.lst (ls.map lsv)) (.int (j : Int)) Q := k_subL viewT_lst (fun _ h => by cases h) (ls_get hj) q
theorem wn : decide (("written" : Str) = "written") = true ∧ decide (("new" : Str) = "written") = false ∧ decide (("written" : Str) = "new") = false ∧ decide (("new" : Str) = "new") = true := by decide +kernel
def bestv : Option Int → AV
  | none => .non
  | some b => .int b
/-- one cell of the walk over the cells, both ways -/
theorem stp_def {vs : List Int} {num : Nat} {k : Int} {b : Option Int} {r : Int} {c : Ce} : stp vs num k (b, r) c = if c.1 = num ∧ fv vs c.2.1 ≤ k ∧ (∀ b', b = some b' → b' < fv vs c.2.1) then (some (fv vs c.2.1), fv vs c.2.2) else (b, r) := rfl
theorem fold_take {vs : List Int} {num : Nat} {k : Int} {cs : List Ce} {i : Nat} {c : Ce} (h : cs[i]? = some c) (s : Option Int × Int) : (cs.take (i + 1)).foldl (stp vs num k) s = stp vs num k ((cs.take i).foldl (stp vs num k) s) c := by
  rw [List.take_succ, h, List.foldl_append]
  rfl
/-- the known as the program keeps it -/
structure KOb (vs : List Int) (h : AHeap) (a : Nat) (m ds : AV) (ls : List Ls) (cs : List Ce) : Prop where
  at_ : cells h a = .obj 0 [("many", m), ("differences", ds), ("lists", .lst (ls.map lsv)), ("cells", .lst (cs.map cev)), ("taken", .lst []), ("fresh", .lst [])]
theorem fld_ok (f : Str) (h : ([(0, "many"), (0, "differences"), (0, "lists"), (0, "cells"), (0, "taken"), (0, "fresh")] : List (Nat × Str)).contains (0, f) = true) {n : Nat} : (ctxOf P (callN P n)).fld 0 f = true := h
theorem look_lists {m ds ls cs t f : AV} : ([("many", m), ("differences", ds), ("lists", ls), ("cells", cs), ("taken", t), ("fresh", f)] : List (Str × AV)).lookup ("lists" : Str) = some ls := rfl
theorem look_cells {m ds ls cs t f : AV} : ([("many", m), ("differences", ds), ("lists", ls), ("cells", cs), ("taken", t), ("fresh", f)] : List (Str × AV)).lookup ("cells" : Str) = some cs := rfl
theorem value_at_ok {n : Nat} {vs : List Int} {h : AHeap} {a num : Nat} {k : Int} {m ds y : AV} {ls : List Ls} {cs : List Ce} {Q} (hv : viewT h y = some (il vs)) (hn : ∀ z, y ≠ .str z) (ko : KOb vs h a m ds ls cs) (ho : LOk vs ls) (hc : COk vs ls.length cs) (hnum : num < ls.length)
    (q : Q (.int (V vs ls cs num k)) h) : callN P (n+2) 1 [.adr a, y, .int (num : Int), .int k] h Q := by
  refine ⟨rfl, ?_⟩
  have ka := ko.at_
  show WpSs (ctxOf P (callN P (n+1))) b_value_at _ [.val (.adr a), .val y, .val (.int num), .val (.int k), .no, .no, .no, .no, .no, .no, .no, .no] h
  simp only [b_value_at, WpSs, WpS, WpE, WpEs, WpBs, WpO, WpN, WpI, WpC, WpT, getS, setS, tgK, setsS, wipeS, k_add, k_addT, k_sub, k_mul, k_fdiv, k_mod, k_neg, k_lt, k_le, k_gt, k_ge, k_eqI, k_neI, k_eqS, k_neS, k_eqB, k_neB, k_is, k_isn, isNon_non, isNon_int, isNon_str, isNon_lst, isNon_tup, isNon_adr, k_lenS, k_lenL, k_lenR, k_lenT, k_int, k_str, k_abs, tru_bl, augK, ctx_call, ctx_glob, k_in, k_nin, k_inS]
  refine wh_inv (fun mm ρ h' => h' = h ∧ ∃ (cur : Nat) (s4 s5 s6 s7 : Slot), mm = cur ∧ cur < ls.length ∧ V vs ls cs cur k = V vs ls cs num k ∧ ρ = [.val (.adr a), .val y, .val (.int cur), .val (.int k), s4, s5, s6, s7, .no, .no, .no, .no]) num ⟨rfl, num, .no, .no, .no, .no, rfl, hnum, rfl, rfl⟩ ?_
  rintro mm _ h D' ⟨rfl, cur, s4, s5, s6, s7, hm, hcur, hV, rfl⟩ kn kc kr kb
  have hm := hm.symm
  subst hm
  have e := List.getElem?_eq_getElem hcur
  simp only [ka, look_lists, fld_ok "lists" rfl, true_and, WpSs, WpS, WpE, WpEs, WpBs, WpO, WpN, WpI, WpC, WpT, getS, setS, tgK, setsS, wipeS, k_add, k_addT, k_sub, k_mul, k_fdiv, k_mod, k_neg, k_lt, k_le, k_gt, k_ge, k_eqI, k_neI, k_eqS, k_neS, k_eqB, k_neB, k_is, k_isn, isNon_non, isNon_int, isNon_str, isNon_lst, isNon_tup, isNon_adr, k_lenS, k_lenL, k_lenR, k_lenT, k_int, k_str, k_abs, tru_bl, augK, ctx_call, ctx_glob, k_in, k_nin, k_inS]
  refine k_subLs (h := h) hcur ?_
  cases w : ls[cur] with
  | wr b i v =>
    rw [w] at e
    have hb := ho cur _ e
    have hb1 := hb.1
    refine k_subL (d := .str "written") (xs := [.str "written", .int (b : Int), fmv i, fmv v]) rfl (fun _ h => by cases h) rfl ?_
    simp only [wn.1, if_true, b_value_at_2, ka, look_lists, fld_ok "lists" rfl, true_and, WpSs, WpS, WpE, WpEs, WpBs, WpO, WpN, WpI, WpC, WpT, getS, setS, tgK, setsS, wipeS, k_add, k_addT, k_sub, k_mul, k_fdiv, k_mod, k_neg, k_lt, k_le, k_gt, k_ge, k_eqI, k_neI, k_eqS, k_neS, k_eqB, k_neB, k_is, k_isn, isNon_non, isNon_int, isNon_str, isNon_lst, isNon_tup, isNon_adr, k_lenS, k_lenL, k_lenR, k_lenT, k_int, k_str, k_abs, tru_bl, augK, ctx_call, ctx_glob, k_in, k_nin, k_inS]
    refine k_subLs (h := h) hcur ?_
    rw [w]
    simp only [lsv, WpSs, WpS, WpE, WpEs, WpBs, WpO, WpN, WpI, WpC, WpT, getS, setS, tgK, setsS, wipeS, k_add, k_addT, k_sub, k_mul, k_fdiv, k_mod, k_neg, k_lt, k_le, k_gt, k_ge, k_eqI, k_neI, k_eqS, k_neS, k_eqB, k_neB, k_is, k_isn, isNon_non, isNon_int, isNon_str, isNon_lst, isNon_tup, isNon_adr, k_lenS, k_lenL, k_lenR, k_lenT, k_int, k_str, k_abs, tru_bl, augK, ctx_call, ctx_glob, k_in, k_nin, k_inS]
    refine form_value_ok hv hn hb.2.1.1 ?_
    simp only [WpSs, WpS, WpE, WpEs, WpBs, WpO, WpN, WpI, WpC, WpT, getS, setS, tgK, setsS, wipeS, k_add, k_addT, k_sub, k_mul, k_fdiv, k_mod, k_neg, k_lt, k_le, k_gt, k_ge, k_eqI, k_neI, k_eqS, k_neS, k_eqB, k_neB, k_is, k_isn, isNon_non, isNon_int, isNon_str, isNon_lst, isNon_tup, isNon_adr, k_lenS, k_lenL, k_lenR, k_lenT, k_int, k_str, k_abs, tru_bl, augK, ctx_call, ctx_glob, k_in, k_nin, k_inS]
    refine ite_b (fun c => ?_) (fun c => ?_)
    · refine form_value_ok hv hn hb.2.2.1 ?_
      rw [← hV, V_hit e c] at q
      exact kr _ _ q
    · simp only [b_value_at_1, WpSs, WpS, WpE, WpEs, WpBs, WpO, WpN, WpI, WpC, WpT, getS, setS, tgK, setsS, wipeS, k_add, k_addT, k_sub, k_mul, k_fdiv, k_mod, k_neg, k_lt, k_le, k_gt, k_ge, k_eqI, k_neI, k_eqS, k_neS, k_eqB, k_neB, k_is, k_isn, isNon_non, isNon_int, isNon_str, isNon_lst, isNon_tup, isNon_adr, k_lenS, k_lenL, k_lenR, k_lenT, k_int, k_str, k_abs, tru_bl, augK, ctx_call, ctx_glob, k_in, k_nin, k_inS]
      refine kn b _ _ hb1 ⟨rfl, b, _, _, _, _, rfl, by omega, ?_, rfl⟩
      rw [← hV, V_miss ho e c]
  | nw f =>
    rw [w] at e
    refine k_subL (d := .str "new") (xs := [.str "new", fmv f]) rfl (fun _ h => by cases h) rfl ?_
    simp only [wn.2.1, Bool.false_eq_true, if_false, b_value_at_5, ka, look_cells, fld_ok "cells" rfl, true_and, viewT_lst, WpSs, WpS, WpE, WpEs, WpBs, WpO, WpN, WpI, WpC, WpT, getS, setS, tgK, setsS, wipeS, k_add, k_addT, k_sub, k_mul, k_fdiv, k_mod, k_neg, k_lt, k_le, k_gt, k_ge, k_eqI, k_neI, k_eqS, k_neS, k_eqB, k_neB, k_is, k_isn, isNon_non, isNon_int, isNon_str, isNon_lst, isNon_tup, isNon_adr, k_lenS, k_lenL, k_lenR, k_lenT, k_int, k_str, k_abs, tru_bl, augK, ctx_call, ctx_glob, k_in, k_nin, k_inS]
    refine for_inv (fun i ρ h' => h' = h ∧ ∃ (best : Option Int) (r : Int) (s6 s7 s10 s11 : Slot), (cs.take i).foldl (stp vs cur k) (none, 0) = (best, r) ∧ ρ = [.val (.adr a), .val y, .val (.int cur), .val (.int k), s4, s5, s6, s7, .val (bestv best), .val (.int r), s10, s11]) ⟨rfl, none, 0, _, _, _, _, rfl, rfl⟩ (fun _ _ _ _ _ => by trivial) ?_ ?_
    · rintro i x _ h D2 hx ⟨rfl, best, r, s6, s7, s10, s11, hf, rfl⟩ kn2 kc2 kr2 kb2
      obtain ⟨c, hci, rfl⟩ := items_map hx
      have hco := hc c (List.mem_of_getElem? hci)
      have ft := fold_take (vs := vs) (num := cur) (k := k) hci (none, 0)
      rw [hf, stp_def] at ft
      simp only [cev, b_value_at_3, WpSs, WpS, WpE, WpEs, WpBs, WpO, WpN, WpI, WpC, WpT, getS, setS, tgK, setsS, wipeS, k_add, k_addT, k_sub, k_mul, k_fdiv, k_mod, k_neg, k_lt, k_le, k_gt, k_ge, k_eqI, k_neI, k_eqS, k_neS, k_eqB, k_neB, k_is, k_isn, isNon_non, isNon_int, isNon_str, isNon_lst, isNon_tup, isNon_adr, k_lenS, k_lenL, k_lenR, k_lenT, k_int, k_str, k_abs, tru_bl, augK, ctx_call, ctx_glob, k_in, k_nin, k_inS]
      by_cases c1 : c.1 = cur
      · have d1 : decide ((c.1 : Int) = (cur : Int)) = true := decide_eq_true (by omega)
        simp only [d1, if_true, WpSs, WpS, WpE, WpEs, WpBs, WpO, WpN, WpI, WpC, WpT, getS, setS, tgK, setsS, wipeS, k_add, k_addT, k_sub, k_mul, k_fdiv, k_mod, k_neg, k_lt, k_le, k_gt, k_ge, k_eqI, k_neI, k_eqS, k_neS, k_eqB, k_neB, k_is, k_isn, isNon_non, isNon_int, isNon_str, isNon_lst, isNon_tup, isNon_adr, k_lenS, k_lenL, k_lenR, k_lenT, k_int, k_str, k_abs, tru_bl, augK, ctx_call, ctx_glob, k_in, k_nin, k_inS]
        refine form_value_ok hv hn hco.2.1.1 ?_
        simp only [WpSs, WpS, WpE, WpEs, WpBs, WpO, WpN, WpI, WpC, WpT, getS, setS, tgK, setsS, wipeS, k_add, k_addT, k_sub, k_mul, k_fdiv, k_mod, k_neg, k_lt, k_le, k_gt, k_ge, k_eqI, k_neI, k_eqS, k_neS, k_eqB, k_neB, k_is, k_isn, isNon_non, isNon_int, isNon_str, isNon_lst, isNon_tup, isNon_adr, k_lenS, k_lenL, k_lenR, k_lenT, k_int, k_str, k_abs, tru_bl, augK, ctx_call, ctx_glob, k_in, k_nin, k_inS]
        have no : ¬ (c.1 = cur ∧ fv vs c.2.1 ≤ k ∧ (∀ b', best = some b' → b' < fv vs c.2.1)) → D2.nx [.val (.adr a), .val y, .val (.int cur), .val (.int k), s4, s5, .val (fmv c.2.1), .val (fmv c.2.2), .val (bestv best), .val (.int r), .val (.int (c.1 : Int)), .val (.int (fv vs c.2.1))] h := fun z => by
          rw [if_neg z] at ft
          exact kn2 _ _ ⟨rfl, _, _, _, _, _, _, ft, rfl⟩
        have yes : (c.1 = cur ∧ fv vs c.2.1 ≤ k ∧ (∀ b', best = some b' → b' < fv vs c.2.1)) → callN P (n+1) 0 [fmv c.2.2, y] h fun x h1 => D2.nx [.val (.adr a), .val y, .val (.int cur), .val (.int k), s4, s5, .val (fmv c.2.1), .val (fmv c.2.2), .val (.int (fv vs c.2.1)), .val x, .val (.int (c.1 : Int)), .val (.int (fv vs c.2.1))] h1 := fun z => by
          rw [if_pos z] at ft
          refine form_value_ok hv hn hco.2.2.1 ?_
          exact kn2 _ _ ⟨rfl, some (fv vs c.2.1), _, _, _, _, _, ft, rfl⟩
        refine ite_b (fun c2 => ?_) (fun c2 => ?_)
        · cases best with
          | none =>
            simp only [bestv, isNon_non, if_true, WpSs, WpS, WpE, WpEs, WpBs, WpO, WpN, WpI, WpC, WpT, getS, setS, tgK, setsS, wipeS, k_add, k_addT, k_sub, k_mul, k_fdiv, k_mod, k_neg, k_lt, k_le, k_gt, k_ge, k_eqI, k_neI, k_eqS, k_neS, k_eqB, k_neB, k_is, k_isn, isNon_non, isNon_int, isNon_str, isNon_lst, isNon_tup, isNon_adr, k_lenS, k_lenL, k_lenR, k_lenT, k_int, k_str, k_abs, tru_bl, augK, ctx_call, ctx_glob, k_in, k_nin, k_inS]
            exact yes ⟨c1, c2, fun _ z => by cases z⟩
          | some b =>
            simp only [bestv, isNon_int, Bool.false_eq_true, if_false, WpSs, WpS, WpE, WpEs, WpBs, WpO, WpN, WpI, WpC, WpT, getS, setS, tgK, setsS, wipeS, k_add, k_addT, k_sub, k_mul, k_fdiv, k_mod, k_neg, k_lt, k_le, k_gt, k_ge, k_eqI, k_neI, k_eqS, k_neS, k_eqB, k_neB, k_is, k_isn, isNon_non, isNon_int, isNon_str, isNon_lst, isNon_tup, isNon_adr, k_lenS, k_lenL, k_lenR, k_lenT, k_int, k_str, k_abs, tru_bl, augK, ctx_call, ctx_glob, k_in, k_nin, k_inS]
            refine ite_b (fun c3 => yes ⟨c1, c2, fun _ z => by cases z; exact c3⟩) (fun c3 => no fun z => c3 (z.2.2 b rfl))
        · simp only [Bool.false_eq_true, if_false]
          exact no fun z => c2 z.2.1
      · have d1 : decide ((c.1 : Int) = (cur : Int)) = false := decide_eq_false (by omega)
        rw [if_neg fun z => c1 z.1] at ft
        simp only [d1, Bool.false_eq_true, if_false]
        exact kn2 _ _ ⟨rfl, _, _, _, _, _, _, ft, rfl⟩
    · rintro _ h ⟨rfl, best, r, s6, s7, s10, s11, hf, rfl⟩
      simp only [b_value_at_4, WpSs, WpS, WpE, WpEs, WpBs, WpO, WpN, WpI, WpC, WpT, getS, setS, tgK, setsS, wipeS, k_add, k_addT, k_sub, k_mul, k_fdiv, k_mod, k_neg, k_lt, k_le, k_gt, k_ge, k_eqI, k_neI, k_eqS, k_neS, k_eqB, k_neB, k_is, k_isn, isNon_non, isNon_int, isNon_str, isNon_lst, isNon_tup, isNon_adr, k_lenS, k_lenL, k_lenR, k_lenT, k_int, k_str, k_abs, tru_bl, augK, ctx_call, ctx_glob, k_in, k_nin, k_inS]
      rw [List.length_map, List.take_length] at hf
      have : V vs ls cs cur k = r := by
        rw [V_new e]
        unfold scan
        rw [hf]
      rw [← hV, this] at q
      exact q
end K15

set_option maxRecDepth 100000
set_option maxHeartbeats 4000000
namespace K15
open PySem L2 VL
theorem length_ok {n : Nat} {vs : List Int} {h : AHeap} {a num : Nat} {m ds : AV} {ls : List Ls} {cs : List Ce} {Q} (ko : KOb vs h a m ds ls cs) (ho : LOk vs ls) (hnum : num < ls.length) (q : Q (fmv (LF ls num)) h) : callN P (n+1) 6 [.adr a, .int (num : Int)] h Q := by
  refine ⟨rfl, ?_⟩
  have ka := ko.at_
  show WpSs (ctxOf P (callN P n)) b_Known_length _ [.val (.adr a), .val (.int num)] h
  simp only [b_Known_length, WpSs, WpS, WpE, WpEs, WpBs, WpO, WpN, WpI, WpC, WpT, getS, setS, tgK, setsS, wipeS, k_add, k_addT, k_sub, k_mul, k_fdiv, k_mod, k_neg, k_lt, k_le, k_gt, k_ge, k_eqI, k_neI, k_eqS, k_neS, k_eqB, k_neB, k_is, k_isn, isNon_non, isNon_int, isNon_str, isNon_lst, isNon_tup, isNon_adr, k_lenS, k_lenL, k_lenR, k_lenT, k_int, k_str, k_abs, tru_bl, augK, ctx_call, ctx_glob, k_in, k_nin, k_inS]
  refine wh_inv (fun mm ρ h' => h' = h ∧ ∃ cur : Nat, mm = cur ∧ cur < ls.length ∧ LF ls cur = LF ls num ∧ ρ = [.val (.adr a), .val (.int cur)]) num ⟨rfl, num, rfl, hnum, rfl, rfl⟩ ?_
  rintro mm _ h D' ⟨rfl, cur, hm, hcur, hV, rfl⟩ kn kc kr kb
  have hm := hm.symm
  subst hm
  have e := List.getElem?_eq_getElem hcur
  simp only [ka, look_lists, fld_ok "lists" rfl, true_and, WpSs, WpS, WpE, WpEs, WpBs, WpO, WpN, WpI, WpC, WpT, getS, setS, tgK, setsS, wipeS, k_add, k_addT, k_sub, k_mul, k_fdiv, k_mod, k_neg, k_lt, k_le, k_gt, k_ge, k_eqI, k_neI, k_eqS, k_neS, k_eqB, k_neB, k_is, k_isn, isNon_non, isNon_int, isNon_str, isNon_lst, isNon_tup, isNon_adr, k_lenS, k_lenL, k_lenR, k_lenT, k_int, k_str, k_abs, tru_bl, augK, ctx_call, ctx_glob, k_in, k_nin, k_inS]
  refine k_subLs (h := h) hcur ?_
  cases w : ls[cur] with
  | wr b i v =>
    rw [w] at e
    have hb1 := (ho cur _ e).1
    refine k_subL (d := .str "written") (xs := [.str "written", .int (b : Int), fmv i, fmv v]) rfl (fun _ h => by cases h) rfl ?_
    simp only [wn.1, if_true, b_Known_length_1, ka, look_lists, fld_ok "lists" rfl, true_and, WpSs, WpS, WpE, WpEs, WpBs, WpO, WpN, WpI, WpC, WpT, getS, setS, tgK, setsS, wipeS, k_add, k_addT, k_sub, k_mul, k_fdiv, k_mod, k_neg, k_lt, k_le, k_gt, k_ge, k_eqI, k_neI, k_eqS, k_neS, k_eqB, k_neB, k_is, k_isn, isNon_non, isNon_int, isNon_str, isNon_lst, isNon_tup, isNon_adr, k_lenS, k_lenL, k_lenR, k_lenT, k_int, k_str, k_abs, tru_bl, augK, ctx_call, ctx_glob, k_in, k_nin, k_inS]
    refine k_subLs (h := h) hcur ?_
    rw [w]
    refine k_subL (d := .int (b : Int)) (xs := [.str "written", .int (b : Int), fmv i, fmv v]) rfl (fun _ h => by cases h) rfl ?_
    exact kn b _ _ hb1 ⟨rfl, b, rfl, by omega, by rw [← hV, L_wr ho e], rfl⟩
  | nw f =>
    rw [w] at e
    refine k_subL (d := .str "new") (xs := [.str "new", fmv f]) rfl (fun _ h => by cases h) rfl ?_
    simp only [wn.2.1, Bool.false_eq_true, if_false, b_Known_length_2, ka, look_lists, fld_ok "lists" rfl, true_and, WpSs, WpS, WpE, WpEs, WpBs, WpO, WpN, WpI, WpC, WpT, getS, setS, tgK, setsS, wipeS, k_add, k_addT, k_sub, k_mul, k_fdiv, k_mod, k_neg, k_lt, k_le, k_gt, k_ge, k_eqI, k_neI, k_eqS, k_neS, k_eqB, k_neB, k_is, k_isn, isNon_non, isNon_int, isNon_str, isNon_lst, isNon_tup, isNon_adr, k_lenS, k_lenL, k_lenR, k_lenT, k_int, k_str, k_abs, tru_bl, augK, ctx_call, ctx_glob, k_in, k_nin, k_inS]
    refine k_subLs (h := h) hcur ?_
    rw [w]
    refine k_subL (d := fmv f) (xs := [.str "new", fmv f]) rfl (fun _ h => by cases h) rfl ?_
    rw [← hV, L_nw e] at q
    exact q
theorem law_length_ok {n : Nat} {vs : List Int} {h : AHeap} {num : Nat} {ls : List Ls} {Q} (ho : LOk vs ls) (hl : ls.length ≤ 100) (hnum : num < ls.length) (q : Q (fmv (LF ls num)) h) : callN P (n+1) 9 [.lst (ls.map lsv), .int (num : Int)] h Q := by
  refine ⟨rfl, ?_⟩
  show WpSs (ctxOf P (callN P n)) b_law_length _ [.val (.lst (ls.map lsv)), .val (.int num), .no] h
  simp only [b_law_length, List.length_map, WpSs, WpS, WpE, WpEs, WpBs, WpO, WpN, WpI, WpC, WpT, getS, setS, tgK, setsS, wipeS, k_add, k_addT, k_sub, k_mul, k_fdiv, k_mod, k_neg, k_lt, k_le, k_gt, k_ge, k_eqI, k_neI, k_eqS, k_neS, k_eqB, k_neB, k_is, k_isn, isNon_non, isNon_int, isNon_str, isNon_lst, isNon_tup, isNon_adr, k_lenS, k_lenL, k_lenR, k_lenT, k_int, k_str, k_abs, tru_bl, augK, ctx_call, ctx_glob, k_in, k_nin, k_inS]
  refine ⟨⟨by omega, by omega⟩, ?_⟩
  rw [Int.toNat_natCast]
  refine for_inv (fun i ρ h' => h' = h ∧ ∃ (cur : Nat) (s : Slot), cur + i ≤ num ∧ LF ls cur = LF ls num ∧ ρ = [.val (.lst (ls.map lsv)), .val (.int cur), s]) ⟨rfl, num, .no, by omega, rfl, rfl⟩ (fun _ _ _ _ _ => by trivial) ?_ ?_
  · rintro i x _ h D' hx ⟨rfl, cur, s, hci, hV, rfl⟩ kn kc kr kb
    have hcur : cur < ls.length := by omega
    have e := List.getElem?_eq_getElem hcur
    simp only [b_law_length_2, WpSs, WpS, WpE, WpEs, WpBs, WpO, WpN, WpI, WpC, WpT, getS, setS, tgK, setsS, wipeS, k_add, k_addT, k_sub, k_mul, k_fdiv, k_mod, k_neg, k_lt, k_le, k_gt, k_ge, k_eqI, k_neI, k_eqS, k_neS, k_eqB, k_neB, k_is, k_isn, isNon_non, isNon_int, isNon_str, isNon_lst, isNon_tup, isNon_adr, k_lenS, k_lenL, k_lenR, k_lenT, k_int, k_str, k_abs, tru_bl, augK, ctx_call, ctx_glob, k_in, k_nin, k_inS]
    refine k_subLs (h := h) hcur ?_
    cases w : ls[cur] with
    | wr b i' v =>
      rw [w] at e
      have hb1 := (ho cur _ e).1
      refine k_subL (d := .str "written") (xs := [.str "written", .int (b : Int), fmv i', fmv v]) rfl (fun _ h => by cases h) rfl ?_
      simp only [wn.2.2.1, Bool.false_eq_true, if_false, b_law_length_1, WpSs, WpS, WpE, WpEs, WpBs, WpO, WpN, WpI, WpC, WpT, getS, setS, tgK, setsS, wipeS, k_add, k_addT, k_sub, k_mul, k_fdiv, k_mod, k_neg, k_lt, k_le, k_gt, k_ge, k_eqI, k_neI, k_eqS, k_neS, k_eqB, k_neB, k_is, k_isn, isNon_non, isNon_int, isNon_str, isNon_lst, isNon_tup, isNon_adr, k_lenS, k_lenL, k_lenR, k_lenT, k_int, k_str, k_abs, tru_bl, augK, ctx_call, ctx_glob, k_in, k_nin, k_inS]
      refine k_subLs (h := h) hcur ?_
      rw [w]
      refine k_subL (d := .int (b : Int)) (xs := [.str "written", .int (b : Int), fmv i', fmv v]) rfl (fun _ h => by cases h) rfl ?_
      exact kn _ _ ⟨rfl, b, _, by omega, by rw [← hV, L_wr ho e], rfl⟩
    | nw f =>
      rw [w] at e
      refine k_subL (d := .str "new") (xs := [.str "new", fmv f]) rfl (fun _ h => by cases h) rfl ?_
      simp only [wn.2.2.2, if_true, WpSs, WpS, WpE, WpEs, WpBs, WpO, WpN, WpI, WpC, WpT, getS, setS, tgK, setsS, wipeS, k_add, k_addT, k_sub, k_mul, k_fdiv, k_mod, k_neg, k_lt, k_le, k_gt, k_ge, k_eqI, k_neI, k_eqS, k_neS, k_eqB, k_neB, k_is, k_isn, isNon_non, isNon_int, isNon_str, isNon_lst, isNon_tup, isNon_adr, k_lenS, k_lenL, k_lenR, k_lenT, k_int, k_str, k_abs, tru_bl, augK, ctx_call, ctx_glob, k_in, k_nin, k_inS]
      refine k_subLs (h := h) hcur ?_
      rw [w]
      refine k_subL (d := fmv f) (xs := [.str "new", fmv f]) rfl (fun _ h => by cases h) rfl ?_
      rw [← hV, L_nw e] at q
      exact kr _ _ q
  · rintro _ h ⟨rfl, cur, s, hci, hV, rfl⟩
    simp only [List.length_map, List.length_range] at hci
    omega
theorem content_ok {n : Nat} {vs : List Int} {h : AHeap} {a num : Nat} {m ds y : AV} {ls : List Ls} {cs : List Ce} {Q} (hv : viewT h y = some (il vs)) (hn : ∀ z, y ≠ .str z) (ko : KOb vs h a m ds ls cs) (ho : LOk vs ls) (hc : COk vs ls.length cs) (hnum : num < ls.length)
    (q : Q (.adr h.length) (h ++ [.lst (il ((List.range (fv vs (LF ls num)).toNat).map fun k : Nat => V vs ls cs num (k : Int)))])) : callN P (n+3) 2 [.adr a, y, .int (num : Int)] h Q := by
  refine ⟨rfl, ?_⟩
  have hz1 : sizeLine = 16777216 := rfl
  have ka := ko.at_
  have L := L_ok ho (num + 1) num (by omega) hnum
  show WpSs (ctxOf P (callN P (n+2))) b_content _ [.val (.adr a), .val y, .val (.int num), .no, .no] h
  simp only [b_content, ka, WpSs, WpS, WpE, WpEs, WpBs, WpO, WpN, WpI, WpC, WpT, getS, setS, tgK, setsS, wipeS, k_add, k_addT, k_sub, k_mul, k_fdiv, k_mod, k_neg, k_lt, k_le, k_gt, k_ge, k_eqI, k_neI, k_eqS, k_neS, k_eqB, k_neB, k_is, k_isn, isNon_non, isNon_int, isNon_str, isNon_lst, isNon_tup, isNon_adr, k_lenS, k_lenL, k_lenR, k_lenT, k_int, k_str, k_abs, tru_bl, augK, ctx_call, ctx_glob, k_in, k_nin, k_inS]
  have no : ([("many", m), ("differences", ds), ("lists", .lst (ls.map lsv)), ("cells", .lst (cs.map cev)), ("taken", .lst []), ("fresh", .lst [])] : List (Str × AV)).lookup ("length" : Str) = none := rfl
  have me : (ctxOf P (callN P (n+2))).meth 0 "length" = some 6 := rfl
  simp only [no, me, WpSs, WpS, WpE, WpEs, WpBs, WpO, WpN, WpI, WpC, WpT, getS, setS, tgK, setsS, wipeS, k_add, k_addT, k_sub, k_mul, k_fdiv, k_mod, k_neg, k_lt, k_le, k_gt, k_ge, k_eqI, k_neI, k_eqS, k_neS, k_eqB, k_neB, k_is, k_isn, isNon_non, isNon_int, isNon_str, isNon_lst, isNon_tup, isNon_adr, k_lenS, k_lenL, k_lenR, k_lenT, k_int, k_str, k_abs, tru_bl, augK, ctx_call, ctx_glob, k_in, k_nin, k_inS]
  refine length_ok ko ho hnum ?_
  refine form_value_ok hv hn L.1.1 ?_
  refine ⟨⟨by omega, by omega⟩, by simp; omega, ?_⟩
  refine comp_ints (fun k => V vs ls cs num (k : Int)) ?_ ?_
  · intro i x R hx r
    obtain ⟨hi, rfl⟩ := items_range hx
    simp only [if_true, WpSs, WpS, WpE, WpEs, WpBs, WpO, WpN, WpI, WpC, WpT, getS, setS, tgK, setsS, wipeS, k_add, k_addT, k_sub, k_mul, k_fdiv, k_mod, k_neg, k_lt, k_le, k_gt, k_ge, k_eqI, k_neI, k_eqS, k_neS, k_eqB, k_neB, k_is, k_isn, isNon_non, isNon_int, isNon_str, isNon_lst, isNon_tup, isNon_adr, k_lenS, k_lenL, k_lenR, k_lenT, k_int, k_str, k_abs, tru_bl, augK, ctx_call, ctx_glob, k_in, k_nin, k_inS]
    exact value_at_ok hv hn ko ho hc hnum r
  · simp only [List.length_map, List.length_range]
    exact q
theorem small_ok {n : Nat} {d : Int} {h : AHeap} {Q} (q : ∀ v : Int, -2000000000 ≤ v → v ≤ 2000000000 → Q (.int v) h) : callN P (n+1) 10 [.int d] h Q := by
  refine ⟨rfl, ?_⟩
  show WpSs (ctxOf P (callN P n)) b_law_small _ [.val (.int d)] h
  have t9 : (10 : Int) ^ ((9 : Int).toNat) = 1000000000 := by decide
  have h1 := Int.emod_nonneg (d / 12) (b := 2) (by omega)
  have h2 := Int.emod_lt_of_pos (d / 12) (b := 2) (by omega)
  simp only [b_law_small, k_pow, t9, WpSs, WpS, WpE, WpEs, WpBs, WpO, WpN, WpI, WpC, WpT, getS, setS, tgK, setsS, wipeS, k_add, k_addT, k_sub, k_mul, k_fdiv, k_mod, k_neg, k_lt, k_le, k_gt, k_ge, k_eqI, k_neI, k_eqS, k_neS, k_eqB, k_neB, k_is, k_isn, isNon_non, isNon_int, isNon_str, isNon_lst, isNon_tup, isNon_adr, k_lenS, k_lenL, k_lenR, k_lenT, k_int, k_str, k_abs, tru_bl, augK, ctx_call, ctx_glob, k_in, k_nin, k_inS]
  refine ⟨by decide, ?_⟩
  refine ite_b (fun _ => ?_) (fun _ => ?_)
  · refine ⟨divA (by decide) (by decide), by decide, mulA_l (by decide) (by decide), ⟨by decide, by decide, by decide⟩, divA (by decide) (by decide), by decide, mulA_l (by omega) (by omega), ?_⟩
    have h3 := Int.emod_nonneg (d / 24) (b := 1000) (by omega)
    have h4 := Int.emod_lt_of_pos (d / 24) (b := 1000) (by omega)
    generalize (d / 24) % 1000 = f at h3 h4
    have : (d / 12) % 2 = 0 ∨ (d / 12) % 2 = 1 := by omega
    rcases this with z | z <;> rw [z] <;> refine q _ ?_ ?_ <;> omega
  simp only [b_law_small_1, WpSs, WpS, WpE, WpEs, WpBs, WpO, WpN, WpI, WpC, WpT, getS, setS, tgK, setsS, wipeS, k_add, k_addT, k_sub, k_mul, k_fdiv, k_mod, k_neg, k_lt, k_le, k_gt, k_ge, k_eqI, k_neI, k_eqS, k_neS, k_eqB, k_neB, k_is, k_isn, isNon_non, isNon_int, isNon_str, isNon_lst, isNon_tup, isNon_adr, k_lenS, k_lenL, k_lenR, k_lenT, k_int, k_str, k_abs, tru_bl, augK, ctx_call, ctx_glob, k_in, k_nin, k_inS]
  refine ⟨divA (by decide) (by decide), by decide, ?_⟩
  have h3 := Int.emod_nonneg (d / 12) (b := 12) (by omega)
  have h4 := Int.emod_lt_of_pos (d / 12) (b := 12) (by omega)
  refine q _ ?_ ?_ <;> omega
def VB (vs : List Int) : Prop := ∀ v ∈ vs, -2000000000 ≤ v ∧ v ≤ 2000000000
theorem form_for_ok {n : Nat} {vs : List Int} {d t : Int} {h : AHeap} {Q} (hv : VB vs) (t1 : -1000 ≤ t) (t2 : t ≤ 1000) (q : ∀ f : Fm, FOk vs f → fv vs f = t → Q (fmv f) h) : callN P (n+1) 11 [.int d, .lst (il vs), .int t] h Q := by
  refine ⟨rfl, ?_⟩
  have hz1 : sizeLine = 16777216 := rfl
  show WpSs (ctxOf P (callN P n)) b_law_form_for _ [.val (.int d), .val (.lst (il vs)), .val (.int t), .no] h
  simp only [b_law_form_for, List.length_map, WpSs, WpS, WpE, WpEs, WpBs, WpO, WpN, WpI, WpC, WpT, getS, setS, tgK, setsS, wipeS, k_add, k_addT, k_sub, k_mul, k_fdiv, k_mod, k_neg, k_lt, k_le, k_gt, k_ge, k_eqI, k_neI, k_eqS, k_neS, k_eqB, k_neB, k_is, k_isn, isNon_non, isNon_int, isNon_str, isNon_lst, isNon_tup, isNon_adr, k_lenS, k_lenL, k_lenR, k_lenT, k_int, k_str, k_abs, tru_bl, augK, ctx_call, ctx_glob, k_in, k_nin, k_inS]
  have h1 := Int.emod_nonneg d (b := (vs.length : Int) + 1) (by omega)
  have h2 := Int.emod_lt_of_pos d (b := (vs.length : Int) + 1) (by omega)
  obtain ⟨j, hj⟩ := nat_of h1
  rw [hj] at h2 ⊢
  refine ⟨by omega, ?_⟩
  refine ite_b (fun c => ?_) (fun c => ?_)
  · refine ⟨by show 2 ≤ _; omega, ?_⟩
    have e : fv vs (0, t) = t := rfl
    exact q (0, t) ⟨Nat.zero_le _, ⟨by show _ ≤ t; omega, by show t ≤ _; omega⟩, by rw [e]; exact ⟨t1, t2⟩⟩ e
  · simp only [b_law_form_for_1, WpSs, WpS, WpE, WpEs, WpBs, WpO, WpN, WpI, WpC, WpT, getS, setS, tgK, setsS, wipeS, k_add, k_addT, k_sub, k_mul, k_fdiv, k_mod, k_neg, k_lt, k_le, k_gt, k_ge, k_eqI, k_neI, k_eqS, k_neS, k_eqB, k_neB, k_is, k_isn, isNon_non, isNon_int, isNon_str, isNon_lst, isNon_tup, isNon_adr, k_lenS, k_lenL, k_lenR, k_lenT, k_int, k_str, k_abs, tru_bl, augK, ctx_call, ctx_glob, k_in, k_nin, k_inS]
    have e1 : (j : Int) - 1 = ((j - 1 : Nat) : Int) := by omega
    have hl : j - 1 < vs.length := by omega
    rw [e1]
    refine k_subIl hl ?_
    refine ⟨by show 2 ≤ _; omega, ?_⟩
    have b := hv _ (List.getElem_mem hl)
    have e : fv vs (j, t - vs[j - 1]) = t := by
      unfold fv
      rw [if_neg (show ¬ j = 0 by omega), List.getElem?_eq_getElem hl]
      show vs[j - 1] + (t - vs[j - 1]) = t
      omega
    exact q (j, t - vs[j - 1]) ⟨by show j ≤ _; omega, ⟨by show _ ≤ t - vs[j - 1]; omega, by show t - vs[j - 1] ≤ _; omega⟩, by rw [e]; exact ⟨t1, t2⟩⟩ e
/-- the law's own known -/
def kno (m : Int) (ds : AV) (ls : List Ls) (c0 : Nat) : AV := .lst [.int m, ds, .lst (ls.map lsv), .adr c0]
theorem kno2 {h : AHeap} {m : Int} {ds : AV} {ls : List Ls} {c0 : Nat} {Q : KA} (q : Q (.lst (ls.map lsv))) : subK h (kno m ds ls c0) (.int 2) Q := k_subL (xs := [.int m, ds, .lst (ls.map lsv), .adr c0]) rfl (fun _ h => by cases h) rfl q
theorem kno3 {h : AHeap} {m : Int} {ds : AV} {ls : List Ls} {c0 : Nat} {Q : KA} (q : Q (.adr c0)) : subK h (kno m ds ls c0) (.int 3) Q := k_subL (xs := [.int m, ds, .lst (ls.map lsv), .adr c0]) rfl (fun _ h => by cases h) rfl q
theorem told_ok {n : Nat} {vs : List Int} {h : AHeap} {num c0 : Nat} {k m : Int} {ds : AV} {ls : List Ls} {cs : List Ce} {Q} (hcs : cells h c0 = .lst (cs.map cev)) (ho : LOk vs ls) (hl : ls.length ≤ 100) (hc : COk vs ls.length cs) (hnum : num < ls.length)
    (q : Q (.int (V vs ls cs num k)) h) : callN P (n+2) 12 [kno m ds ls c0, .lst (il vs), .int (num : Int), .int k] h Q := by
  refine ⟨rfl, ?_⟩
  have hvc := view_adr hcs
  show WpSs (ctxOf P (callN P (n+1))) b_law_told _ [.val (kno m ds ls c0), .val (.lst (il vs)), .val (.int num), .val (.int k), .no, .no, .no, .no, .no, .no, .no] h
  have fin : ∀ (cur : Nat) (f : Fm) (s4 s5 : Slot), ls[cur]? = some (.nw f) → V vs ls cs cur k = V vs ls cs num k → WpSs (ctxOf P (callN P (n+1))) b_law_told_6 { nx := fun _ h => Q .non h, rt := Q } [.val (kno m ds ls c0), .val (.lst (il vs)), .val (.int cur), .val (.int k), s4, s5, .no, .no, .no, .no, .no] h := by
    intro cur f s4 s5 e hV
    simp only [b_law_told_6, WpSs, WpS, WpE, WpEs, WpBs, WpO, WpN, WpI, WpC, WpT, getS, setS, tgK, setsS, wipeS, k_add, k_addT, k_sub, k_mul, k_fdiv, k_mod, k_neg, k_lt, k_le, k_gt, k_ge, k_eqI, k_neI, k_eqS, k_neS, k_eqB, k_neB, k_is, k_isn, isNon_non, isNon_int, isNon_str, isNon_lst, isNon_tup, isNon_adr, k_lenS, k_lenL, k_lenR, k_lenT, k_int, k_str, k_abs, tru_bl, augK, ctx_call, ctx_glob, k_in, k_nin, k_inS]
    refine kno3 ?_
    simp only [hvc]
    refine for_inv (fun i ρ h' => h' = h ∧ ∃ (best : Option Int) (r : Int) (s5 s8 s9 s10 : Slot), (cs.take i).foldl (stp vs cur k) (none, 0) = (best, r) ∧ ρ = [.val (kno m ds ls c0), .val (.lst (il vs)), .val (.int cur), .val (.int k), s4, s5, .val (bestv best), .val (.int r), s8, s9, s10]) ⟨rfl, none, 0, _, _, _, _, rfl, rfl⟩ (fun _ _ _ _ k => by obtain ⟨rfl, _⟩ := k; exact hvc) ?_ ?_
    · rintro i x _ h D2 hx ⟨rfl, best, r, s5, s8, s9, s10, hf, rfl⟩ kn2 kc2 kr2 kb2
      obtain ⟨c, hci, rfl⟩ := items_map hx
      have hco := hc c (List.mem_of_getElem? hci)
      have ft := fold_take (vs := vs) (num := cur) (k := k) hci (none, 0)
      rw [hf, stp_def] at ft
      simp only [cev, b_law_told_4, WpSs, WpS, WpE, WpEs, WpBs, WpO, WpN, WpI, WpC, WpT, getS, setS, tgK, setsS, wipeS, k_add, k_addT, k_sub, k_mul, k_fdiv, k_mod, k_neg, k_lt, k_le, k_gt, k_ge, k_eqI, k_neI, k_eqS, k_neS, k_eqB, k_neB, k_is, k_isn, isNon_non, isNon_int, isNon_str, isNon_lst, isNon_tup, isNon_adr, k_lenS, k_lenL, k_lenR, k_lenT, k_int, k_str, k_abs, tru_bl, augK, ctx_call, ctx_glob, k_in, k_nin, k_inS]
      refine of_ok hco.2.1.1 ?_
      simp only [WpSs, WpS, WpE, WpEs, WpBs, WpO, WpN, WpI, WpC, WpT, getS, setS, tgK, setsS, wipeS, k_add, k_addT, k_sub, k_mul, k_fdiv, k_mod, k_neg, k_lt, k_le, k_gt, k_ge, k_eqI, k_neI, k_eqS, k_neS, k_eqB, k_neB, k_is, k_isn, isNon_non, isNon_int, isNon_str, isNon_lst, isNon_tup, isNon_adr, k_lenS, k_lenL, k_lenR, k_lenT, k_int, k_str, k_abs, tru_bl, augK, ctx_call, ctx_glob, k_in, k_nin, k_inS]
      have no : ¬ (c.1 = cur ∧ fv vs c.2.1 ≤ k ∧ (∀ b', best = some b' → b' < fv vs c.2.1)) → D2.nx [.val (kno m ds ls c0), .val (.lst (il vs)), .val (.int cur), .val (.int k), s4, .val (.int (c.1 : Int)), .val (bestv best), .val (.int r), .val (fmv c.2.1), .val (fmv c.2.2), .val (.int (fv vs c.2.1))] h := fun z => by
        rw [if_neg z] at ft
        exact kn2 _ _ ⟨rfl, _, _, _, _, _, _, ft, rfl⟩
      have yes : (c.1 = cur ∧ fv vs c.2.1 ≤ k ∧ (∀ b', best = some b' → b' < fv vs c.2.1)) → callN P (n+1) 8 [fmv c.2.2, .lst (il vs)] h fun x h1 => D2.nx [.val (kno m ds ls c0), .val (.lst (il vs)), .val (.int cur), .val (.int k), s4, .val (.int (c.1 : Int)), .val (.int (fv vs c.2.1)), .val x, .val (fmv c.2.1), .val (fmv c.2.2), .val (.int (fv vs c.2.1))] h1 := fun z => by
        rw [if_pos z] at ft
        refine of_ok hco.2.2.1 ?_
        exact kn2 _ _ ⟨rfl, some (fv vs c.2.1), _, _, _, _, _, ft, rfl⟩
      by_cases c1 : c.1 = cur
      · have d1 : decide ((c.1 : Int) = (cur : Int)) = true := decide_eq_true (by omega)
        simp only [d1, if_true]
        refine ite_b (fun c2 => ?_) (fun c2 => ?_)
        · cases best with
          | none =>
            simp only [bestv, isNon_non, if_true, WpSs, WpS, WpE, WpEs, WpBs, WpO, WpN, WpI, WpC, WpT, getS, setS, tgK, setsS, wipeS, k_add, k_addT, k_sub, k_mul, k_fdiv, k_mod, k_neg, k_lt, k_le, k_gt, k_ge, k_eqI, k_neI, k_eqS, k_neS, k_eqB, k_neB, k_is, k_isn, isNon_non, isNon_int, isNon_str, isNon_lst, isNon_tup, isNon_adr, k_lenS, k_lenL, k_lenR, k_lenT, k_int, k_str, k_abs, tru_bl, augK, ctx_call, ctx_glob, k_in, k_nin, k_inS]
            exact yes ⟨c1, c2, fun _ z => by cases z⟩
          | some b =>
            simp only [bestv, isNon_int, Bool.false_eq_true, if_false, WpSs, WpS, WpE, WpEs, WpBs, WpO, WpN, WpI, WpC, WpT, getS, setS, tgK, setsS, wipeS, k_add, k_addT, k_sub, k_mul, k_fdiv, k_mod, k_neg, k_lt, k_le, k_gt, k_ge, k_eqI, k_neI, k_eqS, k_neS, k_eqB, k_neB, k_is, k_isn, isNon_non, isNon_int, isNon_str, isNon_lst, isNon_tup, isNon_adr, k_lenS, k_lenL, k_lenR, k_lenT, k_int, k_str, k_abs, tru_bl, augK, ctx_call, ctx_glob, k_in, k_nin, k_inS]
            refine ite_b (fun c3 => yes ⟨c1, c2, fun _ z => by cases z; exact c3⟩) (fun c3 => no fun z => c3 (z.2.2 b rfl))
        · simp only [Bool.false_eq_true, if_false]
          exact no fun z => c2 z.2.1
      · have d1 : decide ((c.1 : Int) = (cur : Int)) = false := decide_eq_false (by omega)
        simp only [d1, Bool.false_eq_true, if_false]
        exact no fun z => c1 z.1
    · rintro _ h ⟨rfl, best, r, s5, s8, s9, s10, hf, rfl⟩
      simp only [b_law_told_5, WpSs, WpS, WpE, WpEs, WpBs, WpO, WpN, WpI, WpC, WpT, getS, setS, tgK, setsS, wipeS, k_add, k_addT, k_sub, k_mul, k_fdiv, k_mod, k_neg, k_lt, k_le, k_gt, k_ge, k_eqI, k_neI, k_eqS, k_neS, k_eqB, k_neB, k_is, k_isn, isNon_non, isNon_int, isNon_str, isNon_lst, isNon_tup, isNon_adr, k_lenS, k_lenL, k_lenR, k_lenT, k_int, k_str, k_abs, tru_bl, augK, ctx_call, ctx_glob, k_in, k_nin, k_inS]
      rw [List.length_map, List.take_length] at hf
      have : V vs ls cs cur k = r := by
        rw [V_new e]
        unfold scan
        rw [hf]
      rw [← hV, this] at q
      exact q
  simp only [b_law_told, WpSs, WpS, WpE, WpEs, WpBs, WpO, WpN, WpI, WpC, WpT, getS, setS, tgK, setsS, wipeS, k_add, k_addT, k_sub, k_mul, k_fdiv, k_mod, k_neg, k_lt, k_le, k_gt, k_ge, k_eqI, k_neI, k_eqS, k_neS, k_eqB, k_neB, k_is, k_isn, isNon_non, isNon_int, isNon_str, isNon_lst, isNon_tup, isNon_adr, k_lenS, k_lenL, k_lenR, k_lenT, k_int, k_str, k_abs, tru_bl, augK, ctx_call, ctx_glob, k_in, k_nin, k_inS]
  refine kno2 ?_
  simp only [List.length_map, WpSs, WpS, WpE, WpEs, WpBs, WpO, WpN, WpI, WpC, WpT, getS, setS, tgK, setsS, wipeS, k_add, k_addT, k_sub, k_mul, k_fdiv, k_mod, k_neg, k_lt, k_le, k_gt, k_ge, k_eqI, k_neI, k_eqS, k_neS, k_eqB, k_neB, k_is, k_isn, isNon_non, isNon_int, isNon_str, isNon_lst, isNon_tup, isNon_adr, k_lenS, k_lenL, k_lenR, k_lenT, k_int, k_str, k_abs, tru_bl, augK, ctx_call, ctx_glob, k_in, k_nin, k_inS]
  refine ⟨⟨by omega, by omega⟩, ?_⟩
  rw [Int.toNat_natCast]
  refine for_inv (fun i ρ h' => h' = h ∧ ∃ (cur : Nat) (s4 s5 : Slot), cur + i ≤ num ∧ V vs ls cs cur k = V vs ls cs num k ∧ ρ = [.val (kno m ds ls c0), .val (.lst (il vs)), .val (.int cur), .val (.int k), s4, s5, .no, .no, .no, .no, .no]) ⟨rfl, num, .no, .no, by omega, rfl, rfl⟩ (fun _ _ _ _ _ => by trivial) ?_ ?_
  · rintro i x _ h D' hx ⟨rfl, cur, s4, s5, hci, hV, rfl⟩ kn kc kr kb
    obtain ⟨hi, rfl⟩ := items_range hx
    have hcur : cur < ls.length := by omega
    have e := List.getElem?_eq_getElem hcur
    simp only [b_law_told_3, WpSs, WpS, WpE, WpEs, WpBs, WpO, WpN, WpI, WpC, WpT, getS, setS, tgK, setsS, wipeS, k_add, k_addT, k_sub, k_mul, k_fdiv, k_mod, k_neg, k_lt, k_le, k_gt, k_ge, k_eqI, k_neI, k_eqS, k_neS, k_eqB, k_neB, k_is, k_isn, isNon_non, isNon_int, isNon_str, isNon_lst, isNon_tup, isNon_adr, k_lenS, k_lenL, k_lenR, k_lenT, k_int, k_str, k_abs, tru_bl, augK, ctx_call, ctx_glob, k_in, k_nin, k_inS]
    refine kno2 ?_
    refine k_subLs (h := h) hcur ?_
    cases w : ls[cur] with
    | nw f =>
      rw [w] at e
      refine k_subL (d := .str "new") (xs := [.str "new", fmv f]) rfl (fun _ h => by cases h) rfl ?_
      simp only [wn.2.2.2, if_true, WpSs, WpS, WpE, WpEs, WpBs, WpO, WpN, WpI, WpC, WpT, getS, setS, tgK, setsS, wipeS, k_add, k_addT, k_sub, k_mul, k_fdiv, k_mod, k_neg, k_lt, k_le, k_gt, k_ge, k_eqI, k_neI, k_eqS, k_neS, k_eqB, k_neB, k_is, k_isn, isNon_non, isNon_int, isNon_str, isNon_lst, isNon_tup, isNon_adr, k_lenS, k_lenL, k_lenR, k_lenT, k_int, k_str, k_abs, tru_bl, augK, ctx_call, ctx_glob, k_in, k_nin, k_inS]
      exact kb _ _ (fin cur f _ _ e hV)
    | wr b i' v =>
      rw [w] at e
      have hb := ho cur _ e
      have hb1 := hb.1
      refine k_subL (d := .str "written") (xs := [.str "written", .int (b : Int), fmv i', fmv v]) rfl (fun _ h => by cases h) rfl ?_
      simp only [wn.2.2.1, Bool.false_eq_true, if_false, b_law_told_2, WpSs, WpS, WpE, WpEs, WpBs, WpO, WpN, WpI, WpC, WpT, getS, setS, tgK, setsS, wipeS, k_add, k_addT, k_sub, k_mul, k_fdiv, k_mod, k_neg, k_lt, k_le, k_gt, k_ge, k_eqI, k_neI, k_eqS, k_neS, k_eqB, k_neB, k_is, k_isn, isNon_non, isNon_int, isNon_str, isNon_lst, isNon_tup, isNon_adr, k_lenS, k_lenL, k_lenR, k_lenT, k_int, k_str, k_abs, tru_bl, augK, ctx_call, ctx_glob, k_in, k_nin, k_inS]
      refine k_subL (d := fmv i') (xs := [.str "written", .int (b : Int), fmv i', fmv v]) rfl (fun _ h => by cases h) rfl ?_
      refine of_ok hb.2.1.1 ?_
      simp only [WpSs, WpS, WpE, WpEs, WpBs, WpO, WpN, WpI, WpC, WpT, getS, setS, tgK, setsS, wipeS, k_add, k_addT, k_sub, k_mul, k_fdiv, k_mod, k_neg, k_lt, k_le, k_gt, k_ge, k_eqI, k_neI, k_eqS, k_neS, k_eqB, k_neB, k_is, k_isn, isNon_non, isNon_int, isNon_str, isNon_lst, isNon_tup, isNon_adr, k_lenS, k_lenL, k_lenR, k_lenT, k_int, k_str, k_abs, tru_bl, augK, ctx_call, ctx_glob, k_in, k_nin, k_inS]
      refine ite_b (fun c => ?_) (fun c => ?_)
      · refine k_subL (d := fmv v) (xs := [.str "written", .int (b : Int), fmv i', fmv v]) rfl (fun _ h => by cases h) rfl ?_
        refine of_ok hb.2.2.1 ?_
        rw [← hV, V_hit e c.symm] at q
        exact kr _ _ q
      · simp only [b_law_told_1, WpSs, WpS, WpE, WpEs, WpBs, WpO, WpN, WpI, WpC, WpT, getS, setS, tgK, setsS, wipeS, k_add, k_addT, k_sub, k_mul, k_fdiv, k_mod, k_neg, k_lt, k_le, k_gt, k_ge, k_eqI, k_neI, k_eqS, k_neS, k_eqB, k_neB, k_is, k_isn, isNon_non, isNon_int, isNon_str, isNon_lst, isNon_tup, isNon_adr, k_lenS, k_lenL, k_lenR, k_lenT, k_int, k_str, k_abs, tru_bl, augK, ctx_call, ctx_glob, k_in, k_nin, k_inS]
        refine k_subL (d := .int (b : Int)) (xs := [.str "written", .int (b : Int), fmv i', fmv v]) rfl (fun _ h => by cases h) rfl ?_
        exact kn _ _ ⟨rfl, b, _, _, by omega, by rw [← hV, V_miss ho e (fun z => c z.symm)], rfl⟩
  · rintro _ h ⟨rfl, cur, s4, s5, hci, hV, rfl⟩
    simp only [List.length_map, List.length_range] at hci
    omega
end K15

set_option maxRecDepth 100000
set_option maxHeartbeats 4000000
namespace K15
open PySem L2 VL
abbrev Td := Int × Int × Int
def td (t : Td) : AV := .tup [.int t.1, .int t.2.1, .int t.2.2]
def TB (ts : List Td) : Prop := ∀ t ∈ ts, (-20000000000 ≤ t.1 ∧ t.1 ≤ 20000000000) ∧ (-20000000000 ≤ t.2.1 ∧ t.2.1 ≤ 20000000000) ∧ (-20000000000 ≤ t.2.2 ∧ t.2.2 ≤ 20000000000)
theorem modI {x : Int} {m : Nat} (h : 0 < m) : ∃ j : Nat, x % (m : Int) = j ∧ j < m := by
  have h1 := Int.emod_nonneg x (b := (m : Int)) (by omega)
  have h2 := Int.emod_lt_of_pos x (b := (m : Int)) (by omega)
  obtain ⟨j, hj⟩ := nat_of h1
  exact ⟨j, hj, by omega⟩
theorem log_s {i : Int} (h : 0 < i) (h2 : i ≤ 10000000000) : i.natAbs.log2 < 9000 := by
  have : i.natAbs < 2 ^ 64 := by
    have e : (2 ^ 64 : Nat) = 18446744073709551616 := by decide
    omega
  have := PySem.Flt.log2_lt_of (by decide : 0 < 64) this
  omega
theorem sizes_of {ss : List Int} (h : ∀ s ∈ ss, 0 < s ∧ s ≤ 10000000000) : Sizes ss := fun s hs => ⟨(h s hs).1, log_s (h s hs).1 (h s hs).2⟩
theorem at_most_ok {n : Nat} {g : Fm} {h : AHeap} {Q} (q : Q (td (0, g.1, g.2)) h) : callN P (n+1) 7 [.tup [.int 0, .int 0], fmv g] h Q := by
  refine ⟨rfl, ?_⟩
  have hz1 : sizeLine = 16777216 := rfl
  show WpSs (ctxOf P (callN P n)) b_law_at_most _ [.val (fmv (0, 0)), .val (fmv g)] h
  simp only [b_law_at_most, WpSs, WpS, WpE, WpEs, WpBs, WpO, WpN, WpI, WpC, WpT, getS, setS, tgK, setsS, wipeS, k_add, k_addT, k_sub, k_mul, k_fdiv, k_mod, k_neg, k_lt, k_le, k_gt, k_ge, k_eqI, k_neI, k_eqS, k_neS, k_eqB, k_neB, k_is, k_isn, isNon_non, isNon_int, isNon_str, isNon_lst, isNon_tup, isNon_adr, k_lenS, k_lenL, k_lenR, k_lenT, k_int, k_str, k_abs, tru_bl, augK, ctx_call, ctx_glob, k_in, k_nin, k_inS]
  refine k_fm0 (f := (0, 0)) ?_
  refine k_fm0 ?_
  refine k_fm1 ?_
  refine k_fm1 (f := (0, 0)) ?_
  simp only [Int.sub_zero, WpSs, WpS, WpE, WpEs, WpBs, WpO, WpN, WpI, WpC, WpT, getS, setS, tgK, setsS, wipeS, k_add, k_addT, k_sub, k_mul, k_fdiv, k_mod, k_neg, k_lt, k_le, k_gt, k_ge, k_eqI, k_neI, k_eqS, k_neS, k_eqB, k_neB, k_is, k_isn, isNon_non, isNon_int, isNon_str, isNon_lst, isNon_tup, isNon_adr, k_lenS, k_lenL, k_lenR, k_lenT, k_int, k_str, k_abs, tru_bl, augK, ctx_call, ctx_glob, k_in, k_nin, k_inS]
  exact ⟨by show 3 ≤ _; omega, q⟩
theorem LOk.snoc {vs : List Int} {ls : List Ls} {l : Ls} (h : LOk vs ls) (hl : match l with
  | .wr b i v => b < ls.length ∧ FOk vs i ∧ FOk vs v
  | .nw f => FOk vs f ∧ 0 ≤ fv vs f ∧ fv vs f < 7) : LOk vs (ls ++ [l]) := by
  intro n x hx
  by_cases c : n < ls.length
  · rw [List.getElem?_append_left c] at hx
    exact h n x hx
  · rw [List.getElem?_append_right (by omega)] at hx
    have : n - ls.length = 0 := by
      cases e : n - ls.length with
      | zero => rfl
      | succ j => rw [e] at hx; simp at hx
    rw [this] at hx
    simp at hx
    subst hx
    have : n = ls.length := by omega
    subst this
    exact hl
theorem ls_one (ls : List Ls) (l : Ls) : ls.map lsv ++ [lsv l] = (ls ++ [l]).map lsv := by rw [List.map_append]; rfl
theorem td_one (ls : List Td) (l : Td) : ls.map td ++ [td l] = (ls ++ [l]).map td := by rw [List.map_append]; rfl
theorem ce_one (ls : List Ce) (l : Ce) : ls.map cev ++ [cev l] = (ls ++ [l]).map cev := by rw [List.map_append]; rfl
theorem lists_ok {n : Nat} {ns vs : List Int} {count : Nat} {h : AHeap} {Q} (hv : VB vs) (hvl : vs.length ≤ 100) (hc : count ≤ 50) (q : ∀ (ls : List Ls) (ts : List Td), ls.length = count → LOk vs ls → ts.length ≤ count → TB ts → Q (.tup [.lst (ls.map lsv), .lst (ts.map td)]) h) :
    callN P (n+3) 13 [.ro (il ns), .int (count : Int), .lst (il vs)] h Q := by
  refine ⟨rfl, ?_⟩
  have hz1 : sizeLine = 16777216 := rfl
  show WpSs (ctxOf P (callN P (n+2))) b_law_lists _ [.val (.ro (il ns)), .val (.int count), .val (.lst (il vs)), .no, .no, .no, .no, .no, .no] h
  simp only [b_law_lists, WpSs, WpS, WpE, WpEs, WpBs, WpO, WpN, WpI, WpC, WpT, getS, setS, tgK, setsS, wipeS, k_add, k_addT, k_sub, k_mul, k_fdiv, k_mod, k_neg, k_lt, k_le, k_gt, k_ge, k_eqI, k_neI, k_eqS, k_neS, k_eqB, k_neB, k_is, k_isn, isNon_non, isNon_int, isNon_str, isNon_lst, isNon_tup, isNon_adr, k_lenS, k_lenL, k_lenR, k_lenT, k_int, k_str, k_abs, tru_bl, augK, ctx_call, ctx_glob, k_in, k_nin, k_inS]
  refine ⟨Nat.zero_le _, Nat.zero_le _, ⟨by omega, by omega⟩, ?_⟩
  rw [Int.toNat_natCast]
  refine for_inv (fun k ρ h' => h' = h ∧ ∃ (ls : List Ls) (ts : List Td) (s5 s6 s7 s8 : Slot), ls.length = k ∧ LOk vs ls ∧ ts.length ≤ k ∧ TB ts ∧ ρ = [.val (.ro (il ns)), .val (.int count), .val (.lst (il vs)), .own (.lst (ls.map lsv)), .own (.lst (ts.map td)), s5, s6, s7, s8]) ⟨rfl, [], [], .no, .no, .no, .no, rfl, (fun n l h => by simp at h), Nat.le_refl _, (fun _ h => by cases h), rfl⟩ (fun _ _ _ _ _ => by trivial) ?_ ?_
  · rintro k x _ h D' hx ⟨rfl, ls, ts, s5, s6, s7, s8, rfl, hl, ht, htb, rfl⟩ kn kc kr kb
    obtain ⟨hk, rfl⟩ := items_range hx
    simp only [b_law_lists_1, WpSs, WpS, WpE, WpEs, WpBs, WpO, WpN, WpI, WpC, WpT, getS, setS, tgK, setsS, wipeS, k_add, k_addT, k_sub, k_mul, k_fdiv, k_mod, k_neg, k_lt, k_le, k_gt, k_ge, k_eqI, k_neI, k_eqS, k_neS, k_eqB, k_neB, k_is, k_isn, isNon_non, isNon_int, isNon_str, isNon_lst, isNon_tup, isNon_adr, k_lenS, k_lenL, k_lenR, k_lenT, k_int, k_str, k_abs, tru_bl, augK, ctx_call, ctx_glob, k_in, k_nin, k_inS]
    refine ⟨by show 6 ≤ _; omega, ?_⟩
    refine draws_ok (ss := [2, 7, 40, 40, 10, 1000]) (sizes_of (by decide)) (by decide) fun ds dl hd => ?_
    have dl : ds.length = 6 := dl
    have d1 : 0 ≤ ds[1] ∧ ds[1] < 7 := hd 1 (by omega) (by decide)
    have d4 : 0 ≤ ds[4] ∧ ds[4] < 10 := hd 4 (by omega) (by decide)
    have d5 : 0 ≤ ds[5] ∧ ds[5] < 1000 := hd 5 (by omega) (by decide)
    have sb : ∀ (j : Nat) (hj : j < 6) {Q : KA}, Q (.int ds[j]) → subK h (.lst (il ds)) (.int (j : Int)) Q := fun j hj _ q => k_subIl (by omega) q
    have new : subK h (.lst (il ds)) (.int 2) fun x => subK h (.lst (il ds)) (.int 1) fun x_1 => callN P (n + 2) 11 [x, .lst (il vs), x_1] h fun x h1 => WpSs (ctxOf P (callN P (n+2))) (.cons (.app 3 (.tup (.cons (.cstr "new") (.cons (.var 8) .nil)))) (.cons (.app 4 (.call 7 (.cons (.tup (.cons (.cint 0) (.cons (.cint 0) .nil))) (.cons (.var 8) .nil)))) .nil)) D' [.val (.ro (il ns)), .val (.int count), .val (.lst (il vs)), .own (.lst (ls.map lsv)), .own (.lst (ts.map td)), .val (.int ls.length), .val (.lst (il ds)), s7, .val x] h1 := by
      refine sb 2 (by decide) ?_
      refine sb 1 (by decide) ?_
      refine form_for_ok hv (by omega) (by omega) fun f f1 f2 => ?_
      have e : AV.tup [.str "new", fmv f] = lsv (.nw f) := rfl
      simp only [e, ls_one, WpSs, WpS, WpE, WpEs, WpBs, WpO, WpN, WpI, WpC, WpT, getS, setS, tgK, setsS, wipeS, k_add, k_addT, k_sub, k_mul, k_fdiv, k_mod, k_neg, k_lt, k_le, k_gt, k_ge, k_eqI, k_neI, k_eqS, k_neS, k_eqB, k_neB, k_is, k_isn, isNon_non, isNon_int, isNon_str, isNon_lst, isNon_tup, isNon_adr, k_lenS, k_lenL, k_lenR, k_lenT, k_int, k_str, k_abs, tru_bl, augK, ctx_call, ctx_glob, k_in, k_nin, k_inS]
      refine ⟨by show 2 ≤ _; omega, by rw [List.length_map]; omega, by show 2 ≤ _; omega, ?_⟩
      refine at_most_ok ?_
      simp only [td_one, List.length_map]
      refine ⟨by omega, ?_⟩
      refine kn _ _ ⟨rfl, _, _, _, _, _, _, by simp, hl.snoc (l := .nw f) ⟨f1, by omega, by omega⟩, by simp; omega, ?_, rfl⟩
      intro t ht
      rcases List.mem_append.mp ht with ht | ht
      · exact htb t ht
      · rw [List.mem_singleton.mp ht]
        have f3 := f1.2.1
        have f4 := f1.1
        exact ⟨⟨by show (-20000000000 : Int) ≤ 0; omega, by show (0 : Int) ≤ 20000000000; omega⟩, ⟨by show _ ≤ (f.1 : Int); omega, by show (f.1 : Int) ≤ _; omega⟩, ⟨by show _ ≤ f.2; omega, by show f.2 ≤ _; omega⟩⟩
    simp only [WpSs, WpS, WpE, WpEs, WpBs, WpO, WpN, WpI, WpC, WpT, getS, setS, tgK, setsS, wipeS, k_add, k_addT, k_sub, k_mul, k_fdiv, k_mod, k_neg, k_lt, k_le, k_gt, k_ge, k_eqI, k_neI, k_eqS, k_neS, k_eqB, k_neB, k_is, k_isn, isNon_non, isNon_int, isNon_str, isNon_lst, isNon_tup, isNon_adr, k_lenS, k_lenL, k_lenR, k_lenT, k_int, k_str, k_abs, tru_bl, augK, ctx_call, ctx_glob, k_in, k_nin, k_inS] at new
    refine ite_b (fun c => ?_) (fun c => ?_)
    · refine sb 0 (by decide) ?_
      simp only [WpSs, WpS, WpE, WpEs, WpBs, WpO, WpN, WpI, WpC, WpT, getS, setS, tgK, setsS, wipeS, k_add, k_addT, k_sub, k_mul, k_fdiv, k_mod, k_neg, k_lt, k_le, k_gt, k_ge, k_eqI, k_neI, k_eqS, k_neS, k_eqB, k_neB, k_is, k_isn, isNon_non, isNon_int, isNon_str, isNon_lst, isNon_tup, isNon_adr, k_lenS, k_lenL, k_lenR, k_lenT, k_int, k_str, k_abs, tru_bl, augK, ctx_call, ctx_glob, k_in, k_nin, k_inS]
      refine ite_b (fun c2 => ?_) (fun c2 => new)
      refine sb 2 (by decide) ?_
      refine sb 4 (by decide) ?_
      simp only [WpSs, WpS, WpE, WpEs, WpBs, WpO, WpN, WpI, WpC, WpT, getS, setS, tgK, setsS, wipeS, k_add, k_addT, k_sub, k_mul, k_fdiv, k_mod, k_neg, k_lt, k_le, k_gt, k_ge, k_eqI, k_neI, k_eqS, k_neS, k_eqB, k_neB, k_is, k_isn, isNon_non, isNon_int, isNon_str, isNon_lst, isNon_tup, isNon_adr, k_lenS, k_lenL, k_lenR, k_lenT, k_int, k_str, k_abs, tru_bl, augK, ctx_call, ctx_glob, k_in, k_nin, k_inS]
      refine form_for_ok hv (by omega) (by omega) fun f f1 f2 => ?_
      refine sb 1 (by decide) ?_
      obtain ⟨b, hb, hb2⟩ := modI (x := ds[1]) (m := ls.length) (by omega)
      simp only [WpSs, WpS, WpE, WpEs, WpBs, WpO, WpN, WpI, WpC, WpT, getS, setS, tgK, setsS, wipeS, k_add, k_addT, k_sub, k_mul, k_fdiv, k_mod, k_neg, k_lt, k_le, k_gt, k_ge, k_eqI, k_neI, k_eqS, k_neS, k_eqB, k_neB, k_is, k_isn, isNon_non, isNon_int, isNon_str, isNon_lst, isNon_tup, isNon_adr, k_lenS, k_lenL, k_lenR, k_lenT, k_int, k_str, k_abs, tru_bl, augK, ctx_call, ctx_glob, k_in, k_nin, k_inS]
      refine ⟨by omega, ?_⟩
      rw [hb]
      refine sb 3 (by decide) ?_
      refine sb 5 (by decide) ?_
      simp only [WpSs, WpS, WpE, WpEs, WpBs, WpO, WpN, WpI, WpC, WpT, getS, setS, tgK, setsS, wipeS, k_add, k_addT, k_sub, k_mul, k_fdiv, k_mod, k_neg, k_lt, k_le, k_gt, k_ge, k_eqI, k_neI, k_eqS, k_neS, k_eqB, k_neB, k_is, k_isn, isNon_non, isNon_int, isNon_str, isNon_lst, isNon_tup, isNon_adr, k_lenS, k_lenL, k_lenR, k_lenT, k_int, k_str, k_abs, tru_bl, augK, ctx_call, ctx_glob, k_in, k_nin, k_inS]
      refine form_for_ok hv (by omega) (by omega) fun g g1 g2 => ?_
      have e : AV.tup [.str "written", .int (b : Int), fmv f, fmv g] = lsv (.wr b f g) := rfl
      simp only [e, ls_one, List.length_map]
      refine ⟨by show 4 ≤ _; omega, by omega, ?_⟩
      exact kn _ _ ⟨rfl, _, _, _, _, _, _, by simp, hl.snoc (l := .wr b f g) ⟨hb2, f1, g1⟩, by omega, htb, rfl⟩
    · simp only [Bool.false_eq_true, if_false]
      exact new
  · rintro _ h ⟨rfl, ls, ts, s5, s6, s7, s8, hk, hl, ht, htb, rfl⟩
    simp only [List.length_map, List.length_range] at hk ht
    simp only [b_law_lists_2, WpSs, WpS, WpE, WpEs, WpBs, WpO, WpN, WpI, WpC, WpT, getS, setS, tgK, setsS, wipeS, k_add, k_addT, k_sub, k_mul, k_fdiv, k_mod, k_neg, k_lt, k_le, k_gt, k_ge, k_eqI, k_neI, k_eqS, k_neS, k_eqB, k_neB, k_is, k_isn, isNon_non, isNon_int, isNon_str, isNon_lst, isNon_tup, isNon_adr, k_lenS, k_lenL, k_lenR, k_lenT, k_int, k_str, k_abs, tru_bl, augK, ctx_call, ctx_glob, k_in, k_nin, k_inS]
    exact ⟨by show 2 ≤ _; omega, q ls ts hk hl ht htb⟩
theorem k_eqF {h : AHeap} {f g : Fm} {Q : KA} (q : ∀ b, Q (.bl b)) : cmpK h .Eq (fmv f) (fmv g) Q := by
  show eqGen h false (fmv f) (fmv g) Q
  have e : ∀ f : Fm, pdH h (fmv f) = some (.tuple [.int (f.1 : Int), .int f.2]) := fun f => by
    simp only [fmv, pdH, pdHs, Option.bind_some, Option.map_some]
  unfold eqGen
  rw [e, e]
  exact ⟨rfl, rfl, q _⟩
theorem cells_ok {n : Nat} {ns vs : List Int} {m : Int} {ds : AV} {ls : List Ls} {Q} (hv : VB vs) (hvl : vs.length ≤ 100) (ho : LOk vs ls) (hl : ls.length ≤ 50) (hl0 : 0 < ls.length) (q : ∀ cs : List Ce, COk vs ls.length cs → cs.length ≤ 10 → Q .non [.lst (cs.map cev)]) :
    callN P (n+3) 14 [.ro (il ns), kno m ds ls 0, .lst (il vs)] [.lst []] Q := by
  refine ⟨rfl, ?_⟩
  have hz1 : sizeLine = 16777216 := rfl
  show WpSs (ctxOf P (callN P (n+2))) b_law_cells _ [.val (.ro (il ns)), .val (kno m ds ls 0), .val (.lst (il vs)), .no, .no, .no, .no, .no, .no, .no, .no] [.lst []]
  simp only [b_law_cells, WpSs, WpS, WpE, WpEs, WpBs, WpO, WpN, WpI, WpC, WpT, getS, setS, tgK, setsS, wipeS, k_add, k_addT, k_sub, k_mul, k_fdiv, k_mod, k_neg, k_lt, k_le, k_gt, k_ge, k_eqI, k_neI, k_eqS, k_neS, k_eqB, k_neB, k_is, k_isn, isNon_non, isNon_int, isNon_str, isNon_lst, isNon_tup, isNon_adr, k_lenS, k_lenL, k_lenR, k_lenT, k_int, k_str, k_abs, tru_bl, augK, ctx_call, ctx_glob, k_in, k_nin, k_inS]
  refine ⟨by show 2 ≤ _; omega, ⟨by decide, by decide⟩, by decide, ?_⟩
  refine comp_ints (fun _ => 1000) (fun i x R hx r => by simp only [if_true, WpSs, WpS, WpE, WpEs, WpBs, WpO, WpN, WpI, WpC, WpT, getS, setS, tgK, setsS, wipeS, k_add, k_addT, k_sub, k_mul, k_fdiv, k_mod, k_neg, k_lt, k_le, k_gt, k_ge, k_eqI, k_neI, k_eqS, k_neS, k_eqB, k_neB, k_is, k_isn, isNon_non, isNon_int, isNon_str, isNon_lst, isNon_tup, isNon_adr, k_lenS, k_lenL, k_lenR, k_lenT, k_int, k_str, k_abs, tru_bl, augK, ctx_call, ctx_glob, k_in, k_nin, k_inS]; exact r) ?_
  have e2 : [AV.int 9, .int 3] = il [9, 3] := rfl
  simp only [viewW_lst, e2, int_app, List.length_map, List.length_range]
  refine ⟨by show 2 + 40 ≤ _; omega, ?_⟩
  refine draws_ok (sizes_of (by decide)) (by decide) fun dr dl hd => ?_
  have dl : dr.length = 42 := dl
  have dm : ∀ (j : Nat) (hj : j < 42), 2 ≤ j → 0 ≤ dr[j] ∧ dr[j] < 1000 := by
    intro j hj hj2
    have := hd j (by omega) (by simp; omega)
    rw [List.getElem_append_right (by simp; omega)] at this
    simpa using this
  refine ⟨⟨by decide, by decide⟩, ?_⟩
  refine for_inv (fun k ρ h' => ∃ (cs : List Ce) (s4 s5 s6 s7 s8 s9 : Slot), h' = [.lst (cs.map cev)] ∧ cs.length ≤ k ∧ COk vs ls.length cs ∧ ρ = [.val (.ro (il ns)), .val (kno m ds ls 0), .val (.lst (il vs)), .val (.lst (il dr)), s4, s5, s6, s7, s8, s9, .no]) ⟨[], .no, .no, .no, .no, .no, .no, rfl, Nat.le_refl _, (fun _ h => by cases h), rfl⟩ (fun _ _ _ _ _ => by trivial) ?_ ?_
  · rintro k x _ _ D' hx ⟨cs, s4, s5, s6, s7, s8, s9, rfl, hk2, hc, rfl⟩ kn kc kr kb
    obtain ⟨hk, rfl⟩ := items_range hx
    have hk : k < 10 := hk
    have cont : ∀ s5 s6 s7 s8 s9, D'.ct [.val (.ro (il ns)), .val (kno m ds ls 0), .val (.lst (il vs)), .val (.lst (il dr)), .val (.int k), s5, s6, s7, s8, s9, .no] [.lst (cs.map cev)] := fun s5 s6 s7 s8 s9 => kc _ _ ⟨cs, _, _, _, _, _, _, rfl, by omega, hc, rfl⟩
    have sb : ∀ (j : Nat) (hj : j < 42) {Q : KA}, Q (.int dr[j]) → subK [.lst (cs.map cev)] (.lst (il dr)) (.int (j : Int)) Q := fun j hj _ q => k_subIl (by omega) q
    have hcs : cells [.lst (cs.map cev)] 0 = .lst (cs.map cev) := rfl
    have hvc := view_adr hcs
    have main : WpSs (ctxOf P (callN P (n+2))) b_law_cells_4 D' [.val (.ro (il ns)), .val (kno m ds ls 0), .val (.lst (il vs)), .val (.lst (il dr)), .val (.int k), s5, s6, s7, s8, s9, .no] [.lst (cs.map cev)] := by
      have a2 : (4 : Int) * (k : Int) + 2 = ((4 * k + 2 : Nat) : Int) := by omega
      have a3 : (4 : Int) * (k : Int) + 3 = ((4 * k + 3 : Nat) : Int) := by omega
      have a4 : (4 : Int) * (k : Int) + 4 = ((4 * k + 4 : Nat) : Int) := by omega
      have a5 : (4 : Int) * (k : Int) + 5 = ((4 * k + 5 : Nat) : Int) := by omega
      simp only [b_law_cells_4, a2, a3, a4, a5, WpSs, WpS, WpE, WpEs, WpBs, WpO, WpN, WpI, WpC, WpT, getS, setS, tgK, setsS, wipeS, k_add, k_addT, k_sub, k_mul, k_fdiv, k_mod, k_neg, k_lt, k_le, k_gt, k_ge, k_eqI, k_neI, k_eqS, k_neS, k_eqB, k_neB, k_is, k_isn, isNon_non, isNon_int, isNon_str, isNon_lst, isNon_tup, isNon_adr, k_lenS, k_lenL, k_lenR, k_lenT, k_int, k_str, k_abs, tru_bl, augK, ctx_call, ctx_glob, k_in, k_nin, k_inS]
      refine ⟨mulA_l (by decide) (by decide), ?_⟩
      refine sb _ (by omega) ?_
      rw [k_int]
      refine kno2 ?_
      simp only [List.length_map, WpSs, WpS, WpE, WpEs, WpBs, WpO, WpN, WpI, WpC, WpT, getS, setS, tgK, setsS, wipeS, k_add, k_addT, k_sub, k_mul, k_fdiv, k_mod, k_neg, k_lt, k_le, k_gt, k_ge, k_eqI, k_neI, k_eqS, k_neS, k_eqB, k_neB, k_is, k_isn, isNon_non, isNon_int, isNon_str, isNon_lst, isNon_tup, isNon_adr, k_lenS, k_lenL, k_lenR, k_lenT, k_int, k_str, k_abs, tru_bl, augK, ctx_call, ctx_glob, k_in, k_nin, k_inS]
      obtain ⟨num, hnum, hnum2⟩ := modI (x := dr[4 * k + 2]) (m := ls.length) hl0
      refine ⟨by omega, ?_⟩
      rw [hnum]
      refine ⟨mulA_l (by decide) (by decide), ?_⟩
      refine sb _ (by omega) ?_
      simp only [WpSs, WpS, WpE, WpEs, WpBs, WpO, WpN, WpI, WpC, WpT, getS, setS, tgK, setsS, wipeS, k_add, k_addT, k_sub, k_mul, k_fdiv, k_mod, k_neg, k_lt, k_le, k_gt, k_ge, k_eqI, k_neI, k_eqS, k_neS, k_eqB, k_neB, k_is, k_isn, isNon_non, isNon_int, isNon_str, isNon_lst, isNon_tup, isNon_adr, k_lenS, k_lenL, k_lenR, k_lenT, k_int, k_str, k_abs, tru_bl, augK, ctx_call, ctx_glob, k_in, k_nin, k_inS]
      refine ⟨by decide, ?_⟩
      have t1 := Int.emod_nonneg dr[4 * k + 3] (b := 10) (by omega)
      have t2 := Int.emod_lt_of_pos dr[4 * k + 3] (b := 10) (by omega)
      generalize ht : dr[4 * k + 3] % 10 - 2 = tg
      refine ⟨mulA_l (by decide) (by decide), ?_⟩
      refine sb _ (by omega) ?_
      refine form_for_ok hv (by omega) (by omega) fun f f1 f2 => ?_
      refine kno3 ?_
      simp only [hvc]
      refine ⟨by rw [List.length_map]; omega, ?_⟩
      refine comp_inv (fun i acc h' => h' = [.lst (cs.map cev)] ∧ ∃ al : List Ce, acc = al.map cev ∧ (∀ c ∈ al, c ∈ cs) ∧ al.length ≤ i) ⟨rfl, [], rfl, (fun _ h => by cases h), Nat.le_refl _⟩ (fun _ _ _ _ z => by obtain ⟨rfl, _⟩ := z; exact hvc) ?_ ?_
      · rintro i x _ _ R hx ⟨rfl, al, rfl, hal, hai⟩ k1 k2
        obtain ⟨c, hci, rfl⟩ := items_map hx
        have hcm := List.mem_of_getElem? hci
        have hco := hc c hcm
        have yes : R (some (cev c)) [.lst (cs.map cev)] := by
          refine k1 _ _ ⟨rfl, al ++ [c], ce_one _ _, ?_, by simp; omega⟩
          intro d hd
          rcases List.mem_append.mp hd with hd | hd
          · exact hal d hd
          · rw [List.mem_singleton.mp hd]; exact hcm
        have no : R none [.lst (cs.map cev)] := k2 _ ⟨rfl, al, rfl, hal, by omega⟩
        refine k_subL (xs := [.int (c.1 : Int), fmv c.2.1, fmv c.2.2]) rfl (fun _ h => by cases h) (d := .int (c.1 : Int)) rfl ?_
        simp only [WpSs, WpS, WpE, WpEs, WpBs, WpO, WpN, WpI, WpC, WpT, getS, setS, tgK, setsS, wipeS, k_add, k_addT, k_sub, k_mul, k_fdiv, k_mod, k_neg, k_lt, k_le, k_gt, k_ge, k_eqI, k_neI, k_eqS, k_neS, k_eqB, k_neB, k_is, k_isn, isNon_non, isNon_int, isNon_str, isNon_lst, isNon_tup, isNon_adr, k_lenS, k_lenL, k_lenR, k_lenT, k_int, k_str, k_abs, tru_bl, augK, ctx_call, ctx_glob, k_in, k_nin, k_inS]
        refine ite_b (fun _ => ?_) (fun _ => ?_)
        · refine k_subL (xs := [.int (c.1 : Int), fmv c.2.1, fmv c.2.2]) rfl (fun _ h => by cases h) (d := fmv c.2.1) rfl ?_
          refine of_ok hco.2.1.1 ?_
          simp only [WpSs, WpS, WpE, WpEs, WpBs, WpO, WpN, WpI, WpC, WpT, getS, setS, tgK, setsS, wipeS, k_add, k_addT, k_sub, k_mul, k_fdiv, k_mod, k_neg, k_lt, k_le, k_gt, k_ge, k_eqI, k_neI, k_eqS, k_neS, k_eqB, k_neB, k_is, k_isn, isNon_non, isNon_int, isNon_str, isNon_lst, isNon_tup, isNon_adr, k_lenS, k_lenL, k_lenR, k_lenT, k_int, k_str, k_abs, tru_bl, augK, ctx_call, ctx_glob, k_in, k_nin, k_inS]
          exact ite_b (fun _ => yes) (fun _ => no)
        · simp only [Bool.false_eq_true, if_false]
          exact no
      rintro _ _ ⟨rfl, al, rfl, hal, hai⟩
      simp only [List.length_map] at hai
      refine ⟨mulA_l (by decide) (by decide), ?_⟩
      refine sb _ (by omega) ?_
      have d5 := dm (4 * k + 5) (by omega) (by omega)
      simp only [List.length_map, WpSs, WpS, WpE, WpEs, WpBs, WpO, WpN, WpI, WpC, WpT, getS, setS, tgK, setsS, wipeS, k_add, k_addT, k_sub, k_mul, k_fdiv, k_mod, k_neg, k_lt, k_le, k_gt, k_ge, k_eqI, k_neI, k_eqS, k_neS, k_eqB, k_neB, k_is, k_isn, isNon_non, isNon_int, isNon_str, isNon_lst, isNon_tup, isNon_adr, k_lenS, k_lenL, k_lenR, k_lenT, k_int, k_str, k_abs, tru_bl, augK, ctx_call, ctx_glob, k_in, k_nin, k_inS]
      refine ⟨divA (by decide) (by decide), ?_⟩
      have fin : ∀ val : Int, -1000 ≤ val → val ≤ 1000 → WpSs (ctxOf P (callN P (n+2))) b_law_cells_1 D' [.val (.ro (il ns)), .val (kno m ds ls 0), .val (.lst (il vs)), .val (.lst (il dr)), .val (.int k), .val (.int num), .val (.int tg), .val (fmv f), .val (.lst (al.map cev)), .val (.int val), .no] [.lst (cs.map cev)] := by
        intro val v1 v2
        simp only [b_law_cells_1, viewT_lst, List.length_map, a5, WpSs, WpS, WpE, WpEs, WpBs, WpO, WpN, WpI, WpC, WpT, getS, setS, tgK, setsS, wipeS, k_add, k_addT, k_sub, k_mul, k_fdiv, k_mod, k_neg, k_lt, k_le, k_gt, k_ge, k_eqI, k_neI, k_eqS, k_neS, k_eqB, k_neB, k_is, k_isn, isNon_non, isNon_int, isNon_str, isNon_lst, isNon_tup, isNon_adr, k_lenS, k_lenL, k_lenR, k_lenT, k_int, k_str, k_abs, tru_bl, augK, ctx_call, ctx_glob, k_in, k_nin, k_inS]
        refine ⟨by omega, ?_⟩
        refine comp_inv (fun i acc h' => h' = [.lst (cs.map cev)] ∧ acc.length ≤ i) ⟨rfl, Nat.le_refl _⟩ (fun _ _ _ _ _ => trivial) ?_ ?_
        · rintro i x acc _ R hx ⟨rfl, hai⟩ k1 k2
          obtain ⟨c, hci, rfl⟩ := items_map hx
          refine k_subL (xs := [.int (c.1 : Int), fmv c.2.1, fmv c.2.2]) rfl (fun _ h => by cases h) (d := fmv c.2.1) rfl ?_
          refine k_eqF fun b => ?_
          cases b with
          | true => exact k1 _ _ ⟨rfl, by simp; omega⟩
          | false => exact k2 _ ⟨rfl, by omega⟩
        rintro acc _ ⟨rfl, hai⟩
        refine ite_b (fun _ => ?_) (fun _ => kn _ _ ⟨cs, _, _, _, _, _, _, rfl, by omega, hc, rfl⟩)
        refine kno3 ?_
        simp only [hcs, WpSs, WpS, WpE, WpEs, WpBs, WpO, WpN, WpI, WpC, WpT, getS, setS, tgK, setsS, wipeS, k_add, k_addT, k_sub, k_mul, k_fdiv, k_mod, k_neg, k_lt, k_le, k_gt, k_ge, k_eqI, k_neI, k_eqS, k_neS, k_eqB, k_neB, k_is, k_isn, isNon_non, isNon_int, isNon_str, isNon_lst, isNon_tup, isNon_adr, k_lenS, k_lenL, k_lenR, k_lenT, k_int, k_str, k_abs, tru_bl, augK, ctx_call, ctx_glob, k_in, k_nin, k_inS]
        refine ⟨mulA_l (by decide) (by decide), ?_⟩
        refine sb _ (by omega) ?_
        refine form_for_ok hv v1 v2 fun g g1 g2 => ?_
        have e : AV.tup [.int (num : Int), fmv f, fmv g] = cev (num, f, g) := rfl
        simp only [e, hcs, appC, ce_one, List.length_map]
        refine ⟨by show 3 ≤ _; omega, by omega, ?_⟩
        refine kn _ _ ⟨cs ++ [(num, f, g)], _, _, _, _, _, _, rfl, by simp; omega, ?_, rfl⟩
        intro c h
        rcases List.mem_append.mp h with h | h
        · exact hc c h
        · rw [List.mem_singleton.mp h]
          exact ⟨hnum2, f1, g1⟩
      have next : ∀ val : Int, -1000 ≤ val → val ≤ 1000 → WpSs (ctxOf P (callN P (n+2))) b_law_cells_3 D' [.val (.ro (il ns)), .val (kno m ds ls 0), .val (.lst (il vs)), .val (.lst (il dr)), .val (.int k), .val (.int num), .val (.int tg), .val (fmv f), .val (.lst (al.map cev)), .val (.int val), .no] [.lst (cs.map cev)] := by
        intro val v1 v2
        have two : ∀ b1 b2 : Bool, (if (!decide ((if b1 = true then (1 : Int) else 0) = if b2 = true then 1 else 0)) = true then D'.ct [.val (.ro (il ns)), .val (kno m ds ls 0), .val (.lst (il vs)), .val (.lst (il dr)), .val (.int k), .val (.int num), .val (.int tg), .val (fmv f), .val (.lst (al.map cev)), .val (.int val), .no] [.lst (cs.map cev)] else WpSs (ctxOf P (callN P (n+2))) b_law_cells_2 D' [.val (.ro (il ns)), .val (kno m ds ls 0), .val (.lst (il vs)), .val (.lst (il dr)), .val (.int k), .val (.int num), .val (.int tg), .val (fmv f), .val (.lst (al.map cev)), .val (.int val), .no] [.lst (cs.map cev)]) := by
          intro b1 b2
          generalize (!decide ((if b1 = true then (1 : Int) else 0) = if b2 = true then 1 else 0)) = bb
          cases bb with
          | true => exact cont _ _ _ _ _
          | false =>
            simp only [Bool.false_eq_true, if_false]
            simp only [b_law_cells_2, WpSs, WpS, WpE, WpEs, WpBs, WpO, WpN, WpI, WpC, WpT, getS, setS, tgK, setsS, wipeS, k_add, k_addT, k_sub, k_mul, k_fdiv, k_mod, k_neg, k_lt, k_le, k_gt, k_ge, k_eqI, k_neI, k_eqS, k_neS, k_eqB, k_neB, k_is, k_isn, isNon_non, isNon_int, isNon_str, isNon_lst, isNon_tup, isNon_adr, k_lenS, k_lenL, k_lenR, k_lenT, k_int, k_str, k_abs, tru_bl, augK, ctx_call, ctx_glob, k_in, k_nin, k_inS]
            refine ite_b (fun _ => ?_) (fun _ => fin val v1 v2)
            refine told_ok hcs ho (by omega) hc hnum2 ?_
            have b := V_bd ho hc tg (num + 1) num (by omega) hnum2
            exact fin _ b.1 b.2
        have kb1 : ∀ (b : Bool) {h : AHeap} {Q : KA}, bltK h .int [.bl b] Q = Q (.int (if b = true then 1 else 0)) := fun b h Q => rfl
        simp only [b_law_cells_3, WpSs, WpS, WpE, WpEs, WpBs, WpO, WpN, WpI, WpC, WpT, getS, setS, tgK, setsS, wipeS, k_add, k_addT, k_sub, k_mul, k_fdiv, k_mod, k_neg, k_lt, k_le, k_gt, k_ge, k_eqI, k_neI, k_eqS, k_neS, k_eqB, k_neB, k_is, k_isn, isNon_non, isNon_int, isNon_str, isNon_lst, isNon_tup, isNon_adr, k_lenS, k_lenL, k_lenR, k_lenT, k_int, k_str, k_abs, tru_bl, augK, ctx_call, ctx_glob, k_in, k_nin, k_inS]
        refine kno2 ?_
        refine k_subLs (h := [.lst (cs.map cev)]) hnum2 ?_
        cases w : ls[num] with
        | wr b i v =>
          refine k_subL (d := .str "written") (xs := [.str "written", .int (b : Int), fmv i, fmv v]) rfl (fun _ h => by cases h) rfl ?_
          simp only [kb1, WpSs, WpS, WpE, WpEs, WpBs, WpO, WpN, WpI, WpC, WpT, getS, setS, tgK, setsS, wipeS, k_add, k_addT, k_sub, k_mul, k_fdiv, k_mod, k_neg, k_lt, k_le, k_gt, k_ge, k_eqI, k_neI, k_eqS, k_neS, k_eqB, k_neB, k_is, k_isn, isNon_non, isNon_int, isNon_str, isNon_lst, isNon_tup, isNon_adr, k_lenS, k_lenL, k_lenR, k_lenT, k_int, k_str, k_abs, tru_bl, augK, ctx_call, ctx_glob, k_in, k_nin, k_inS]
          exact two _ _
        | nw f =>
          refine k_subL (d := .str "new") (xs := [.str "new", fmv f]) rfl (fun _ h => by cases h) rfl ?_
          simp only [kb1, WpSs, WpS, WpE, WpEs, WpBs, WpO, WpN, WpI, WpC, WpT, getS, setS, tgK, setsS, wipeS, k_add, k_addT, k_sub, k_mul, k_fdiv, k_mod, k_neg, k_lt, k_le, k_gt, k_ge, k_eqI, k_neI, k_eqS, k_neS, k_eqB, k_neB, k_is, k_isn, isNon_non, isNon_int, isNon_str, isNon_lst, isNon_tup, isNon_adr, k_lenS, k_lenL, k_lenR, k_lenT, k_int, k_str, k_abs, tru_bl, augK, ctx_call, ctx_glob, k_in, k_nin, k_inS]
          exact two _ _
      refine ite_b (fun c => ?_) (fun c => next _ (by omega) (by omega))
      have h0 : 0 < al.length := by omega
      have hm := hc _ (hal _ (List.getElem_mem h0))
      refine k_subL (xs := al.map cev) (d := cev al[0]) rfl (fun _ h => by cases h) (by
        have := atI_nat (l := al.map cev) (k := 0) (by simpa using h0)
        exact this.trans (by simp [h0])) ?_
      refine k_subL (xs := [.int (al[0].1 : Int), fmv al[0].2.1, fmv al[0].2.2]) rfl (fun _ h => by cases h) (d := fmv al[0].2.2) rfl ?_
      refine of_ok hm.2.2.1 ?_
      exact next _ hm.2.2.2.2.1 hm.2.2.2.2.2
    simp only [b_law_cells_5, WpSs, WpS, WpE, WpEs, WpBs, WpO, WpN, WpI, WpC, WpT, getS, setS, tgK, setsS, wipeS, k_add, k_addT, k_sub, k_mul, k_fdiv, k_mod, k_neg, k_lt, k_le, k_gt, k_ge, k_eqI, k_neI, k_eqS, k_neS, k_eqB, k_neB, k_is, k_isn, isNon_non, isNon_int, isNon_str, isNon_lst, isNon_tup, isNon_adr, k_lenS, k_lenL, k_lenR, k_lenT, k_int, k_str, k_abs, tru_bl, augK, ctx_call, ctx_glob, k_in, k_nin, k_inS]
    have second : WpT (ctxOf P (callN P (n+2))) (.and (.cmp .Gt (.var 4) (.cint 7)) (.cmp .GtE (.bin .Sub (.var 4) (.cint 8)) (.sub (.var 3) (.cint 1)))) [.val (.ro (il ns)), .val (kno m ds ls 0), .val (.lst (il vs)), .val (.lst (il dr)), .val (.int k), s5, s6, s7, s8, s9, .no] [.lst (cs.map cev)] fun b h1 => if b = true then D'.ct [.val (.ro (il ns)), .val (kno m ds ls 0), .val (.lst (il vs)), .val (.lst (il dr)), .val (.int k), s5, s6, s7, s8, s9, .no] h1 else WpSs (ctxOf P (callN P (n+2))) b_law_cells_4 D' [.val (.ro (il ns)), .val (kno m ds ls 0), .val (.lst (il vs)), .val (.lst (il dr)), .val (.int k), s5, s6, s7, s8, s9, .no] h1 := by
      simp only [WpSs, WpS, WpE, WpEs, WpBs, WpO, WpN, WpI, WpC, WpT, getS, setS, tgK, setsS, wipeS, k_add, k_addT, k_sub, k_mul, k_fdiv, k_mod, k_neg, k_lt, k_le, k_gt, k_ge, k_eqI, k_neI, k_eqS, k_neS, k_eqB, k_neB, k_is, k_isn, isNon_non, isNon_int, isNon_str, isNon_lst, isNon_tup, isNon_adr, k_lenS, k_lenL, k_lenR, k_lenT, k_int, k_str, k_abs, tru_bl, augK, ctx_call, ctx_glob, k_in, k_nin, k_inS]
      refine ite_b (fun _ => ?_) (fun _ => ?_)
      · refine sb 1 (by decide) ?_
        simp only [WpSs, WpS, WpE, WpEs, WpBs, WpO, WpN, WpI, WpC, WpT, getS, setS, tgK, setsS, wipeS, k_add, k_addT, k_sub, k_mul, k_fdiv, k_mod, k_neg, k_lt, k_le, k_gt, k_ge, k_eqI, k_neI, k_eqS, k_neS, k_eqB, k_neB, k_is, k_isn, isNon_non, isNon_int, isNon_str, isNon_lst, isNon_tup, isNon_adr, k_lenS, k_lenL, k_lenR, k_lenT, k_int, k_str, k_abs, tru_bl, augK, ctx_call, ctx_glob, k_in, k_nin, k_inS]
        exact ite_b (fun _ => cont _ _ _ _ _) (fun _ => main)
      · simp only [Bool.false_eq_true, if_false]
        exact main
    simp only [WpSs, WpS, WpE, WpEs, WpBs, WpO, WpN, WpI, WpC, WpT, getS, setS, tgK, setsS, wipeS, k_add, k_addT, k_sub, k_mul, k_fdiv, k_mod, k_neg, k_lt, k_le, k_gt, k_ge, k_eqI, k_neI, k_eqS, k_neS, k_eqB, k_neB, k_is, k_isn, isNon_non, isNon_int, isNon_str, isNon_lst, isNon_tup, isNon_adr, k_lenS, k_lenL, k_lenR, k_lenT, k_int, k_str, k_abs, tru_bl, augK, ctx_call, ctx_glob, k_in, k_nin, k_inS] at second
    refine ite_b (fun _ => ?_) (fun _ => ?_)
    · refine sb 0 (by decide) ?_
      simp only [WpSs, WpS, WpE, WpEs, WpBs, WpO, WpN, WpI, WpC, WpT, getS, setS, tgK, setsS, wipeS, k_add, k_addT, k_sub, k_mul, k_fdiv, k_mod, k_neg, k_lt, k_le, k_gt, k_ge, k_eqI, k_neI, k_eqS, k_neS, k_eqB, k_neB, k_is, k_isn, isNon_non, isNon_int, isNon_str, isNon_lst, isNon_tup, isNon_adr, k_lenS, k_lenL, k_lenR, k_lenT, k_int, k_str, k_abs, tru_bl, augK, ctx_call, ctx_glob, k_in, k_nin, k_inS]
      refine ite_b (fun _ => ?_) (fun _ => second)
      simp only [if_true]
      exact cont _ _ _ _ _
    · simp only [Bool.false_eq_true, if_false]
      exact second
  · rintro _ _ ⟨cs, s4, s5, s6, s7, s8, s9, rfl, hk2, hc, rfl⟩
    simp only [WpSs, WpS, WpE, WpEs, WpBs, WpO, WpN, WpI, WpC, WpT, getS, setS, tgK, setsS, wipeS, k_add, k_addT, k_sub, k_mul, k_fdiv, k_mod, k_neg, k_lt, k_le, k_gt, k_ge, k_eqI, k_neI, k_eqS, k_neS, k_eqB, k_neB, k_is, k_isn, isNon_non, isNon_int, isNon_str, isNon_lst, isNon_tup, isNon_adr, k_lenS, k_lenL, k_lenR, k_lenT, k_int, k_str, k_abs, tru_bl, augK, ctx_call, ctx_glob, k_in, k_nin, k_inS]
    exact q cs hc (by simpa using hk2)
end K15

set_option maxRecDepth 100000
set_option maxHeartbeats 4000000
namespace K15
open PySem L2 VL
theorem k_neg1 {h : AHeap} {i : Int} {Q : KA} : negK (.int i) Q = Q (.int (-i)) := rfl
theorem asked_ok {n : Nat} {vs : List Int} {h : AHeap} {num : Nat} {m : Int} {ds : AV} {ls : List Ls} {cs : List Ce} {Q} (hcs : cells h 0 = .lst (cs.map cev)) (hcl : cs.length ≤ 10) (ho : LOk vs ls) (hl : ls.length ≤ 50) (hc : COk vs ls.length cs) (hnum : num < ls.length)
    (q : ∀ xs : List Int, Q (.lst (il xs)) h) : callN P (n+2) 15 [kno m ds ls 0, .lst (il vs), .int (num : Int)] h Q := by
  refine ⟨rfl, ?_⟩
  have hz1 : sizeLine = 16777216 := rfl
  have hvc := view_adr hcs
  have L := L_ok ho (num + 1) num (by omega) hnum
  show WpSs (ctxOf P (callN P (n+1))) b_law_asked _ [.val (kno m ds ls 0), .val (.lst (il vs)), .val (.int num), .no, .no, .no, .no, .no, .no] h
  simp only [b_law_asked, WpSs, WpS, WpE, WpEs, WpBs, WpO, WpN, WpI, WpC, WpT, getS, setS, tgK, setsS, wipeS, k_add, k_addT, k_sub, k_mul, k_fdiv, k_mod, k_neg, k_lt, k_le, k_gt, k_ge, k_eqI, k_neI, k_eqS, k_neS, k_eqB, k_neB, k_is, k_isn, isNon_non, isNon_int, isNon_str, isNon_lst, isNon_tup, isNon_adr, k_lenS, k_lenL, k_lenR, k_lenT, k_int, k_str, k_abs, tru_bl, augK, ctx_call, ctx_glob, k_in, k_nin, k_inS]
  refine kno2 ?_
  refine law_length_ok ho (by omega) hnum ?_
  refine of_ok L.1.1 ?_
  refine ⟨⟨by omega, by omega, by omega, by omega⟩, by simp; omega, ?_⟩
  refine comp_ints (fun k => -3 + (k : Int)) ?_ ?_
  · intro i x R hx r
    obtain ⟨hi, rfl⟩ := items_range hx
    simp only [if_true, WpSs, WpS, WpE, WpEs, WpBs, WpO, WpN, WpI, WpC, WpT, getS, setS, tgK, setsS, wipeS, k_add, k_addT, k_sub, k_mul, k_fdiv, k_mod, k_neg, k_lt, k_le, k_gt, k_ge, k_eqI, k_neI, k_eqS, k_neS, k_eqB, k_neB, k_is, k_isn, isNon_non, isNon_int, isNon_str, isNon_lst, isNon_tup, isNon_adr, k_lenS, k_lenL, k_lenR, k_lenT, k_int, k_str, k_abs, tru_bl, augK, ctx_call, ctx_glob, k_in, k_nin, k_inS]
    exact r
  have nl : ((List.range (List.map (fun k : Nat => AV.int (-3 + (k : Int))) (List.range (fv vs (LF ls num) + 3 - -3).toNat)).length).map fun k : Nat => -3 + (k : Int)).length ≤ 13 := by
    simp only [List.length_map, List.length_range]
    omega
  generalize ((List.range (List.map (fun k : Nat => AV.int (-3 + (k : Int))) (List.range (fv vs (LF ls num) + 3 - -3).toNat)).length).map fun k : Nat => -3 + (k : Int)) = xs0 at nl
  refine kno3 ?_
  simp only [hvc]
  refine ⟨by rw [List.length_map]; omega, ?_⟩
  refine comp_inv (fun i acc h' => h' = h ∧ acc = (cs.take i).map fun c => fmv c.2.1) ⟨rfl, rfl⟩ (fun _ _ _ _ z => by obtain ⟨rfl, _⟩ := z; exact hvc) ?_ ?_
  · rintro i x _ _ R hx ⟨rfl, rfl⟩ k1 k2
    obtain ⟨c, hci, rfl⟩ := items_map hx
    rw [if_pos trivial]
    refine k_subL (x := cev c) (i := 1) (xs := [.int (c.1 : Int), fmv c.2.1, fmv c.2.2]) rfl (fun _ h => by cases h) (d := fmv c.2.1) rfl ?_
    refine k1 _ _ ⟨rfl, ?_⟩
    rw [List.take_succ, hci, List.map_append]
    rfl
  rintro _ h ⟨rfl, rfl⟩
  rw [List.length_map, List.take_length]
  refine kno2 ?_
  simp only [viewT_lst, List.length_map]
  refine ⟨by omega, ?_⟩
  refine comp_inv (fun i acc h' => h' = h ∧ ∃ fs : List Fm, acc = fs.map fmv ∧ fs.length ≤ i ∧ ∀ f ∈ fs, FOk vs f) ⟨rfl, [], rfl, Nat.le_refl _, (fun _ h => by cases h)⟩ (fun _ _ _ _ _ => trivial) ?_ ?_
  · rintro i x _ _ R hx ⟨rfl, fs, rfl, hf1, hf2⟩ k1 k2
    obtain ⟨l, hli, rfl⟩ := items_map hx
    have hlo := ho i l hli
    cases l with
    | wr b i' v =>
      refine k_subL (x := lsv (.wr b i' v)) (i := 0) (d := .str "written") (xs := [.str "written", .int (b : Int), fmv i', fmv v]) rfl (fun _ h => by cases h) rfl ?_
      simp only [wn.1, if_true, decide_true, WpSs, WpS, WpE, WpEs, WpBs, WpO, WpN, WpI, WpC, WpT, getS, setS, tgK, setsS, wipeS, k_add, k_addT, k_sub, k_mul, k_fdiv, k_mod, k_neg, k_lt, k_le, k_gt, k_ge, k_eqI, k_neI, k_eqS, k_neS, k_eqB, k_neB, k_is, k_isn, isNon_non, isNon_int, isNon_str, isNon_lst, isNon_tup, isNon_adr, k_lenS, k_lenL, k_lenR, k_lenT, k_int, k_str, k_abs, tru_bl, augK, ctx_call, ctx_glob, k_in, k_nin, k_inS]
      refine k_subL (x := lsv (.wr b i' v)) (i := 2) (d := fmv i') (xs := [.str "written", .int (b : Int), fmv i', fmv v]) rfl (fun _ h => by cases h) rfl ?_
      refine k1 _ _ ⟨rfl, fs ++ [i'], by rw [List.map_append]; rfl, by simp; omega, ?_⟩
      intro f h
      rcases List.mem_append.mp h with h | h
      · exact hf2 f h
      · rw [List.mem_singleton.mp h]; exact hlo.2.1
    | nw f =>
      refine k_subL (x := lsv (.nw f)) (i := 0) (d := .str "new") (xs := [.str "new", fmv f]) rfl (fun _ h => by cases h) rfl ?_
      simp only [wn.2.1, Bool.false_eq_true, if_false, WpSs, WpS, WpE, WpEs, WpBs, WpO, WpN, WpI, WpC, WpT, getS, setS, tgK, setsS, wipeS, k_add, k_addT, k_sub, k_mul, k_fdiv, k_mod, k_neg, k_lt, k_le, k_gt, k_ge, k_eqI, k_neI, k_eqS, k_neS, k_eqB, k_neB, k_is, k_isn, isNon_non, isNon_int, isNon_str, isNon_lst, isNon_tup, isNon_adr, k_lenS, k_lenL, k_lenR, k_lenT, k_int, k_str, k_abs, tru_bl, augK, ctx_call, ctx_glob, k_in, k_nin, k_inS]
      exact k2 _ ⟨rfl, fs, rfl, by omega, hf2⟩
  rintro _ h ⟨rfl, fs, rfl, hf1, hf2⟩
  rw [List.length_map] at hf1
  have ef : (cs.map fun c => fmv c.2.1) ++ fs.map fmv = (cs.map (fun c => c.2.1) ++ fs).map fmv := by rw [List.map_append, List.map_map]; rfl
  simp only [viewW_lst, ef, List.length_map]
  refine ⟨by omega, ?_⟩
  have hF : ∀ f ∈ cs.map (fun c => c.2.1) ++ fs, FOk vs f := by
    intro f h
    rcases List.mem_append.mp h with h | h
    · obtain ⟨c, hc1, rfl⟩ := List.mem_map.mp h
      exact (hc c hc1).2.1
    · exact hf2 f h
  have hFl : (cs.map (fun c => c.2.1) ++ fs).length ≤ 60 := by simp; omega
  generalize cs.map (fun c => c.2.1) ++ fs = F at hF hFl
  refine for_inv (fun i ρ h' => h' = h ∧ ∃ (xs : List Int) (s5 : Slot), xs.length ≤ 13 + 3 * i ∧ ρ = [.val (kno m ds ls 0), .val (.lst (il vs)), .val (.int num), .val (.int (fv vs (LF ls num))), .val (.lst (il xs)), s5, .no, .no, .no]) ⟨rfl, xs0, .no, by omega, rfl⟩ (fun _ _ _ _ _ => by trivial) ?_ ?_
  · rintro i x _ h D' hx ⟨rfl, xs, s5, hxl, rfl⟩ kn kc kr kb
    obtain ⟨f, hfi, rfl⟩ := items_map hx
    have hi : i < F.length := (List.getElem?_eq_some_iff.mp hfi).1
    have hfo := hF f (List.mem_of_getElem? hfi)
    simp only [b_law_asked_1, WpSs, WpS, WpE, WpEs, WpBs, WpO, WpN, WpI, WpC, WpT, getS, setS, tgK, setsS, wipeS, k_add, k_addT, k_sub, k_mul, k_fdiv, k_mod, k_neg, k_lt, k_le, k_gt, k_ge, k_eqI, k_neI, k_eqS, k_neS, k_eqB, k_neB, k_is, k_isn, isNon_non, isNon_int, isNon_str, isNon_lst, isNon_tup, isNon_adr, k_lenS, k_lenL, k_lenR, k_lenT, k_int, k_str, k_abs, tru_bl, augK, ctx_call, ctx_glob, k_in, k_nin, k_inS]
    refine of_ok hfo.1 ?_
    simp only [WpSs, WpS, WpE, WpEs, WpBs, WpO, WpN, WpI, WpC, WpT, getS, setS, tgK, setsS, wipeS, k_add, k_addT, k_sub, k_mul, k_fdiv, k_mod, k_neg, k_lt, k_le, k_gt, k_ge, k_eqI, k_neI, k_eqS, k_neS, k_eqB, k_neB, k_is, k_isn, isNon_non, isNon_int, isNon_str, isNon_lst, isNon_tup, isNon_adr, k_lenS, k_lenL, k_lenR, k_lenT, k_int, k_str, k_abs, tru_bl, augK, ctx_call, ctx_glob, k_in, k_nin, k_inS]
    refine of_ok hfo.1 ?_
    refine of_ok hfo.1 ?_
    have e3 : [AV.int (fv vs f - 1), .int (fv vs f), .int (fv vs f + 1)] = il [fv vs f - 1, fv vs f, fv vs f + 1] := rfl
    simp only [viewW_lst, e3, int_app, List.length_map, WpSs, WpS, WpE, WpEs, WpBs, WpO, WpN, WpI, WpC, WpT, getS, setS, tgK, setsS, wipeS, k_add, k_addT, k_sub, k_mul, k_fdiv, k_mod, k_neg, k_lt, k_le, k_gt, k_ge, k_eqI, k_neI, k_eqS, k_neS, k_eqB, k_neB, k_is, k_isn, isNon_non, isNon_int, isNon_str, isNon_lst, isNon_tup, isNon_adr, k_lenS, k_lenL, k_lenR, k_lenT, k_int, k_str, k_abs, tru_bl, augK, ctx_call, ctx_glob, k_in, k_nin, k_inS]
    refine ⟨by show 3 ≤ _; omega, by show xs.length + 3 ≤ _; omega, ?_⟩
    exact kn _ _ ⟨rfl, _, _, by simp; omega, rfl⟩
  · rintro _ h ⟨rfl, xs, s5, hxl, rfl⟩
    rw [List.length_map] at hxl
    simp only [b_law_asked_2, k_pow, WpSs, WpS, WpE, WpEs, WpBs, WpO, WpN, WpI, WpC, WpT, getS, setS, tgK, setsS, wipeS, k_add, k_addT, k_sub, k_mul, k_fdiv, k_mod, k_neg, k_lt, k_le, k_gt, k_ge, k_eqI, k_neI, k_eqS, k_neS, k_eqB, k_neB, k_is, k_isn, isNon_non, isNon_int, isNon_str, isNon_lst, isNon_tup, isNon_adr, k_lenS, k_lenL, k_lenR, k_lenT, k_int, k_str, k_abs, tru_bl, augK, ctx_call, ctx_glob, k_in, k_nin, k_inS]
    refine ⟨⟨by decide, by decide, by decide⟩, ⟨by decide, by decide, by decide⟩, by show 2 ≤ _; omega, ?_⟩
    have e2 : ∀ a b : Int, [AV.int a, .int b] = il [a, b] := fun _ _ => rfl
    simp only [viewW_lst, e2, int_app, List.length_map]
    exact ⟨by show xs.length + 2 ≤ _; omega, q _⟩
theorem init_ok {n : Nat} {c0 : Cell} {m : AV} {ds ls cs : List AV} {Q} (q : Q .non [c0, .obj 0 [("many", m), ("differences", .lst ds), ("lists", .lst ls), ("cells", .lst cs), ("taken", .lst []), ("fresh", .lst [])]]) :
    callN P (n+1) 5 [.adr 1, m, .lst ds, .lst ls, .lst cs, .lst [], .lst []] [c0, .obj 0 []] Q := by
  refine ⟨rfl, ?_⟩
  show WpSs (ctxOf P (callN P n)) b_Known___init__ _ [.val (.adr 1), .val m, .val (.lst ds), .val (.lst ls), .val (.lst cs), .val (.lst []), .val (.lst [])] [c0, .obj 0 []]
  refine ⟨rfl, by decide, ?_⟩
  refine ⟨rfl, by show 1 < 1000; omega, ?_⟩
  refine ⟨rfl, by show 2 < 1000; omega, ?_⟩
  refine ⟨rfl, by show 3 < 1000; omega, ?_⟩
  refine ⟨rfl, by show 4 < 1000; omega, ?_⟩
  refine ⟨rfl, by show 5 < 1000; omega, ?_⟩
  exact q
end K15

set_option maxRecDepth 100000
set_option maxHeartbeats 4000000
namespace K15
open PySem L2 VL
/-! what repr is asked of -/
def Few (ns : List Int) : Prop := ∀ n ∈ ns, n.natAbs.log2 < 150
theorem few_int {n : Int} (h : n.natAbs.log2 < 150) : (PyData.int n).leavesShort 151 = true ∧ (PyData.int n).weight ≤ 151 ∧ (PyData.int n).showable = true ∧ (PyData.int n).hasDict = false := by
  refine ⟨?_, ?_, ?_, rfl⟩
  · simp only [PyData.leavesShort, decide_eq_true_eq]
    show (Str.ofString (toString n)).length ≤ 151
    rw [PySem.ofString_length]
    exact PySem.int_text_length_le (k := 150) (by decide) h
  · simp only [PyData.weight]
    split <;> omega
  · simp only [PyData.showable, decide_eq_true_eq]
    omega
theorem few_of {i : Int} (h1 : -20000000000000 ≤ i) (h2 : i ≤ 20000000000000) : i.natAbs.log2 < 150 := by
  have : i.natAbs < 2 ^ 64 := by
    have e : (2 ^ 64 : Nat) = 18446744073709551616 := by decide
    omega
  have := PySem.Flt.log2_lt_of (by decide : 0 < 64) this
  omega
/-- may be shown, with a weight of at most w and a depth of at most d -/
structure Sh (p : PyData) (w d : Nat) : Prop where
  l : p.leavesShort 151 = true
  w : p.weight ≤ w
  s : p.showable = true
  n : p.hasDict = false
  d : p.depth ≤ d
structure ShA (p : List PyData) (w d : Nat) : Prop where
  l : PyData.leavesShortAll 151 p = true
  w : PyData.weightAll p ≤ w
  s : PyData.showableAll p = true
  n : PyData.hasDictAll p = false
  d : PyData.depthAll p ≤ d
theorem ShA.nil {d : Nat} : ShA [] 0 d := ⟨rfl, Nat.le_refl _, rfl, rfl, Nat.zero_le _⟩
theorem ShA.cons {p : PyData} {ps : List PyData} {w v d : Nat} (a : Sh p w d) (b : ShA ps v d) : ShA (p :: ps) (w + 1 + v) d := by
  refine ⟨?_, ?_, ?_, ?_, ?_⟩
  · simp only [PyData.leavesShortAll, a.l, b.l, Bool.and_self]
  · simp only [PyData.weightAll]
    have := a.w; have := b.w
    omega
  · simp only [PyData.showableAll, a.s, b.s, Bool.and_self]
  · simp only [PyData.hasDictAll, a.n, b.n, Bool.or_self]
  · simp only [PyData.depthAll]
    exact Nat.max_le.mpr ⟨a.d, b.d⟩
theorem ShA.map {α : Type} {f : α → PyData} {w d : Nat} : ∀ {xs : List α}, (∀ x ∈ xs, Sh (f x) w d) → ShA (xs.map f) (xs.length * (w + 1)) d
  | [], _ => by
    rw [List.length_nil, Nat.zero_mul]
    exact .nil
  | x :: xs, h => by
    have := (h x (List.mem_cons_self ..)).l
    have b := ShA.cons (h x (List.mem_cons_self ..)) (ShA.map fun y hy => h y (List.mem_cons_of_mem _ hy))
    rw [List.length_cons, Nat.succ_mul, Nat.add_comm]
    exact b
theorem ShA.list {p : List PyData} {w d : Nat} (a : ShA p w d) : Sh (.list p) w (d + 1) := ⟨by simp only [PyData.leavesShort]; exact a.l, by simp only [PyData.weight]; exact a.w, by simp only [PyData.showable]; exact a.s, by simp only [PyData.hasDict]; exact a.n, by simp only [PyData.depth]; exact Nat.succ_le_succ a.d⟩
theorem ShA.tup {p : List PyData} {w d : Nat} (a : ShA p w d) : Sh (.tuple p) w (d + 1) := ⟨by simp only [PyData.leavesShort]; exact a.l, by simp only [PyData.weight]; exact a.w, by simp only [PyData.showable]; exact a.s, by simp only [PyData.hasDict]; exact a.n, by simp only [PyData.depth]; exact Nat.succ_le_succ a.d⟩
theorem Sh.mono {p : PyData} {w w' d d' : Nat} (a : Sh p w d) (h1 : w ≤ w') (h2 : d ≤ d') : Sh p w' d' := ⟨a.l, Nat.le_trans a.w h1, a.s, a.n, Nat.le_trans a.d h2⟩
theorem Sh.int {i : Int} {d : Nat} (h1 : -20000000000000 ≤ i) (h2 : i ≤ 20000000000000) : Sh (.int i) 151 d := by
  obtain ⟨a, b, c, e⟩ := few_int (few_of h1 h2)
  exact ⟨a, b, c, e, Nat.zero_le _⟩
theorem Sh.ok {p : PyData} {w d : Nat} (a : Sh p w d) (h : w ≤ 100000) (h2 : d ≤ 50) : p.showable = true ∧ p.hasDict = false ∧ p.depth ≤ 50 ∧ p.shown.length ≤ sizeLine := by
  refine ⟨a.s, a.n, Nat.le_trans a.d h2, ?_⟩
  have s := PyData.shown_le 151 (by decide) _ a.l
  have hz1 : sizeLine = 16777216 := rfl
  have := a.w
  omega
def fmp (f : Fm) : PyData := .tuple [.int (f.1 : Int), .int f.2]
def lsp : Ls → PyData
  | .wr b i v => .tuple [.str "written", .int (b : Int), fmp i, fmp v]
  | .nw f => .tuple [.str "new", fmp f]
def cep (c : Ce) : PyData := .tuple [.int (c.1 : Int), fmp c.2.1, fmp c.2.2]
def tdp (t : Td) : PyData := .tuple [.int t.1, .int t.2.1, .int t.2.2]
theorem sh_fm {vs : List Int} {f : Fm} (hv : vs.length ≤ 100) (h : FOk vs f) : Sh (fmp f) 304 2 := by
  have := h.1
  have := h.2.1
  exact ((ShA.cons (Sh.int (d := 1) (by omega) (by omega)) (.cons (Sh.int (by omega) (by omega)) .nil)).tup).mono (by decide) (by decide)
theorem sh_str {s : Str} {w d : Nat} (h1 : (PyData.str s).leavesShort 151 = true) (h2 : (PyData.str s).weight ≤ w) : Sh (.str s) w d := ⟨h1, h2, rfl, rfl, Nat.zero_le _⟩
theorem sh_written {d : Nat} : Sh (.str "written") 10 d := sh_str (by decide +kernel) (by decide +kernel)
theorem sh_new {d : Nat} : Sh (.str "new") 10 d := sh_str (by decide +kernel) (by decide +kernel)
theorem sh_ls {vs : List Int} {ls : List Ls} {l : Ls} (hv : vs.length ≤ 100) (hl : ls.length ≤ 50) (ho : LOk vs ls) (h : l ∈ ls) : Sh (lsp l) 800 3 := by
  obtain ⟨n, hn, rfl⟩ := List.getElem_of_mem h
  have e := List.getElem?_eq_getElem hn
  cases w : ls[n] with
  | wr b i v =>
    rw [w] at e
    have hb := ho n _ e
    have := hb.1
    exact ((ShA.cons sh_written (.cons (Sh.int (by omega) (by omega)) (.cons (sh_fm hv hb.2.1) (.cons (sh_fm hv hb.2.2) .nil)))).tup).mono (by decide) (by decide)
  | nw f =>
    rw [w] at e
    have hb := ho n _ e
    exact ((ShA.cons sh_new (.cons (sh_fm hv hb.1) .nil)).tup).mono (by decide) (by decide)
theorem sh_ce {vs : List Int} {n : Nat} {cs : List Ce} {c : Ce} (hv : vs.length ≤ 100) (hn : n ≤ 100) (hc : COk vs n cs) (h : c ∈ cs) : Sh (cep c) 800 3 := by
  have hb := hc c h
  have := hb.1
  exact ((ShA.cons (Sh.int (by omega) (by omega)) (.cons (sh_fm hv hb.2.1) (.cons (sh_fm hv hb.2.2) .nil))).tup).mono (by decide) (by decide)
theorem sh_td {ts : List Td} {t : Td} (hc : TB ts) (h : t ∈ ts) : Sh (tdp t) 800 3 := by
  have hb := hc t h
  exact ((ShA.cons (Sh.int (d := 1) (by omega) (by omega)) (.cons (Sh.int (by omega) (by omega)) (.cons (Sh.int (by omega) (by omega)) .nil))).tup).mono (by decide) (by decide)
theorem sh_ints {b : Int} {ns : List Int} {d : Nat} (h : ∀ x ∈ ns, -20000000000000 ≤ x ∧ x ≤ 20000000000000) : ShA (ns.map .int) (ns.length * 152) d := ShA.map (f := PyData.int) (w := 151) fun x hx => Sh.int (h x hx).1 (h x hx).2
theorem pdHs_map {α : Type} {h : AHeap} {f : α → AV} {g : α → PyData} (e : ∀ x, pdH h (f x) = some (g x)) : ∀ xs : List α, pdHs h (xs.map f) = some (xs.map g)
  | [] => rfl
  | x :: xs => by
    rw [List.map_cons, pdHs, e, pdHs_map e xs]
    rfl
theorem pds_map {α : Type} {f : α → AV} {g : α → PyData} (e : ∀ x, pd (f x) = some (g x)) : ∀ xs : List α, pds (xs.map f) = some (xs.map g)
  | [] => rfl
  | x :: xs => by
    rw [List.map_cons, pds, e, pds_map e xs]
    rfl
theorem pd_fm (f : Fm) : pd (fmv f) = some (fmp f) := by
  simp only [fmv, pd, pds, Option.bind_some, Option.map_some, fmp]
theorem pdH_fm (h : AHeap) (f : Fm) : pdH h (fmv f) = some (fmp f) := by
  simp only [fmv, pdH, pdHs, Option.bind_some, Option.map_some, fmp]
theorem pdH_ls (h : AHeap) (l : Ls) : pdH h (lsv l) = some (lsp l) := by
  cases l <;> simp only [lsv, pdH, pdHs, pdH_fm, Option.bind_some, Option.map_some, lsp]
theorem pdH_ce (h : AHeap) (c : Ce) : pdH h (cev c) = some (cep c) := by
  simp only [cev, pdH, pdHs, pdH_fm, Option.bind_some, Option.map_some, cep]
theorem pd_ce (c : Ce) : pd (cev c) = some (cep c) := by
  simp only [cev, pd, pds, pd_fm, Option.bind_some, Option.map_some, cep]
theorem pdH_td (h : AHeap) (c : Td) : pdH h (td c) = some (tdp c) := by
  simp only [td, pdH, pdHs, Option.bind_some, Option.map_some, tdp]
theorem pdHs_il (h : AHeap) (ns : List Int) : pdHs h (il ns) = some (ns.map .int) := pdHs_map (fun x => by simp only [pdH]) ns
theorem pds_il (ns : List Int) : pds (il ns) = some (ns.map .int) := pds_map (fun x => by simp only [pd]) ns
theorem k_repr {h : AHeap} {x : AV} {d : PyData} {Q : KA} (e : pdH h x = some d) (c : d.showable = true ∧ d.hasDict = false ∧ d.depth ≤ 50 ∧ d.shown.length ≤ sizeLine) (q : Q (.str d.shown)) : bltK h .repr [x] Q := by
  unfold bltK
  simp only [e]
  exact ⟨c, q⟩
end K15

set_option maxRecDepth 100000
set_option maxHeartbeats 4000000
namespace K15
open PySem L2 VL
def C : VL.Ctx := ctxOf P (callN P 7)
def D : Kt := { nx := fun _ h => AV.non = AV.bl true, rt := fun d _ => d = .bl true }
theorem cells_pos {h : AHeap} {n : Nat} {c : Cell} (e : cells h n = c) (hc : c ≠ .dead) : n < h.length := by
  cases Nat.lt_or_ge n h.length with
  | inl q => exact q
  | inr q => unfold cells at e; rw [List.getElem?_eq_none q] at e; exact absurd e.symm hc
theorem cells_push {h : AHeap} {n : Nat} {c d : Cell} (e : cells h n = c) (hc : c ≠ .dead) : cells (h ++ [d]) n = c := by
  have := cells_pos e hc
  unfold cells at e ⊢
  rw [List.getElem?_append_left this]
  exact e
theorem cells_put {h : AHeap} {n m : Nat} {c : Cell} (hn : n ≠ m) : cells (h.set n c) m = cells h m := by
  unfold cells
  rw [List.getElem?_set_ne hn]
theorem cells_last (h : AHeap) (c : Cell) : cells (h ++ [c]) h.length = c := by simp [cells]
theorem set_last (h : AHeap) (c d : Cell) : (h ++ [c]).set h.length d = h ++ [d] := by simp
/-- the law's cells, and the program's object -/
structure St (vs : List Int) (h : AHeap) (m ds : AV) (ls : List Ls) (cs : List Ce) : Prop where
  c : cells h 0 = .lst (cs.map cev)
  k : KOb vs h 1 m ds ls cs
theorem St.push {vs : List Int} {h : AHeap} {m ds : AV} {ls : List Ls} {cs : List Ce} (s : St vs h m ds ls cs) (d : Cell) : St vs (h ++ [d]) m ds ls cs := ⟨cells_push s.c (by intro z; cases z), ⟨cells_push s.k.at_ (by intro z; cases z)⟩⟩
theorem St.two {vs : List Int} {h : AHeap} {m ds : AV} {ls : List Ls} {cs : List Ce} (s : St vs h m ds ls cs) : 2 ≤ h.length := cells_pos s.k.at_ (by intro z; cases z)
section
variable {ns vs : List Int} {ls : List Ls} {cs : List Ce} {ts : List Td} {y s1 : AV} {s4 : Slot} {m : Int}
/-- the names that stay -/
def base (ns vs : List Int) (ls : List Ls) (ts : List Td) (m : Int) (y s1 : AV) (s4 : Slot) : List Slot := [.val (.ro (il ns)), .val s1, .val (.lst (il vs)), .val (.lst (ls.map lsv)), s4, .val (kno m (.lst (ts.map td)) ls 0), .val (.adr 1), .val y]
structure Facts (vs : List Int) (ls : List Ls) (cs : List Ce) (ts : List Td) (y : AV) (m : Int) : Prop where
  vl : vs.length ≤ 50
  vb : VB vs
  ll : ls.length ≤ 50
  lo : LOk vs ls
  co : COk vs ls.length cs
  cl : cs.length ≤ 10
  tb : TB ts
  tl : ts.length ≤ 50
  yv : y = .lst (il vs) ∨ y = .tup (il vs)
  mb : -1000 ≤ m ∧ m ≤ 1000
theorem Facts.vy (F : Facts vs ls cs ts y m) (h : AHeap) : viewT h y = some (il vs) := by
  rcases F.yv with e | e <;> rw [e] <;> rfl
theorem Facts.yn (F : Facts vs ls cs ts y m) : ∀ z, y ≠ .str z := by
  rcases F.yv with e | e <;> rw [e] <;> intro z k <;> cases k
theorem law_6_ok (F : Facts vs ls cs ts y m) {h : AHeap} {s8 s9 s10 s11 s12 s13 s14 s15 : Slot} (S : St vs h (.int m) (.lst (ts.map td)) ls cs) : WpSs C b_law_6 D (base ns vs ls ts m y s1 s4 ++ [s8, s9, s10, s11, s12, s13, s14, s15]) h := by
  have hz1 : sizeLine = 16777216 := rfl
  have ka := S.k.at_
  have kn : ∀ (i : Nat) {d : AV} {Q : KA}, ([AV.int m, .lst (ts.map td), .lst (ls.map lsv), .adr 0] : List AV)[i]? = some d → i < 4 → Q d → subK h (kno m (.lst (ts.map td)) ls 0) (.int (i : Int)) Q := by
    intro i d Q e hi q
    refine k_subL (xs := [.int m, .lst (ts.map td), .lst (ls.map lsv), .adr 0]) rfl (fun _ h => by cases h) ?_ q
    rw [VL.atI_nat (by exact hi)]
    exact e
  show WpSs C b_law_6 D [.val (.ro (il ns)), .val s1, .val (.lst (il vs)), .val (.lst (ls.map lsv)), s4, .val (kno m (.lst (ts.map td)) ls 0), .val (.adr 1), .val y, s8, s9, s10, s11, s12, s13, s14, s15] h
  simp only [b_law_6, C, D, WpSs, WpS, WpE, WpEs, WpBs, WpO, WpN, WpI, WpC, WpT, getS, setS, tgK, setsS, wipeS, k_add, k_addT, k_sub, k_mul, k_fdiv, k_mod, k_neg, k_lt, k_le, k_gt, k_ge, k_eqI, k_neI, k_eqS, k_neS, k_eqB, k_neB, k_is, k_isn, isNon_non, isNon_int, isNon_str, isNon_lst, isNon_tup, isNon_adr, k_lenS, k_lenL, k_lenR, k_lenT, k_int, k_str, k_abs, tru_bl, augK, ctx_call, ctx_glob, k_in, k_nin, k_inS]
  simp only [ka]
  refine ⟨rfl, ⟨rfl, ⟨rfl, ⟨rfl, ⟨rfl, ⟨rfl, ?_⟩⟩⟩⟩⟩⟩
  show (match viewT h y with | some xs => _ | none => False : Prop)
  rw [F.vy h]
  refine ⟨by show 7 ≤ _; omega, ?_⟩
  have p1 : pdH h (.lst [.int m, .lst (ts.map td), .lst (ls.map lsv), .lst (cs.map cev), .lst [], .lst [], .lst (il vs)]) = some (.list [.int m, .list (ts.map tdp), .list (ls.map lsp), .list (cs.map cep), .list [], .list [], .list (vs.map .int)]) := by
    simp only [pdH, pdHs, pdHs_map (pdH_td h), pdHs_map (pdH_ls h), pdHs_map (pdH_ce h), pdHs_il, Option.map_some, Option.bind_some]
  have p2 : pdH h (.lst [.int m, .lst (ts.map td), .lst (ls.map lsv), .adr 0, .lst [], .lst [], .lst (il vs)]) = some (.list [.int m, .list (ts.map tdp), .list (ls.map lsp), .list (cs.map cep), .list [], .list [], .list (vs.map .int)]) := by
    simp only [pdH, pdHs, S.c, pds_map pd_ce, pdHs_map (pdH_td h), pdHs_map (pdH_ls h), pdHs_il, Option.map_some, Option.bind_some]
  have mb := F.mb
  have vl := F.vl
  have ll := F.ll
  have cl := F.cl
  have tl := F.tl
  have W : Sh (.list [.int m, .list (ts.map tdp), .list (ls.map lsp), .list (cs.map cep), .list [], .list [], .list (vs.map .int)]) 100000 10 := by
    have w1 := (ShA.map (f := tdp) fun t ht => sh_td F.tb ht).list
    have w2 := (ShA.map (f := lsp) fun t ht => sh_ls (by omega) F.ll F.lo ht).list
    have w3 := (ShA.map (f := cep) fun t ht => sh_ce (n := ls.length) (by omega) (by omega) F.co ht).list
    have w4 := (sh_ints (b := 0) (d := 3) (ns := vs) fun x hx => by have := F.vb x hx; omega).list
    have w0 : Sh (.list []) 0 4 := ShA.nil.list
    refine ((ShA.cons (Sh.int (by omega) (by omega)) (.cons w1 (.cons w2 (.cons w3 (.cons w0 (.cons w0 (.cons w4 .nil))))))).list).mono ?_ (by decide)
    omega
  have W := W.ok (Nat.le_refl _) (by decide)
  refine k_repr p1 W ?_
  refine kn 0 rfl (by decide) ?_
  refine kn 1 rfl (by decide) ?_
  refine kn 2 rfl (by decide) ?_
  refine kn 3 rfl (by decide) ?_
  refine ⟨Nat.zero_le _, Nat.zero_le _, by show 7 ≤ _; omega, ?_⟩
  refine k_repr p2 W ?_
  simp only [decide_true, WpSs, WpS, WpE, WpEs, WpBs, WpO, WpN, WpI, WpC, WpT, getS, setS, tgK, setsS, wipeS, k_add, k_addT, k_sub, k_mul, k_fdiv, k_mod, k_neg, k_lt, k_le, k_gt, k_ge, k_eqI, k_neI, k_eqS, k_neS, k_eqB, k_neB, k_is, k_isn, isNon_non, isNon_int, isNon_str, isNon_lst, isNon_tup, isNon_adr, k_lenS, k_lenL, k_lenR, k_lenT, k_int, k_str, k_abs, tru_bl, augK, ctx_call, ctx_glob, k_in, k_nin, k_inS]
theorem sh_one {r : Int} (h : -1000 ≤ r ∧ r ≤ 1000) : (PyData.int r).showable = true ∧ (PyData.int r).hasDict = false ∧ (PyData.int r).depth ≤ 50 ∧ (PyData.int r).shown.length ≤ sizeLine := (Sh.int (d := 1) (by omega) (by omega)).ok (by decide) (by decide)
theorem law_4_ok (F : Facts vs ls cs ts y m) {num : Nat} (hnum : num < ls.length) {h : AHeap} {D' : Kt} {s9 s10 s11 s12 s13 : Slot} (S : St vs h (.int m) (.lst (ts.map td)) ls cs)
    (kn : ∀ h s9 s10 s11 s12 s13, St vs h (.int m) (.lst (ts.map td)) ls cs → D'.nx (base ns vs ls ts m y s1 s4 ++ [.val (.int (num : Int)), s9, s10, s11, s12, s13, .no, .no]) h) :
    WpSs C b_law_4 D' (base ns vs ls ts m y s1 s4 ++ [.val (.int (num : Int)), s9, s10, s11, s12, s13, .no, .no]) h := by
  have hz1 : sizeLine = 16777216 := rfl
  have L := L_ok F.lo (num + 1) num (by omega) hnum
  have ll := F.ll
  show WpSs C b_law_4 D' [.val (.ro (il ns)), .val s1, .val (.lst (il vs)), .val (.lst (ls.map lsv)), s4, .val (kno m (.lst (ts.map td)) ls 0), .val (.adr 1), .val y, .val (.int (num : Int)), s9, s10, s11, s12, s13, .no, .no] h
  simp only [b_law_4, C, WpSs, WpS, WpE, WpEs, WpBs, WpO, WpN, WpI, WpC, WpT, getS, setS, tgK, setsS, wipeS, k_add, k_addT, k_sub, k_mul, k_fdiv, k_mod, k_neg, k_lt, k_le, k_gt, k_ge, k_eqI, k_neI, k_eqS, k_neS, k_eqB, k_neB, k_is, k_isn, isNon_non, isNon_int, isNon_str, isNon_lst, isNon_tup, isNon_adr, k_lenS, k_lenL, k_lenR, k_lenT, k_int, k_str, k_abs, tru_bl, augK, ctx_call, ctx_glob, k_in, k_nin, k_inS]
  refine law_length_ok F.lo (by omega) hnum ?_
  refine of_ok L.1.1 ?_
  refine ⟨⟨by omega, by omega⟩, by simp; omega, ?_⟩
  refine comp_ints (fun k => V vs ls cs num (k : Int)) ?_ ?_
  · intro i x R hx r
    obtain ⟨hi, rfl⟩ := items_range hx
    simp only [if_true, WpSs, WpS, WpE, WpEs, WpBs, WpO, WpN, WpI, WpC, WpT, getS, setS, tgK, setsS, wipeS, k_add, k_addT, k_sub, k_mul, k_fdiv, k_mod, k_neg, k_lt, k_le, k_gt, k_ge, k_eqI, k_neI, k_eqS, k_neS, k_eqB, k_neB, k_is, k_isn, isNon_non, isNon_int, isNon_str, isNon_lst, isNon_tup, isNon_adr, k_lenS, k_lenL, k_lenR, k_lenT, k_int, k_str, k_abs, tru_bl, augK, ctx_call, ctx_glob, k_in, k_nin, k_inS]
    exact told_ok S.c F.lo (by omega) F.co hnum r
  simp only [List.length_map, List.length_range]
  have xb : ∀ x ∈ (List.range (fv vs (LF ls num)).toNat).map (fun k : Nat => V vs ls cs num (k : Int)), -20000000000000 ≤ x ∧ x ≤ 20000000000000 := by
    intro x hx
    obtain ⟨i, _, rfl⟩ := List.mem_map.mp hx
    have := V_bd F.lo F.co (i : Int) (num + 1) num (by omega) hnum
    omega
  have xl : ((List.range (fv vs (LF ls num)).toNat).map (fun k : Nat => V vs ls cs num (k : Int))).length ≤ 7 := by
    rw [List.length_map, List.length_range]
    omega
  generalize hxs : (List.range (fv vs (LF ls num)).toNat).map (fun k : Nat => V vs ls cs num (k : Int)) = xs at xb xl
  refine ⟨⟨by decide, by decide⟩, ?_⟩
  refine for_inv (fun i ρ h' => St vs h' (.int m) (.lst (ts.map td)) ls cs ∧ ∃ s9 s10 s13, ρ = [.val (.ro (il ns)), .val s1, .val (.lst (il vs)), .val (.lst (ls.map lsv)), s4, .val (kno m (.lst (ts.map td)) ls 0), .val (.adr 1), .val y, .val (.int (num : Int)), s9, s10, .val (.int (fv vs (LF ls num))), .val (.lst (il xs)), s13, .no, .no]) ⟨S, _, _, _, rfl⟩ (fun _ _ _ _ _ => by trivial) ?_ ?_
  · rintro i x _ h D2 hx ⟨S, s9, s10, s13, rfl⟩ kn2 kc2 kr2 kb2
    simp only [b_law_3, WpSs, WpS, WpE, WpEs, WpBs, WpO, WpN, WpI, WpC, WpT, getS, setS, tgK, setsS, wipeS, k_add, k_addT, k_sub, k_mul, k_fdiv, k_mod, k_neg, k_lt, k_le, k_gt, k_ge, k_eqI, k_neI, k_eqS, k_neS, k_eqB, k_neB, k_is, k_isn, isNon_non, isNon_int, isNon_str, isNon_lst, isNon_tup, isNon_adr, k_lenS, k_lenL, k_lenR, k_lenT, k_int, k_str, k_abs, tru_bl, augK, ctx_call, ctx_glob, k_in, k_nin, k_inS]
    refine content_ok (F.vy h) F.yn S.k F.lo F.co hnum ?_
    rw [hxs]
    have S2 := S.push (.lst (il xs))
    have t2 := S.two
    have hc := cells_last h (.lst (il xs))
    have isl : ∀ {Q : KA}, Q (.bl true) → isiK (.adr h.length) "list" (h ++ [.lst (il xs)]) Q := by
      intro Q q
      have v : view (h ++ [.lst (il xs)]) (.adr h.length) = some (il xs) := by simp only [view, hc]
      unfold isiK
      split <;> simp_all
    have W := ((sh_ints (b := 0) (d := 3) xb).list).ok (by omega) (by decide)
    have pa : pdH (h ++ [.lst (il xs)]) (.adr h.length) = some (.list (xs.map .int)) := by
      simp only [pdH, hc, pds_il, Option.map_some]
    have pb : pdH (h ++ [.lst (il xs)]) (.lst (il xs)) = some (.list (xs.map .int)) := by
      simp only [pdH, pdHs_il, Option.map_some]
    refine isl ?_
    simp only [Bool.not_true, Bool.false_eq_true, if_false, WpSs, WpS, WpE, WpEs, WpBs, WpO, WpN, WpI, WpC, WpT, getS, setS, tgK, setsS, wipeS, k_add, k_addT, k_sub, k_mul, k_fdiv, k_mod, k_neg, k_lt, k_le, k_gt, k_ge, k_eqI, k_neI, k_eqS, k_neS, k_eqB, k_neB, k_is, k_isn, isNon_non, isNon_int, isNon_str, isNon_lst, isNon_tup, isNon_adr, k_lenS, k_lenL, k_lenR, k_lenT, k_int, k_str, k_abs, tru_bl, augK, ctx_call, ctx_glob, k_in, k_nin, k_inS]
    refine k_repr pa W ?_
    refine k_repr pb W ?_
    simp only [decide_true, Bool.not_true, Bool.false_eq_true, if_false, b_law_2, hc, appC, set_last, WpSs, WpS, WpE, WpEs, WpBs, WpO, WpN, WpI, WpC, WpT, getS, setS, tgK, setsS, wipeS, k_add, k_addT, k_sub, k_mul, k_fdiv, k_mod, k_neg, k_lt, k_le, k_gt, k_ge, k_eqI, k_neI, k_eqS, k_neS, k_eqB, k_neB, k_is, k_isn, isNon_non, isNon_int, isNon_str, isNon_lst, isNon_tup, isNon_adr, k_lenS, k_lenL, k_lenR, k_lenT, k_int, k_str, k_abs, tru_bl, augK, ctx_call, ctx_glob, k_in, k_nin, k_inS]
    have e0 : il xs ++ [.int 0] = il (xs ++ [0]) := int_one xs 0
    rw [e0]
    refine ⟨by rw [List.length_map]; omega, ?_⟩
    have hc2 := cells_last h (.lst (il (xs ++ [0])))
    have p0 : 0 < (xs ++ [0]).length := by simp
    refine k_subL (view_adr hc2) (fun _ h => by cases h) (il_get (j := 0) p0) ?_
    have ix : ixN (il (xs ++ [0])).length 0 = some 0 := by
      rw [List.length_map]
      exact Evl.ixN_nat p0
    simp only [hc2, putC, ix, set_last, WpSs, WpS, WpE, WpEs, WpBs, WpO, WpN, WpI, WpC, WpT, getS, setS, tgK, setsS, wipeS, k_add, k_addT, k_sub, k_mul, k_fdiv, k_mod, k_neg, k_lt, k_le, k_gt, k_ge, k_eqI, k_neI, k_eqS, k_neS, k_eqB, k_neB, k_is, k_isn, isNon_non, isNon_int, isNon_str, isNon_lst, isNon_tup, isNon_adr, k_lenS, k_lenL, k_lenR, k_lenT, k_int, k_str, k_abs, tru_bl, augK, ctx_call, ctx_glob, k_in, k_nin, k_inS]
    exact kn2 _ _ ⟨S.push _, _, _, _, rfl⟩
  · rintro _ h ⟨S, s9, s10, s13, rfl⟩
    exact kn h _ _ _ _ _ S
theorem law_7_ok (F : Facts vs ls cs ts y m) {h : AHeap} (S : St vs h (.int m) (.lst (ts.map td)) ls cs) : WpSs C b_law_7 D (base ns vs ls ts m y s1 s4 ++ [.no, .no, .no, .no, .no, .no, .no, .no]) h := by
  have hz1 : sizeLine = 16777216 := rfl
  have ll := F.ll
  show WpSs C b_law_7 D [.val (.ro (il ns)), .val s1, .val (.lst (il vs)), .val (.lst (ls.map lsv)), s4, .val (kno m (.lst (ts.map td)) ls 0), .val (.adr 1), .val y, .no, .no, .no, .no, .no, .no, .no, .no] h
  simp only [b_law_7, C, List.length_map, WpSs, WpS, WpE, WpEs, WpBs, WpO, WpN, WpI, WpC, WpT, getS, setS, tgK, setsS, wipeS, k_add, k_addT, k_sub, k_mul, k_fdiv, k_mod, k_neg, k_lt, k_le, k_gt, k_ge, k_eqI, k_neI, k_eqS, k_neS, k_eqB, k_neB, k_is, k_isn, isNon_non, isNon_int, isNon_str, isNon_lst, isNon_tup, isNon_adr, k_lenS, k_lenL, k_lenR, k_lenT, k_int, k_str, k_abs, tru_bl, augK, ctx_call, ctx_glob, k_in, k_nin, k_inS]
  refine ⟨⟨by omega, by omega⟩, ?_⟩
  rw [Int.toNat_natCast]
  refine for_inv (fun i ρ h' => St vs h' (.int m) (.lst (ts.map td)) ls cs ∧ ∃ s8 s9 s10 s11 s12 s13, ρ = [.val (.ro (il ns)), .val s1, .val (.lst (il vs)), .val (.lst (ls.map lsv)), s4, .val (kno m (.lst (ts.map td)) ls 0), .val (.adr 1), .val y, s8, s9, s10, s11, s12, s13, .no, .no]) ⟨S, _, _, _, _, _, _, rfl⟩ (fun _ _ _ _ _ => by trivial) ?_ ?_
  · rintro num x _ h D' hx ⟨S, s8, s9, s10, s11, s12, s13, rfl⟩ kn kc kr kb
    obtain ⟨hnum, rfl⟩ := items_range hx
    simp only [b_law_5, WpSs, WpS, WpE, WpEs, WpBs, WpO, WpN, WpI, WpC, WpT, getS, setS, tgK, setsS, wipeS, k_add, k_addT, k_sub, k_mul, k_fdiv, k_mod, k_neg, k_lt, k_le, k_gt, k_ge, k_eqI, k_neI, k_eqS, k_neS, k_eqB, k_neB, k_is, k_isn, isNon_non, isNon_int, isNon_str, isNon_lst, isNon_tup, isNon_adr, k_lenS, k_lenL, k_lenR, k_lenT, k_int, k_str, k_abs, tru_bl, augK, ctx_call, ctx_glob, k_in, k_nin, k_inS]
    refine asked_ok S.c F.cl F.lo F.ll F.co hnum fun xs => ?_
    simp only [viewT_lst]
    refine for_inv (fun i ρ h' => h' = h ∧ ∃ s9 s10, ρ = [.val (.ro (il ns)), .val s1, .val (.lst (il vs)), .val (.lst (ls.map lsv)), s4, .val (kno m (.lst (ts.map td)) ls 0), .val (.adr 1), .val y, .val (.int (num : Int)), s9, s10, s11, s12, s13, .no, .no]) ⟨rfl, _, _, rfl⟩ (fun _ _ _ _ _ => by trivial) ?_ ?_
    · rintro i x _ h D2 hx2 ⟨rfl, s9, s10, rfl⟩ kn2 kc2 kr2 kb2
      obtain ⟨k, hk, rfl⟩ := items_map hx2
      simp only [b_law_1, WpSs, WpS, WpE, WpEs, WpBs, WpO, WpN, WpI, WpC, WpT, getS, setS, tgK, setsS, wipeS, k_add, k_addT, k_sub, k_mul, k_fdiv, k_mod, k_neg, k_lt, k_le, k_gt, k_ge, k_eqI, k_neI, k_eqS, k_neS, k_eqB, k_neB, k_is, k_isn, isNon_non, isNon_int, isNon_str, isNon_lst, isNon_tup, isNon_adr, k_lenS, k_lenL, k_lenR, k_lenT, k_int, k_str, k_abs, tru_bl, augK, ctx_call, ctx_glob, k_in, k_nin, k_inS]
      refine value_at_ok (F.vy h) F.yn S.k F.lo F.co hnum ?_
      have b := V_bd F.lo F.co k (num + 1) num (by omega) hnum
      refine k_repr (d := .int (V vs ls cs num k)) (by simp only [pdH]) (sh_one b) ?_
      refine told_ok S.c F.lo (by omega) F.co hnum ?_
      refine k_repr (d := .int (V vs ls cs num k)) (by simp only [pdH]) (sh_one b) ?_
      simp only [decide_true, Bool.not_true, Bool.false_eq_true, if_false, WpSs, WpS, WpE, WpEs, WpBs, WpO, WpN, WpI, WpC, WpT, getS, setS, tgK, setsS, wipeS, k_add, k_addT, k_sub, k_mul, k_fdiv, k_mod, k_neg, k_lt, k_le, k_gt, k_ge, k_eqI, k_neI, k_eqS, k_neS, k_eqB, k_neB, k_is, k_isn, isNon_non, isNon_int, isNon_str, isNon_lst, isNon_tup, isNon_adr, k_lenS, k_lenL, k_lenR, k_lenT, k_int, k_str, k_abs, tru_bl, augK, ctx_call, ctx_glob, k_in, k_nin, k_inS]
      exact kn2 _ _ ⟨rfl, _, _, rfl⟩
    · rintro _ h ⟨rfl, s9, s10, rfl⟩
      exact law_4_ok (ns := ns) (s1 := s1) (s4 := s4) F hnum S fun h s9 s10 s11 s12 s13 S => kn _ _ ⟨S, _, _, _, _, _, _, rfl⟩
  · rintro _ h ⟨S, s8, s9, s10, s11, s12, s13, rfl⟩
    exact law_6_ok (ns := ns) (s1 := s1) (s4 := s4) F S
end
end K15

set_option maxRecDepth 100000
set_option maxHeartbeats 4000000
namespace K15
open PySem L2 VL
theorem smalls_ok {n k : Nat} {ds : List Int} {h : AHeap} {Q : List AV → AHeap → Prop} (hl : ds.length = k) (q : ∀ ws : List Int, ws.length = k → VB ws → Q (il ws) h) :
    compL (fun x h2 R => callN P (n+1) 10 [x] h2 fun y h3 => R (some y) h3) (fun _ => True) (il ds) [] h Q := by
  refine comp_inv (fun i acc h' => h' = h ∧ ∃ ws : List Int, acc = il ws ∧ ws.length = i ∧ VB ws) ⟨rfl, [], rfl, rfl, (fun _ h => by cases h)⟩ (fun _ _ _ _ _ => trivial) ?_ ?_
  · rintro i x _ _ R hx ⟨rfl, ws, rfl, rfl, hw⟩ k1 k2
    obtain ⟨a, ha, rfl⟩ := items_map hx
    refine small_ok fun c c1 c2 => ?_
    refine k1 _ _ ⟨rfl, _, int_one _ _, by simp, ?_⟩
    intro x hx
    rcases List.mem_append.mp hx with hx | hx
    · exact hw x hx
    · rw [List.mem_singleton.mp hx]
      exact ⟨c1, c2⟩
  · rintro _ _ ⟨rfl, ws, rfl, hk, hw⟩
    rw [List.length_map, hl] at hk
    exact q ws hk hw
theorem law_pure (ns : List Int) (hn : ns.length ≤ 63) : callN P 8 16 [.ro (ns.map AV.int)] [] fun d _ => d = .bl true := by
  refine ⟨rfl, ?_⟩
  have hz1 : sizeLine = 16777216 := rfl
  have t9 : (10 : Int) ^ ((9 : Int).toNat) = 1000000000 := by decide
  show WpSs C b_law D [.val (.ro (il ns)), .no, .no, .no, .no, .no, .no, .no, .no, .no, .no, .no, .no, .no, .no, .no] []
  simp only [b_law, C, D, WpSs, WpS, WpE, WpEs, WpBs, WpO, WpN, WpI, WpC, WpT, getS, setS, tgK, setsS, wipeS, k_add, k_addT, k_sub, k_mul, k_fdiv, k_mod, k_neg, k_lt, k_le, k_gt, k_ge, k_eqI, k_neI, k_eqS, k_neS, k_eqB, k_neB, k_is, k_isn, isNon_non, isNon_int, isNon_str, isNon_lst, isNon_tup, isNon_adr, k_lenS, k_lenL, k_lenR, k_lenT, k_int, k_str, k_abs, tru_bl, augK, ctx_call, ctx_glob, k_in, k_nin, k_inS]
  refine ⟨by show 3 ≤ _; omega, ?_⟩
  refine draws_ok (ss := [4, 4, 2]) (sizes_of (by decide)) (by decide) fun sh dl hd => ?_
  have dl : sh.length = 3 := dl
  have d0 : 0 ≤ sh[0] ∧ sh[0] < 4 := hd 0 (by omega) (by decide)
  have d1 : 0 ≤ sh[1] ∧ sh[1] < 4 := hd 1 (by omega) (by decide)
  obtain ⟨a, ha⟩ := nat_of d0.1
  obtain ⟨b, hb⟩ := nat_of d1.1
  have sb : ∀ (j : Nat) (hj : j < 3) {h : AHeap} {Q : KA}, Q (.int sh[j]) → subK h (.lst (il sh)) (.int (j : Int)) Q := fun j hj _ _ q => k_subIl (by omega) q
  have ea : (1 : Int) + (a : Int) = ((a + 1 : Nat) : Int) := by omega
  have eb : (1 : Int) + (b : Int) = ((b + 1 : Nat) : Int) := by omega
  refine sb 0 (by decide) ?_
  simp only [ha, ea, WpSs, WpS, WpE, WpEs, WpBs, WpO, WpN, WpI, WpC, WpT, getS, setS, tgK, setsS, wipeS, k_add, k_addT, k_sub, k_mul, k_fdiv, k_mod, k_neg, k_lt, k_le, k_gt, k_ge, k_eqI, k_neI, k_eqS, k_neS, k_eqB, k_neB, k_is, k_isn, isNon_non, isNon_int, isNon_str, isNon_lst, isNon_tup, isNon_adr, k_lenS, k_lenL, k_lenR, k_lenT, k_int, k_str, k_abs, tru_bl, augK, ctx_call, ctx_glob, k_in, k_nin, k_inS]
  refine ⟨⟨by omega, by omega⟩, by simp; omega, ?_⟩
  rw [Int.toNat_natCast]
  refine comp_ints (fun _ => 1000000000) (fun i x R hx r => by simp only [if_true, k_pow, t9, WpSs, WpS, WpE, WpEs, WpBs, WpO, WpN, WpI, WpC, WpT, getS, setS, tgK, setsS, wipeS, k_add, k_addT, k_sub, k_mul, k_fdiv, k_mod, k_neg, k_lt, k_le, k_gt, k_ge, k_eqI, k_neI, k_eqS, k_neS, k_eqB, k_neB, k_is, k_isn, isNon_non, isNon_int, isNon_str, isNon_lst, isNon_tup, isNon_adr, k_lenS, k_lenL, k_lenR, k_lenT, k_int, k_str, k_abs, tru_bl, augK, ctx_call, ctx_glob, k_in, k_nin, k_inS]; exact ⟨⟨by decide, by decide, by decide⟩, r⟩) ?_
  simp only [List.length_map, List.length_range]
  refine draws_ok (sizes_of fun s hs => by obtain ⟨i, _, rfl⟩ := List.mem_map.mp hs; decide) (by simp; omega) fun ds dl2 _ => ?_
  have dl2 : ds.length = a + 1 := by simpa using dl2
  simp only [viewT_lst, List.length_map, if_true, WpSs, WpS, WpE, WpEs, WpBs, WpO, WpN, WpI, WpC, WpT, getS, setS, tgK, setsS, wipeS, k_add, k_addT, k_sub, k_mul, k_fdiv, k_mod, k_neg, k_lt, k_le, k_gt, k_ge, k_eqI, k_neI, k_eqS, k_neS, k_eqB, k_neB, k_is, k_isn, isNon_non, isNon_int, isNon_str, isNon_lst, isNon_tup, isNon_adr, k_lenS, k_lenL, k_lenR, k_lenT, k_int, k_str, k_abs, tru_bl, augK, ctx_call, ctx_glob, k_in, k_nin, k_inS]
  refine ⟨by omega, ?_⟩
  refine smalls_ok (k := a + 1) dl2 fun vs vl vb => ?_
  refine sb 1 (by decide) ?_
  simp only [hb, eb, WpSs, WpS, WpE, WpEs, WpBs, WpO, WpN, WpI, WpC, WpT, getS, setS, tgK, setsS, wipeS, k_add, k_addT, k_sub, k_mul, k_fdiv, k_mod, k_neg, k_lt, k_le, k_gt, k_ge, k_eqI, k_neI, k_eqS, k_neS, k_eqB, k_neB, k_is, k_isn, isNon_non, isNon_int, isNon_str, isNon_lst, isNon_tup, isNon_adr, k_lenS, k_lenL, k_lenR, k_lenT, k_int, k_str, k_abs, tru_bl, augK, ctx_call, ctx_glob, k_in, k_nin, k_inS]
  refine lists_ok vb (by omega) (by omega) fun ls ts ll lo tl tb => ?_
  simp only [List.length_map, WpSs, WpS, WpE, WpEs, WpBs, WpO, WpN, WpI, WpC, WpT, getS, setS, tgK, setsS, wipeS, k_add, k_addT, k_sub, k_mul, k_fdiv, k_mod, k_neg, k_lt, k_le, k_gt, k_ge, k_eqI, k_neI, k_eqS, k_neS, k_eqB, k_neB, k_is, k_isn, isNon_non, isNon_int, isNon_str, isNon_lst, isNon_tup, isNon_adr, k_lenS, k_lenL, k_lenR, k_lenT, k_int, k_str, k_abs, tru_bl, augK, ctx_call, ctx_glob, k_in, k_nin, k_inS]
  refine ⟨Nat.zero_le _, by show 4 ≤ _; omega, ?_⟩
  have e0 : (AV.lst [.int (vs.length : Int), .lst (ts.map td), .lst (ls.map lsv), .adr ([] : AHeap).length]) = kno (vs.length : Int) (.lst (ts.map td)) ls 0 := rfl
  have ep : ([] ++ [.lst []] : AHeap) = [.lst []] := rfl
  rw [e0, ep]
  refine cells_ok vb (by omega) lo (by omega) (by omega) fun cs co cl => ?_
  have kn : ∀ (i : Nat) {h : AHeap} {d : AV} {Q : KA}, ([AV.int (vs.length : Int), .lst (ts.map td), .lst (ls.map lsv), .adr 0] : List AV)[i]? = some d → i < 4 → Q d → subK h (kno (vs.length : Int) (.lst (ts.map td)) ls 0) (.int (i : Int)) Q := by
    intro i h d Q e hi q
    refine k_subL (xs := [.int (vs.length : Int), .lst (ts.map td), .lst (ls.map lsv), .adr 0]) rfl (fun _ h => by cases h) ?_ q
    rw [VL.atI_nat (by exact hi)]
    exact e
  refine kn 0 rfl (by decide) ?_
  refine kn 1 rfl (by decide) ?_
  simp only [viewT_lst]
  refine kn 2 rfl (by decide) ?_
  simp only [viewT_lst]
  refine kn 3 rfl (by decide) ?_
  have hvc : viewT [.lst (cs.map cev)] (.adr 0) = some (cs.map cev) := rfl
  have ini : (ctxOf P (callN P 7)).init 0 = some 5 := rfl
  simp only [hvc, ini]
  refine ⟨Nat.zero_le _, Nat.zero_le _, ?_⟩
  refine init_ok (n := 6) (c0 := .lst (cs.map cev)) ?_
  have go : ∀ y : AV, y = .lst (il vs) ∨ y = .tup (il vs) → WpSs C b_law_7 D (base ns vs ls ts (vs.length : Int) y (.lst (il sh)) (.val (.lst (ts.map td))) ++ [.no, .no, .no, .no, .no, .no, .no, .no]) [.lst (cs.map cev), .obj 0 [("many", .int (vs.length : Int)), ("differences", .lst (ts.map td)), ("lists", .lst (ls.map lsv)), ("cells", .lst (cs.map cev)), ("taken", .lst []), ("fresh", .lst [])]] := by
    intro y hy
    exact law_7_ok ⟨by omega, vb, by omega, lo, co, cl, tb, by omega, hy, by omega, by omega⟩ ⟨rfl, ⟨rfl⟩⟩
  refine sb 2 (by decide) ?_
  simp only [WpSs, WpS, WpE, WpEs, WpBs, WpO, WpN, WpI, WpC, WpT, getS, setS, tgK, setsS, wipeS, k_add, k_addT, k_sub, k_mul, k_fdiv, k_mod, k_neg, k_lt, k_le, k_gt, k_ge, k_eqI, k_neI, k_eqS, k_neS, k_eqB, k_neB, k_is, k_isn, isNon_non, isNon_int, isNon_str, isNon_lst, isNon_tup, isNon_adr, k_lenS, k_lenL, k_lenR, k_lenT, k_int, k_str, k_abs, tru_bl, augK, ctx_call, ctx_glob, k_in, k_nin, k_inS]
  refine ite_b (fun _ => ?_) (fun _ => go _ (.inl rfl))
  exact go _ (.inr rfl)
end K15

namespace K15
open PySem L2 VL
theorem all_mk {K : PySem.W.Frag} {h : Heap} {mg : Str → Option Value} {fa : Addr} (X : K.In h) (G : h.Ns mainGlobals mg) (hfa : mg "law" = some (.ref fa))
    {f0 f1 f2 f3 f4 f5 f6 f7 f8 f9 f10 f11 f12 f13 f14 f15 f16 C0 : Addr} {od0 an0 od1 an1 od2 an2 od3 an3 od4 an4 od5 an5 od6 an6 od7 an7 od8 an8 od9 an9 od10 an10 od11 an11 od12 an12 od13 an13 od14 an14 od15 an15 od16 an16 : Option Addr} {sl0 sl1 sl2 sl3 sl4 sl5 sl6 sl7 sl8 sl9 sl10 sl11 sl12 sl13 sl14 sl15 sl16 : Array (Option Value)} {oc0 kV0 dc0 pm0 cd0 ct0 oc1 kV1 dc1 pm1 cd1 ct1 oc2 kV2 dc2 pm2 cd2 ct2 oc3 kV3 dc3 pm3 cd3 ct3 oc4 kV4 dc4 pm4 cd4 ct4 oc5 kV5 dc5 pm5 cd5 ct5 oc6 kV6 dc6 pm6 cd6 ct6 oc7 kV7 dc7 pm7 cd7 ct7 oc8 kV8 dc8 pm8 cd8 ct8 oc9 kV9 dc9 pm9 cd9 ct9 oc10 kV10 dc10 pm10 cd10 ct10 oc11 kV11 dc11 pm11 cd11 ct11 oc12 kV12 dc12 pm12 cd12 ct12 oc13 kV13 dc13 pm13 cd13 ct13 oc14 kV14 dc14 pm14 cd14 ct14 oc15 kV15 dc15 pm15 cd15 ct15 oc16 kV16 dc16 pm16 cd16 ct16 : Value} 
    (a0 : PySem.W.nsIn K mainGlobals "form_value" = some (some (.ref f0)))
    (l0 : K.lookup f0 = some ⟨oc0, od0, .func (PySem.W.fnOf "form_value" "form_value" (defArgs t0.st) (defBody t0.st) (defScope t0.st) .none kV0 dc0 pm0 an0 cd0 ct0), sl0⟩)
    (c0 : PySem.W.codeIn K cd0 "form_value" = true)
    (k0 : PySem.W.keepIn K (.ref f0) = true)
    (a1 : PySem.W.nsIn K mainGlobals "value_at" = some (some (.ref f1)))
    (l1 : K.lookup f1 = some ⟨oc1, od1, .func (PySem.W.fnOf "value_at" "value_at" (defArgs t1.st) (defBody t1.st) (defScope t1.st) .none kV1 dc1 pm1 an1 cd1 ct1), sl1⟩)
    (c1 : PySem.W.codeIn K cd1 "value_at" = true)
    (k1 : PySem.W.keepIn K (.ref f1) = true)
    (a2 : PySem.W.nsIn K mainGlobals "content" = some (some (.ref f2)))
    (l2 : K.lookup f2 = some ⟨oc2, od2, .func (PySem.W.fnOf "content" "content" (defArgs t2.st) (defBody t2.st) (defScope t2.st) .none kV2 dc2 pm2 an2 cd2 ct2), sl2⟩)
    (c2 : PySem.W.codeIn K cd2 "content" = true)
    (k2 : PySem.W.keepIn K (.ref f2) = true)
    (a3 : PySem.W.nsIn K mainGlobals "_law_cell" = some (some (.ref f3)))
    (l3 : K.lookup f3 = some ⟨oc3, od3, .func (PySem.W.fnOf "_law_cell" "_law_cell" (defArgs t3.st) (defBody t3.st) (defScope t3.st) .none kV3 dc3 pm3 an3 cd3 ct3), sl3⟩)
    (c3 : PySem.W.codeIn K cd3 "_law_cell" = true)
    (k3 : PySem.W.keepIn K (.ref f3) = true)
    (a4 : PySem.W.nsIn K mainGlobals "_law_draws" = some (some (.ref f4)))
    (l4 : K.lookup f4 = some ⟨oc4, od4, .func (PySem.W.fnOf "_law_draws" "_law_draws" (defArgs t4.st) (defBody t4.st) (defScope t4.st) .none kV4 dc4 pm4 an4 cd4 ct4), sl4⟩)
    (c4 : PySem.W.codeIn K cd4 "_law_draws" = true)
    (k4 : PySem.W.keepIn K (.ref f4) = true)
    (a5 : PySem.W.findIn K (.ref C0) "__init__" = some (some (.ref f5)))
    (i5 : PySem.W.isFn K (.ref f5) = true)
    (l5 : K.lookup f5 = some ⟨oc5, od5, .func (PySem.W.fnOf "__init__" "Known.__init__" (defArgs t5.st) (defBody t5.st) (defScope t5.st) .none kV5 dc5 pm5 an5 cd5 ct5), sl5⟩)
    (c5 : PySem.W.codeIn K cd5 "Known.__init__" = true)
    (k5 : PySem.W.keepIn K (.ref f5) = true)
    (a6 : PySem.W.findIn K (.ref C0) "length" = some (some (.ref f6)))
    (i6 : PySem.W.isFn K (.ref f6) = true)
    (l6 : K.lookup f6 = some ⟨oc6, od6, .func (PySem.W.fnOf "length" "Known.length" (defArgs t6.st) (defBody t6.st) (defScope t6.st) .none kV6 dc6 pm6 an6 cd6 ct6), sl6⟩)
    (c6 : PySem.W.codeIn K cd6 "Known.length" = true)
    (k6 : PySem.W.keepIn K (.ref f6) = true)
    (a7 : PySem.W.nsIn K mainGlobals "_law_at_most" = some (some (.ref f7)))
    (l7 : K.lookup f7 = some ⟨oc7, od7, .func (PySem.W.fnOf "_law_at_most" "_law_at_most" (defArgs t7.st) (defBody t7.st) (defScope t7.st) .none kV7 dc7 pm7 an7 cd7 ct7), sl7⟩)
    (c7 : PySem.W.codeIn K cd7 "_law_at_most" = true)
    (k7 : PySem.W.keepIn K (.ref f7) = true)
    (a8 : PySem.W.nsIn K mainGlobals "_law_of" = some (some (.ref f8)))
    (l8 : K.lookup f8 = some ⟨oc8, od8, .func (PySem.W.fnOf "_law_of" "_law_of" (defArgs t8.st) (defBody t8.st) (defScope t8.st) .none kV8 dc8 pm8 an8 cd8 ct8), sl8⟩)
    (c8 : PySem.W.codeIn K cd8 "_law_of" = true)
    (k8 : PySem.W.keepIn K (.ref f8) = true)
    (a9 : PySem.W.nsIn K mainGlobals "_law_length" = some (some (.ref f9)))
    (l9 : K.lookup f9 = some ⟨oc9, od9, .func (PySem.W.fnOf "_law_length" "_law_length" (defArgs t9.st) (defBody t9.st) (defScope t9.st) .none kV9 dc9 pm9 an9 cd9 ct9), sl9⟩)
    (c9 : PySem.W.codeIn K cd9 "_law_length" = true)
    (k9 : PySem.W.keepIn K (.ref f9) = true)
    (a10 : PySem.W.nsIn K mainGlobals "_law_small" = some (some (.ref f10)))
    (l10 : K.lookup f10 = some ⟨oc10, od10, .func (PySem.W.fnOf "_law_small" "_law_small" (defArgs t10.st) (defBody t10.st) (defScope t10.st) .none kV10 dc10 pm10 an10 cd10 ct10), sl10⟩)
    (c10 : PySem.W.codeIn K cd10 "_law_small" = true)
    (k10 : PySem.W.keepIn K (.ref f10) = true)
    (a11 : PySem.W.nsIn K mainGlobals "_law_form_for" = some (some (.ref f11)))
    (l11 : K.lookup f11 = some ⟨oc11, od11, .func (PySem.W.fnOf "_law_form_for" "_law_form_for" (defArgs t11.st) (defBody t11.st) (defScope t11.st) .none kV11 dc11 pm11 an11 cd11 ct11), sl11⟩)
    (c11 : PySem.W.codeIn K cd11 "_law_form_for" = true)
    (k11 : PySem.W.keepIn K (.ref f11) = true)
    (a12 : PySem.W.nsIn K mainGlobals "_law_told" = some (some (.ref f12)))
    (l12 : K.lookup f12 = some ⟨oc12, od12, .func (PySem.W.fnOf "_law_told" "_law_told" (defArgs t12.st) (defBody t12.st) (defScope t12.st) .none kV12 dc12 pm12 an12 cd12 ct12), sl12⟩)
    (c12 : PySem.W.codeIn K cd12 "_law_told" = true)
    (k12 : PySem.W.keepIn K (.ref f12) = true)
    (a13 : PySem.W.nsIn K mainGlobals "_law_lists" = some (some (.ref f13)))
    (l13 : K.lookup f13 = some ⟨oc13, od13, .func (PySem.W.fnOf "_law_lists" "_law_lists" (defArgs t13.st) (defBody t13.st) (defScope t13.st) .none kV13 dc13 pm13 an13 cd13 ct13), sl13⟩)
    (c13 : PySem.W.codeIn K cd13 "_law_lists" = true)
    (k13 : PySem.W.keepIn K (.ref f13) = true)
    (a14 : PySem.W.nsIn K mainGlobals "_law_cells" = some (some (.ref f14)))
    (l14 : K.lookup f14 = some ⟨oc14, od14, .func (PySem.W.fnOf "_law_cells" "_law_cells" (defArgs t14.st) (defBody t14.st) (defScope t14.st) .none kV14 dc14 pm14 an14 cd14 ct14), sl14⟩)
    (c14 : PySem.W.codeIn K cd14 "_law_cells" = true)
    (k14 : PySem.W.keepIn K (.ref f14) = true)
    (a15 : PySem.W.nsIn K mainGlobals "_law_asked" = some (some (.ref f15)))
    (l15 : K.lookup f15 = some ⟨oc15, od15, .func (PySem.W.fnOf "_law_asked" "_law_asked" (defArgs t15.st) (defBody t15.st) (defScope t15.st) .none kV15 dc15 pm15 an15 cd15 ct15), sl15⟩)
    (c15 : PySem.W.codeIn K cd15 "_law_asked" = true)
    (k15 : PySem.W.keepIn K (.ref f15) = true)
    (a16 : PySem.W.nsIn K mainGlobals "law" = some (some (.ref f16)))
    (l16 : K.lookup f16 = some ⟨oc16, od16, .func (PySem.W.fnOf "law" "law" (defArgs t16.st) (defBody t16.st) (defScope t16.st) .none kV16 dc16 pm16 an16 cd16 ct16), sl16⟩)
    (c16 : PySem.W.codeIn K cd16 "law" = true)
    (k16 : PySem.W.keepIn K (.ref f16) = true)
    (aC0 : PySem.W.nsIn K mainGlobals "Known" = some (some (.ref C0)))
    (pg0 : PySem.W.plainGet K C0 Str.empty = true)
    (hd0 : PySem.W.hasDictIn K C0 = true)
    (po0 : PySem.W.plainOver K C0 = true)
    (sa0 : PySem.W.findIn K (.ref C0) "__setattr__" = some (some (.builtin "object.__setattr__")))
    (mk0 : PySem.W.makesIn K C0 = true)
    (kc0 : PySem.W.keepIn K (.ref C0) = true)
    (fl0 : PySem.W.findIn K (.ref C0) "many" = some none)
    (fl1 : PySem.W.findIn K (.ref C0) "differences" = some none)
    (fl2 : PySem.W.findIn K (.ref C0) "lists" = some none)
    (fl3 : PySem.W.findIn K (.ref C0) "cells" = some none)
    (fl4 : PySem.W.findIn K (.ref C0) "taken" = some none)
    (fl5 : PySem.W.findIn K (.ref C0) "fresh" = some none)
    (z0 : PySem.W.nsIn K mainGlobals "len" = some none)
    (z1 : PySem.W.nsIn K mainGlobals "abs" = some none)
    (z2 : PySem.W.nsIn K mainGlobals "int" = some none)
    (z3 : PySem.W.nsIn K mainGlobals "str" = some none)
    (z4 : PySem.W.nsIn K mainGlobals "max" = some none)
    (z5 : PySem.W.nsIn K mainGlobals "min" = some none)
    (z6 : PySem.W.nsIn K mainGlobals "sum" = some none)
    (z7 : PySem.W.nsIn K mainGlobals "all" = some none)
    (z8 : PySem.W.nsIn K mainGlobals "any" = some none)
    (z9 : PySem.W.nsIn K mainGlobals "tuple" = some none)
    (z10 : PySem.W.nsIn K mainGlobals "list" = some none)
    (z11 : PySem.W.nsIn K mainGlobals "range" = some none)
    (z12 : PySem.W.nsIn K mainGlobals "isinstance" = some none)
    (z13 : PySem.W.nsIn K mainGlobals "bool" = some none)
    (z14 : PySem.W.nsIn K mainGlobals "dict" = some none)
    (z15 : PySem.W.nsIn K mainGlobals "repr" = some none)
    (z16 : PySem.W.nsIn K mainGlobals "sorted" = some none)
    (z17 : PySem.W.nsIn K mainGlobals "zip" = some none)
    (z18 : PySem.W.nsIn K mainGlobals "enumerate" = some none)
    (z19 : PySem.W.nsIn K mainGlobals "reversed" = some none) :
    ∃ Cl : Nat → Addr, PFacts P T Cl ts K mg ∧ ∃ fd : FuncData, (∀ (s : Shared) (v : Value), BindsTo s fd ⟨[v], []⟩ [("_law_script", v)]) ∧ Fun K "law" "law" t16.st fa fd := by
  have e := hfa.symm.trans (PySem.W.mg_of X G a16)
  cases e
  refine ⟨fun c => ([C0] : List Addr).getD c 0, ⟨fun x hx => ?_, fun g d hg => ?_, fun f F hf => ?_, fun f x hx => ?_, fun c x hx => ?_, fun c m f hx => ?_, fun c f hx => ?_⟩, PySem.W.fnOf "law" "law" (defArgs t16.st) (defBody t16.st) (defScope t16.st) .none kV16 dc16 pm16 an16 cd16 ct16, fun s v => .of_eq rfl, fun_mk (st := t16.st) l16 c16 k16⟩
  · simp only [bltNames, List.mem_cons, List.not_mem_nil, or_false] at hx
    rcases hx with rfl | rfl | rfl | rfl | rfl | rfl | rfl | rfl | rfl | rfl | rfl | rfl | rfl | rfl | rfl | rfl | rfl | rfl | rfl | rfl
    · exact PySem.W.mg_none_of X G z0
    · exact PySem.W.mg_none_of X G z1
    · exact PySem.W.mg_none_of X G z2
    · exact PySem.W.mg_none_of X G z3
    · exact PySem.W.mg_none_of X G z4
    · exact PySem.W.mg_none_of X G z5
    · exact PySem.W.mg_none_of X G z6
    · exact PySem.W.mg_none_of X G z7
    · exact PySem.W.mg_none_of X G z8
    · exact PySem.W.mg_none_of X G z9
    · exact PySem.W.mg_none_of X G z10
    · exact PySem.W.mg_none_of X G z11
    · exact PySem.W.mg_none_of X G z12
    · exact PySem.W.mg_none_of X G z13
    · exact PySem.W.mg_none_of X G z14
    · exact PySem.W.mg_none_of X G z15
    · exact PySem.W.mg_none_of X G z16
    · exact PySem.W.mg_none_of X G z17
    · exact PySem.W.mg_none_of X G z18
    · exact PySem.W.mg_none_of X G z19
  · match g, hg with
    | g, hg => simp [P] at hg
  · match f, hf with
    | 0, hf =>
      cases hf
      have F := fun_mk (st := t0.st) l0 c0 k0
      exact ⟨t0, _, _, _, rfl, F, ag0, F.binds (ps := ["form", "values"]) fun _ _ _ _ _ _ us hl => match us, hl with | [_, _], _ => rfl, fun x hx => by cases hx; exact ⟨PySem.W.mg_of X G a0, k0⟩⟩
    | 1, hf =>
      cases hf
      have F := fun_mk (st := t1.st) l1 c1 k1
      exact ⟨t1, _, _, _, rfl, F, ag1, F.binds (ps := ["known", "values", "number", "k"]) fun _ _ _ _ _ _ us hl => match us, hl with | [_, _, _, _], _ => rfl, fun x hx => by cases hx; exact ⟨PySem.W.mg_of X G a1, k1⟩⟩
    | 2, hf =>
      cases hf
      have F := fun_mk (st := t2.st) l2 c2 k2
      exact ⟨t2, _, _, _, rfl, F, ag2, F.binds (ps := ["known", "values", "number"]) fun _ _ _ _ _ _ us hl => match us, hl with | [_, _, _], _ => rfl, fun x hx => by cases hx; exact ⟨PySem.W.mg_of X G a2, k2⟩⟩
    | 3, hf =>
      cases hf
      have F := fun_mk (st := t3.st) l3 c3 k3
      exact ⟨t3, _, _, _, rfl, F, ag3, F.binds (ps := ["_law_script", "_law_k"]) fun _ _ _ _ _ _ us hl => match us, hl with | [_, _], _ => rfl, fun x hx => by cases hx; exact ⟨PySem.W.mg_of X G a3, k3⟩⟩
    | 4, hf =>
      cases hf
      have F := fun_mk (st := t4.st) l4 c4 k4
      exact ⟨t4, _, _, _, rfl, F, ag4, F.binds (ps := ["_law_script", "_law_place", "_law_sizes"]) fun _ _ _ _ _ _ us hl => match us, hl with | [_, _, _], _ => rfl, fun x hx => by cases hx; exact ⟨PySem.W.mg_of X G a4, k4⟩⟩
    | 5, hf =>
      cases hf
      have F := fun_mk (st := t5.st) l5 c5 k5
      exact ⟨t5, _, _, _, rfl, F, ag5, F.binds (ps := ["self", "many", "differences", "lists", "cells", "taken", "fresh"]) fun _ _ _ _ _ _ us hl => match us, hl with | [_, _, _, _, _, _, _], _ => rfl, fun x hx => by cases hx⟩
    | 6, hf =>
      cases hf
      have F := fun_mk (st := t6.st) l6 c6 k6
      exact ⟨t6, _, _, _, rfl, F, ag6, F.binds (ps := ["self", "number"]) fun _ _ _ _ _ _ us hl => match us, hl with | [_, _], _ => rfl, fun x hx => by cases hx⟩
    | 7, hf =>
      cases hf
      have F := fun_mk (st := t7.st) l7 c7 k7
      exact ⟨t7, _, _, _, rfl, F, ag7, F.binds (ps := ["_law_f", "_law_g"]) fun _ _ _ _ _ _ us hl => match us, hl with | [_, _], _ => rfl, fun x hx => by cases hx; exact ⟨PySem.W.mg_of X G a7, k7⟩⟩
    | 8, hf =>
      cases hf
      have F := fun_mk (st := t8.st) l8 c8 k8
      exact ⟨t8, _, _, _, rfl, F, ag8, F.binds (ps := ["_law_form", "_law_values"]) fun _ _ _ _ _ _ us hl => match us, hl with | [_, _], _ => rfl, fun x hx => by cases hx; exact ⟨PySem.W.mg_of X G a8, k8⟩⟩
    | 9, hf =>
      cases hf
      have F := fun_mk (st := t9.st) l9 c9 k9
      exact ⟨t9, _, _, _, rfl, F, ag9, F.binds (ps := ["_law_lists_here", "_law_number"]) fun _ _ _ _ _ _ us hl => match us, hl with | [_, _], _ => rfl, fun x hx => by cases hx; exact ⟨PySem.W.mg_of X G a9, k9⟩⟩
    | 10, hf =>
      cases hf
      have F := fun_mk (st := t10.st) l10 c10 k10
      exact ⟨t10, _, _, _, rfl, F, ag10, F.binds (ps := ["_law_draw"]) fun _ _ _ _ _ _ us hl => match us, hl with | [_], _ => rfl, fun x hx => by cases hx; exact ⟨PySem.W.mg_of X G a10, k10⟩⟩
    | 11, hf =>
      cases hf
      have F := fun_mk (st := t11.st) l11 c11 k11
      exact ⟨t11, _, _, _, rfl, F, ag11, F.binds (ps := ["_law_draw", "_law_values", "_law_target"]) fun _ _ _ _ _ _ us hl => match us, hl with | [_, _, _], _ => rfl, fun x hx => by cases hx; exact ⟨PySem.W.mg_of X G a11, k11⟩⟩
    | 12, hf =>
      cases hf
      have F := fun_mk (st := t12.st) l12 c12 k12
      exact ⟨t12, _, _, _, rfl, F, ag12, F.binds (ps := ["_law_known", "_law_values", "_law_number", "_law_k"]) fun _ _ _ _ _ _ us hl => match us, hl with | [_, _, _, _], _ => rfl, fun x hx => by cases hx; exact ⟨PySem.W.mg_of X G a12, k12⟩⟩
    | 13, hf =>
      cases hf
      have F := fun_mk (st := t13.st) l13 c13 k13
      exact ⟨t13, _, _, _, rfl, F, ag13, F.binds (ps := ["_law_script", "_law_count", "_law_values"]) fun _ _ _ _ _ _ us hl => match us, hl with | [_, _, _], _ => rfl, fun x hx => by cases hx; exact ⟨PySem.W.mg_of X G a13, k13⟩⟩
    | 14, hf =>
      cases hf
      have F := fun_mk (st := t14.st) l14 c14 k14
      exact ⟨t14, _, _, _, rfl, F, ag14, F.binds (ps := ["_law_script", "_law_known", "_law_values"]) fun _ _ _ _ _ _ us hl => match us, hl with | [_, _, _], _ => rfl, fun x hx => by cases hx; exact ⟨PySem.W.mg_of X G a14, k14⟩⟩
    | 15, hf =>
      cases hf
      have F := fun_mk (st := t15.st) l15 c15 k15
      exact ⟨t15, _, _, _, rfl, F, ag15, F.binds (ps := ["_law_known", "_law_values", "_law_number"]) fun _ _ _ _ _ _ us hl => match us, hl with | [_, _, _], _ => rfl, fun x hx => by cases hx; exact ⟨PySem.W.mg_of X G a15, k15⟩⟩
    | 16, hf =>
      cases hf
      have F := fun_mk (st := t16.st) l16 c16 k16
      exact ⟨t16, _, _, _, rfl, F, ag16, F.binds (ps := ["_law_script"]) fun _ _ _ _ _ _ us hl => match us, hl with | [_], _ => rfl, fun x hx => by cases hx; exact ⟨PySem.W.mg_of X G a16, k16⟩⟩
    | f + 17, hf => simp [P] at hf
  · match f, hx with
    | 0, hx => first | exact ⟨_, rfl⟩ | cases hx
    | 1, hx => first | exact ⟨_, rfl⟩ | cases hx
    | 2, hx => first | exact ⟨_, rfl⟩ | cases hx
    | 3, hx => first | exact ⟨_, rfl⟩ | cases hx
    | 4, hx => first | exact ⟨_, rfl⟩ | cases hx
    | 5, hx => first | exact ⟨_, rfl⟩ | cases hx
    | 6, hx => first | exact ⟨_, rfl⟩ | cases hx
    | 7, hx => first | exact ⟨_, rfl⟩ | cases hx
    | 8, hx => first | exact ⟨_, rfl⟩ | cases hx
    | 9, hx => first | exact ⟨_, rfl⟩ | cases hx
    | 10, hx => first | exact ⟨_, rfl⟩ | cases hx
    | 11, hx => first | exact ⟨_, rfl⟩ | cases hx
    | 12, hx => first | exact ⟨_, rfl⟩ | cases hx
    | 13, hx => first | exact ⟨_, rfl⟩ | cases hx
    | 14, hx => first | exact ⟨_, rfl⟩ | cases hx
    | 15, hx => first | exact ⟨_, rfl⟩ | cases hx
    | 16, hx => first | exact ⟨_, rfl⟩ | cases hx
    | f + 17, hx => simp [T] at hx
  · match c, hx with
    | 0, hx =>
      cases hx
      exact ⟨5, _, t5, _, _, _, rfl, rfl, rfl, fun_mk (st := t5.st) l5 c5 k5, ag5, (fun_mk (st := t5.st) l5 c5 k5).binds (ps := ["self", "many", "differences", "lists", "cells", "taken", "fresh"]) fun _ _ _ _ _ _ us hl => match us, hl with | [_, _, _, _, _, _, _], _ => rfl, PySem.W.mg_of X G aC0, ⟨mk0, a5, i5, kc0⟩⟩
    | c + 1, hx => simp [T] at hx
  · have hx := look_mem hx
    simp only [P, List.mem_cons, List.not_mem_nil, or_false, Prod.mk.injEq] at hx
    rcases hx with ⟨⟨rfl, rfl⟩, rfl⟩
    · exact ⟨_, t6, _, _, _, rfl, rfl, fun_mk (st := t6.st) l6 c6 k6, ag6, (fun_mk (st := t6.st) l6 c6 k6).binds (ps := ["self", "number"]) fun _ _ _ _ _ _ us hl => match us, hl with | [_, _], _ => rfl, ⟨pg0, hd0, po0, sa0⟩, ⟨a6, i6, k6⟩⟩
  · have hx := List.contains_iff_mem.mp hx
    simp only [P, List.mem_cons, List.not_mem_nil, or_false, Prod.mk.injEq] at hx
    rcases hx with ⟨rfl, rfl⟩ | ⟨rfl, rfl⟩ | ⟨rfl, rfl⟩ | ⟨rfl, rfl⟩ | ⟨rfl, rfl⟩ | ⟨rfl, rfl⟩
    · exact ⟨⟨pg0, hd0, po0, sa0⟩, fl0⟩
    · exact ⟨⟨pg0, hd0, po0, sa0⟩, fl1⟩
    · exact ⟨⟨pg0, hd0, po0, sa0⟩, fl2⟩
    · exact ⟨⟨pg0, hd0, po0, sa0⟩, fl3⟩
    · exact ⟨⟨pg0, hd0, po0, sa0⟩, fl4⟩
    · exact ⟨⟨pg0, hd0, po0, sa0⟩, fl5⟩
theorem walk {l : PySem.W.OpenLaw} {q : Program} {loose : List Str} {XP : (Str → Option Value) → Heap → Prop} {YP : World → Heap → Prop} {d : DefRec} {K : Params → PySem.W.Frag} (hn : l.most = some 63) (hdf : d.params.defaults = [])
    (hY : ∀ (w : World) (h : Heap), YP w h → (K w.params).In h)
    (F : ∀ (w : World) (mg : Str → Option Value) (fa : Addr) (h : Heap), (K w.params).In h → h.Ns mainGlobals mg → mg d.name = some (.ref fa) → ∃ Cl : Nat → Addr, PFacts P T Cl ts (K w.params) mg ∧ ∃ fd : FuncData, (∀ (s : Shared) (v : Value), BindsTo s fd ⟨[v], []⟩ [("_law_script", v)]) ∧ Fun (K w.params) "law" "law" t16.st fa fd) :
    PySem.W.WalkO q loose XP YP l.row.toRowW d [] (fun f vs => PySem.call f vs) :=
  walk_G (n := 63) (k := 2 * 8) (x := "_law_script") hn (by decide) hdf ⟨rfl, by decide, by decide⟩ hY fun w mg fa h KX G hm => by
    obtain ⟨Cl, PF, fd, hb, hf⟩ := F w mg fa h KX G hm
    exact ⟨fd, _, hb, fun base _ _ => fn_all PF 8 16 ⟨1, 16, b_law⟩ rfl t16 fa fd _ rfl hf ag16, law_sp law_pure⟩
end K15
open PySem PySem.W PyProof.Rows in
set_option maxRecDepth 100000 in
set_option maxHeartbeats 0 in
theorem PySem.Challenge.cw_swornrun_k15_values_and_contents_holds : PySem.Challenge.rw_swornrun_k15_values_and_contents.Holds := by
  w_on; o_law; k_head; (case hw => w_witness2)
  k_fill
  refine K15.walk (l := PySem.Challenge.rw_swornrun_k15_values_and_contents) rfl rfl (fun w h Y => PySem.W.kIn_of Y) ?F
  case F =>
    intro w mg fa h KX G hmg
    refine' K15.all_mk KX G hmg ?a0 ?l0 ?c0 ?k0 ?a1 ?l1 ?c1 ?k1 ?a2 ?l2 ?c2 ?k2 ?a3 ?l3 ?c3 ?k3 ?a4 ?l4 ?c4 ?k4 ?a5 ?i5 ?l5 ?c5 ?k5 ?a6 ?i6 ?l6 ?c6 ?k6 ?a7 ?l7 ?c7 ?k7 ?a8 ?l8 ?c8 ?k8 ?a9 ?l9 ?c9 ?k9 ?a10 ?l10 ?c10 ?k10 ?a11 ?l11 ?c11 ?k11 ?a12 ?l12 ?c12 ?k12 ?a13 ?l13 ?c13 ?k13 ?a14 ?l14 ?c14 ?k14 ?a15 ?l15 ?c15 ?k15 ?a16 ?l16 ?c16 ?k16 ?aC0 ?pg0 ?hd0 ?po0 ?sa0 ?mk0 ?kc0 ?fl0 ?fl1 ?fl2 ?fl3 ?fl4 ?fl5 ?z0 ?z1 ?z2 ?z3 ?z4 ?z5 ?z6 ?z7 ?z8 ?z9 ?z10 ?z11 ?z12 ?z13 ?z14 ?z15 ?z16 ?z17 ?z18 ?z19
    (case aC0 => k_is)
    (case a0 => k_is)
    (case l0 => k_is)
    (case c0 => k_is)
    (case k0 => k_is)
    (case a1 => k_is)
    (case l1 => k_is)
    (case c1 => k_is)
    (case k1 => k_is)
    (case a2 => k_is)
    (case l2 => k_is)
    (case c2 => k_is)
    (case k2 => k_is)
    (case a3 => k_is)
    (case l3 => k_is)
    (case c3 => k_is)
    (case k3 => k_is)
    (case a4 => k_is)
    (case l4 => k_is)
    (case c4 => k_is)
    (case k4 => k_is)
    (case a5 => k_is)
    (case i5 => k_is)
    (case l5 => k_is)
    (case c5 => k_is)
    (case k5 => k_is)
    (case a6 => k_is)
    (case i6 => k_is)
    (case l6 => k_is)
    (case c6 => k_is)
    (case k6 => k_is)
    (case a7 => k_is)
    (case l7 => k_is)
    (case c7 => k_is)
    (case k7 => k_is)
    (case a8 => k_is)
    (case l8 => k_is)
    (case c8 => k_is)
    (case k8 => k_is)
    (case a9 => k_is)
    (case l9 => k_is)
    (case c9 => k_is)
    (case k9 => k_is)
    (case a10 => k_is)
    (case l10 => k_is)
    (case c10 => k_is)
    (case k10 => k_is)
    (case a11 => k_is)
    (case l11 => k_is)
    (case c11 => k_is)
    (case k11 => k_is)
    (case a12 => k_is)
    (case l12 => k_is)
    (case c12 => k_is)
    (case k12 => k_is)
    (case a13 => k_is)
    (case l13 => k_is)
    (case c13 => k_is)
    (case k13 => k_is)
    (case a14 => k_is)
    (case l14 => k_is)
    (case c14 => k_is)
    (case k14 => k_is)
    (case a15 => k_is)
    (case l15 => k_is)
    (case c15 => k_is)
    (case k15 => k_is)
    (case a16 => k_is)
    (case l16 => k_is)
    (case c16 => k_is)
    (case k16 => k_is)
    (case pg0 => k_is)
    (case hd0 => k_is)
    (case po0 => k_is)
    (case sa0 => k_is)
    (case mk0 => k_is)
    (case kc0 => k_is)
    (case fl0 => k_is)
    (case fl1 => k_is)
    (case fl2 => k_is)
    (case fl3 => k_is)
    (case fl4 => k_is)
    (case fl5 => k_is)
    (case z0 => k_is)
    (case z1 => k_is)
    (case z2 => k_is)
    (case z3 => k_is)
    (case z4 => k_is)
    (case z5 => k_is)
    (case z6 => k_is)
    (case z7 => k_is)
    (case z8 => k_is)
    (case z9 => k_is)
    (case z10 => k_is)
    (case z11 => k_is)
    (case z12 => k_is)
    (case z13 => k_is)
    (case z14 => k_is)
    (case z15 => k_is)
    (case z16 => k_is)
    (case z17 => k_is)
    (case z18 => k_is)
    (case z19 => k_is)

